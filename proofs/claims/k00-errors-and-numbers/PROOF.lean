import PyProof.Rows.All
import Wide.All
import OpenK.AllK
import Wide.FinOn
import HandS.ForExc
import KE.KExcSuper
import HandS.ForMost
import HandS.ExcField
import HandS.ExcIs
import HandS.IsInst
import HandS.Style
import HandS.Wide
import HandS.Property
import HandS.Evl
import KE.KUnpackStar
import HandS.Walk
import HandS.TupAny
import HandS.SlotsOwn
import HandS.Records
import HandS.Flow
import HandS.OwnEq
import HandS.FStr
import PyProof.ReprRoads
import KE.KCallOwn
import PyProof.CallFns
import PyProof.EqKinds
import PyProof.NeKinds
import PyProof.FactsAll.dict
import HandS.Text
import HandS.TupMul
import PyProof.Rows.RuleB_pow
import HandS.SortKw
import PyProof.DictUpdate
import HandS.Iter
import HandS.Zip0
import PyProof.Draws
import HandS.Zip
import HandS.Star
import HandS.EndTab
import KE.KNest
import HandS.Lambda
import HandS.ClsMeth
import KE.KStateDown
import HandS.Head0
import HandS.Head1
import HandS.Head2
import HandS.HeadHook4
import HandS.HeadNt
import PyProof.InstStoreFacts
import KE.KExcPX
import HandS.ExcValue
import KE.KExcIs
import HandS.SetBool
import HandS.SetKeys
import KE.SortData
import HandS.SortRule
import HandS.DictComp
import HandS.Conv
import HandS.More
import PyProof.StrBlock2
import HandS.TryOnly
import HandS.ReplaceLit
import HandS.Nested
import HandS.NestedK
import PySem.Challenge.RW_loopfoundry_k00_errors_and_numbers
set_option Elab.async false
set_option linter.all false
set_option maxRecDepth 100000
set_option maxHeartbeats 4000000
/-! try: body / except A as n: .. / except B as n: .. : several clauses with names -/
namespace L2
open PySem PySem.Spec PyProof.Rows
/-- the ends of a suite whose name stands in slot i -/
def sufEnds (i : Nat) (D : Ends) : Ends := { nx := fun σ' H' => D.nx (σ'.set i none) H', rt := D.rt, bk := fun σ' H' => D.bk (σ'.set i none) H', ct := fun σ' H' => D.ct (σ'.set i none) H' }
/-- what the clauses wish of an exception of the body, one behind the other: its class, the name's slot, the suite -/
def wAsM (K : PySem.W.Frag) (Wout : WX) (D : Ends) : List (Value × Nat × (Addr → Value → Option Addr → TS)) → WX
  | [] => Wout
  | (c, i, ts) :: r => fun cls d σ H => ∃ b, PySem.W.exmOne K cls c = some b ∧ (b = true → ∀ a, H a = none → ts a cls d (sufEnds i D) (σ.set i (some (.ref a))) H) ∧ (b = false → wAsM K Wout D r cls d σ H)
inductive HdA (X : Cx) : List ExceptHandler → List (Value × Nat × (Addr → Value → Option Addr → TS)) → Prop
  | nil : HdA X [] []
  | cons {x n : Str} {c : Value} {i : Nat} {ts : Addr → Value → Option Addr → TS} {b₀ : Stmt} {suite : List Stmt} {np pos' : Pos} {hds : List ExceptHandler} {l : List (Value × Nat × (Addr → Value → Option Addr → TS))}
      (hi : X.N[i]? = some n) (hln : X.env.kindOf n = some .local) (hc : Names X x c)
      (hsu : ∀ (a : Addr) (oe : Obj) (cls : Value) (d : Option Addr) (pn : List (Addr × Obj)), Zc cls d oe → (∃ vs, oe.data = .fields vs) → PSs (X.suite a ((a, oe) :: pn)) (b₀ :: suite) (ts a cls d)) (r : HdA X hds l) :
      HdA X (.ExceptHandler (some (.Name x np)) (some n) (b₀ :: suite) pos' :: hds) ((c, i, ts) :: l)
section
variable {X : Cx} {body : List Stmt} {h₀ : ExceptHandler} {hds : List ExceptHandler} {l : List (Value × Nat × (Addr → Value → Option Addr → TS))} {pos : Pos} {tb : WX → TS} {Wout : WX}
theorem ps_try_asM (hs : X.stack = X.env :: X.outer) (hf : X.env.frame = some X.env.locals) (hN : X.N.Nodup) (tk : Takes X Wout)
    (hb : ∀ (W : WX) (pn : List (Addr × Obj)) (xe : Value → Shared → Prop), Takes (X.tr pn xe) W → PassesOwn (model X.prog X.w) X.A X.env xe → PSs (X.tr pn xe) body (tb W))
    (hh : HdA X (h₀ :: hds) l) : PS X (.Try body (h₀ :: hds) [] [] pos) (fun D σ H => tb (wAsM X.K Wout D l) D σ H) := by
  refine ⟨fun pins s σ H D I h => ?_⟩
  have ok := I.ok
  have hfr : X.A.frames = some (X.env :: X.outer) := by rw [ok.frames, hs]
  refine wpAny_Try_except ?_
  refine wpAny_mono ((hb (wAsM X.K Wout D l) (X.pn ++ pins) (fun e s₁ => wpAny (model X.prog X.w) X.A (noteFrame e X.env) (fun _ s₂ => wpAny (model X.prog X.w) X.A (setFlight e none) (fun _ s₃ =>
    wpAny (model X.prog X.w) X.A (handleBy e X.env (h₀ :: hds)) (SP X pins D) X.xe s₃) X.xe s₂) X.xe s₁) (fun u s' xx => ?_) PassesOwn.looking).run [] s σ H D (I.toTry _) h) (fun f s1 hsp => ?_) (fun e s1 he => he)
  · obtain ⟨a, B, sI, pins', σ', H', cls, d, rfl, J', nb, up, sky, na, os, ag, w⟩ := xx
    have J : Inv X pins σ' H' sI := J'.ofTry ok
    have sky' : Sky B (X.env :: X.outer) a (Zc cls d) X.env.locals s'.heap := by rw [← hs]; exact sky
    show wpAny (model X.prog X.w) X.A (noteFrame (.ref a) X.env) _ _ _
    refine Sky.land Zc.steady hfr hf sky' fun h3 fl3 up3 => ?_
    have J3 : Inv X pins σ' H' { s' with heap := h3 } := J.landed nb fl3.1 (up.trans up3) os ag
    obtain ⟨oe3, vs3, he3, hz3, hd3⟩ := fl3.there
    have nfr : a ∉ frs (X.env :: X.outer) := fun hm => by
      obtain ⟨_, o', e', hnf⟩ := fl3.2.2.1.mem hm
      rw [he3] at e'; cases e'
      exact hnf _ hd3
    have nL : a ≠ X.env.locals := fun z => nfr (List.mem_filterMap.mpr ⟨X.env, List.mem_cons_self, by rw [hf, z]⟩)
    have nF : a ∉ X.fs := fun hm => by
      obtain ⟨e, he, q⟩ := List.mem_filterMap.mp hm
      exact nfr (List.mem_filterMap.mpr ⟨e, List.mem_cons_of_mem _ he, q⟩)
    have S3 := J3.suite he3 hd3 na nL nF
    have go : ∀ {hds' : List ExceptHandler} {l' : List (Value × Nat × (Addr → Value → Option Addr → TS))}, HdA X hds' l' → wAsM X.K Wout D l' cls d σ' H' →
        wpAny (model X.prog X.w) X.A (handleBy (.ref a) X.env hds') (SP X pins D) X.xe { s' with heap := h3 } := by
      intro hds' l' hk
      induction hk with
      | nil =>
        intro w
        refine wpAny_handleBy_nil ?_
        obtain ⟨k1, k2, k3, oe, vs, T, oT, ts', he, hz, hd, h1, hr⟩ := id fl3
        unfold PySem.passOn
        refine wpAny_bind (wpAny_field he hd h1 ?_)
        rw [if_neg (show ¬ ((Value.ref T == Value.none) = true) from by simp)]
        have fin : wpAny (model X.prog X.w) X.A (setFlight (.ref a) X.env.frame) (fun _ s4 => wpAny (model X.prog X.w) X.A (throw (.ref a) : Sem Flow) (SP X pins D) X.xe s4) X.xe { s' with heap := h3 } := by
          rw [hf]
          refine HandSPX.setFlight_upZ fl3 fun h4 hh4 up4 => wpAny_throw (tk _ _ ?_)
          exact ⟨a, B, sI, pins, σ', H', cls, d, rfl, J, nb, (up.trans up3).trans up4, .inr (.inr (by rw [hs]; exact hh4)), na, os, ag, w⟩
        first
          | exact wpAny_bind (wpAny_pure (wpAny_bind fin))
          | exact wpAny_bind fin
      | @cons x n c i ts b₀ suite np pos' hds2 l2 hi hln hc hsu r ih =>
        intro w
        obtain ⟨b, hb1, hyes, hno⟩ := w
        have hloc : Loc X.env.scope n := .inl hln
        refine wpAny_handleBy_cons (codeAny_handlers_test ?_) (by intro q; cases q)
        have LT : PySem.W.Looks (model X.prog X.w) h3 (typeOf (.ref a)) cls := fun A Q E s k q => wpAny_typeOf_ref (k _ _ he3) (by rw [hz3.1]; exact q)
        have LM := PySem.W.exm_one (M := model X.prog X.w) (J3.kIn) LT hb1
        have test : ∀ {Q : Value → Shared → Prop} {E : Value → Shared → Prop}, Q c { s' with heap := h3 } → wpAny (model X.prog X.w) (X.A.mark (some (.ref a))) (eval (.Name x np) X.env) Q E { s' with heap := h3 } := fun {Q E} q => by
          obtain ⟨hg, hdbg, hm | ⟨hm, hv, hnn⟩⟩ := hc
          · exact ld_glob (X := X.suite a ((a, oe3) :: (X.pn ++ pins))) S3 hg hm q hdbg
          · exact ld_blt (X := X.suite a ((a, oe3) :: (X.pn ++ pins))) S3 hg hm hv q hnn hdbg
        refine test (LM.here ?_)
        cases b with
        | true =>
          refine codeAny_handlers_suite_as ?_
          refine HandSPX.lands_againZ fl3 fun h4 fl4 up4 => ?_
          have J4 : Inv X pins σ' H' { s' with heap := h4 } := J.landed nb fl4.1 ((up.trans up3).trans up4) os ag
          obtain ⟨oe4, vs4, he4, hz4, hd4⟩ := fl4.there
          have S4 := J4.suite he4 hd4 na nL nF
          refine store_ok (X := X.suite a ((a, oe4) :: (X.pn ++ pins))) (v := .ref a) S4 hN hi hloc rfl (fun s5 S5 => ?_) (.inr hln)
          refine wpAny_mono ((hsu a oe4 cls d (X.pn ++ pins) hz4 ⟨_, hd4⟩).run [] s5 _ H' _ S5 (hyes rfl a na)) (fun f s6 hsp => ?_) (fun _ _ z => False.elim z)
          have end_ : ∀ {σ6 : St} {H6 : Hp} {Q : Shared → Prop}, Inv (X.suite a ((a, oe4) :: (X.pn ++ pins))) [] σ6 H6 s6 → (∀ s7, Inv X pins (σ6.set i none) H6 s7 → Q s7) →
              wpAny (model X.prog X.w) X.A (do bindName X.env n .none; unbindBehindTheSuite X.env n pos') (fun _ s7 => Q s7) X.xe s6 := fun {σ6 H6 Q} S6 hq => gone_ok (S6.unsuite ok) hN hi hln hq
          cases f with
          | next =>
            obtain ⟨σ6, H6, S6, q6⟩ := hsp
            exact end_ S6 fun s7 J7 => ⟨_, _, J7, q6⟩
          | brk =>
            obtain ⟨σ6, H6, S6, q6⟩ := hsp
            exact end_ S6 fun s7 J7 => ⟨_, _, J7, q6⟩
          | cont =>
            obtain ⟨σ6, H6, S6, q6⟩ := hsp
            exact end_ S6 fun s7 J7 => ⟨_, _, J7, q6⟩
          | ret u =>
            obtain ⟨v6, σ6, H6, S6, r6, q6⟩ := hsp
            exact end_ S6 fun s7 J7 => ⟨_, _, _, J7, r6, q6⟩
        | false =>
          show wpAny _ X.A (handleBy (.ref a) X.env hds2) _ _ _
          exact ih (hno rfl)
    exact go hh w
  · cases f with
    | next =>
      obtain ⟨σ', H', J', q⟩ := hsp
      exact wpAny_execs_nil ⟨σ', H', J'.ofTry ok, q⟩
    | brk =>
      obtain ⟨σ', H', J', q⟩ := hsp
      exact ⟨σ', H', J'.ofTry ok, q⟩
    | cont =>
      obtain ⟨σ', H', J', q⟩ := hsp
      exact ⟨σ', H', J'.ofTry ok, q⟩
    | ret u =>
      obtain ⟨v, σ', H', J', r, q⟩ := hsp
      exact ⟨v, σ', H', J'.ofTry ok, r, q⟩
end
end L2
set_option maxHeartbeats 4000000
/-! An own error over a built-in one: __init__(self, f): super().__init__('..'); self.f = f -/
namespace PySem
namespace LfX
open PySem.W PySem.Calls PyProof.Rows PySem.HandSPX
def xA (f : Str) (p1 p2 : Pos) : Arguments := { posonlyargs := [], args := [{ arg := "self", annotation := none, pos := p1 }, { arg := f, annotation := none, pos := p2 }], vararg := none, kwonlyargs := [], kw_defaults := [], kwarg := none, defaults := [] }
def xB (f m : Str) (j : Nat) (q1 q2 q3 q4 q5 q6 q7 q8 q9 q10 : Pos) : List Stmt :=
  [.Expr (.Call (.Attribute (.Call (.Name "super" q1) [] [] q2) "__init__" q3) [.Constant (.str m) j q4] [] q5) q6, .Assign [.Attribute (.Name "self" q7) f q8] (.Name f q9) q10]
def xS (f : Str) : Scope := { kind := .function, names := [(PySem.Str.ofString "self", .local), (f, .local), (PySem.Str.ofString "__class__", .free), (PySem.Str.ofString "super", .globalImplicit)], isGenerator := false, isCoroutine := false, more := [] }
/-- the name of the field stands apart from the three others -/
structure FldOk (f : Str) : Prop where
  e1 : (f == PySem.Str.ofString "self") = false
  e2 : (PySem.Str.ofString "__class__" == f) = false
  e3 : (PySem.Str.ofString "super" == f) = false
  e4 : (f == ("__debug__" : Str)) = false
  bd : ∀ (qn : Str) (p1 p2 : Pos) (b : List Stmt) (doc pm : Value) (an : Option Addr) (cdv ct : Value) (cc : Addr) (s : Shared) (x v : Value),
    BindsTo s (ksFn "__init__" qn (xA f p1 p2) b (xS f) .none .none doc pm an cdv ct cc) ⟨[x, v], []⟩ [("self", x), (f, v)]
/-- what the written part says of such a class, at C, and of its __init__, at fI -/
structure XTxt (prog : Program) (K : Frag) (mg : Str → Option Value) (x f : Str) (B i newId : String) (bmB : List Value) (C fI : Addr) : Prop where
  fo : FldOk f
  gC : mg x = some (.ref C)
  cls : ∃ nm q N bs bm sn sub ab col dd k0 k1 k2 k3 k5, K.lookup C = some (excClassObj nm q C N bs bm true sn sub ab col dd k0 k1 k2 k3 k5 newId) ∧ (∀ X : String, bm.contains (.type X) = bmB.contains (.type X)) ∧
    (∀ self : Value, refuseLoop self "__setattr__" bm = pure ()) ∧ alongIn K "__init__" bm = some (some (.builtin i))
  sa : findIn K (.ref C) "__setattr__" = some (some (.builtin "object.__setattr__"))
  noF : findIn K (.ref C) f = some none
  iC : findIn K (.ref C) "__init__" = some (some (.ref fI))
  tC : typeIn K (.ref fI) = some (.type "function")
  kC : keepIn K (.ref C) = true
  exC : subIn K (.ref C) (.type "BaseException") = some true
  sB : subIn K (.ref C) (.type B) = some true
  sD : mroIn K C (.ref C) = some true
  sO : mroIn K C (.type "object") = some true
  tyC : typeIn K (.ref C) = some (.type "type")
  op : nsIn K cStatics "thirdparty.any" = some none
  sup : mg "super" = none
  top : (prog.main.scope.names.lookup ("super" : Str)).isSome = false
  fn : ∃ (oc : Value) (od : Option Addr) (doc pm : Value) (an : Option Addr) (cda : Addr) (ct : Value) (cc : Addr) (osl : Array (Option Value)) (qn m : Str) (j : Nat) (p1 p2 q1 q2 q3 q4 q5 q6 q7 q8 q9 q10 : Pos)
      (ccl : Value) (cdd : Option Addr) (vs : Array Value) (ccs : Array (Option Value)) (file : Str) (tf : Tok) (cl : Value) (cld : Option Addr) (csl : Array (Option Value)),
    K.lookup fI = some ⟨oc, od, .func (ksFn "__init__" qn (xA f p1 p2) (xB f m j q1 q2 q3 q4 q5 q6 q7 q8 q9 q10) (xS f) .none .none doc pm an (.ref cda) ct cc), osl⟩ ∧ codeIn K (.ref cda) qn = true ∧
    K.lookup cda = some ⟨ccl, cdd, .fields vs, ccs⟩ ∧ vs[2]? = some (.str file tf) ∧ ((prog.main.file : Str) == file) = true ∧ K.lookup cc = some ⟨cl, cld, .cell (some (.ref C)), csl⟩ ∧ (q3.endLine == q5.line) = true
section
variable {f : Str}
theorem xS_self : (xS f).names.lookup ("self" : Str) = some .local := by simp [xS, List.lookup]
theorem xS_f (o : FldOk f) : (xS f).names.lookup f = some .local := by simp [xS, List.lookup, o.e1]
theorem xS_class (o : FldOk f) : (xS f).names.lookup ("__class__" : Str) = some .free := by
  have h1 : ((PySem.Str.ofString "__class__") == (PySem.Str.ofString "self")) = false := by decide +kernel
  simp [xS, List.lookup, o.e2, h1]
theorem xS_super (o : FldOk f) : (xS f).names.lookup ("super" : Str) = some .globalImplicit := by
  have h1 : ((PySem.Str.ofString "super") == (PySem.Str.ofString "self")) = false := by decide +kernel
  have h2 : ((PySem.Str.ofString "super") == (PySem.Str.ofString "__class__")) = false := by decide +kernel
  simp [xS, List.lookup, o.e3, h1, h2]
end
theorem own_drop (C : Addr) (l : List Value) : ((Value.ref C :: l).dropWhile (· != .ref C)).drop 1 = l := by simp [List.dropWhile_cons]
/-- what __init__ leaves of a fresh exception at x -/
structure InitEnd (f : Str) (h h' : Heap) (x C dx : Addr) (v : Value) : Prop where
  keep : ∀ b o, b ≠ x → h.get? b = some o → h'.get? b = some o
  obj : ∃ t1, h'.get? x = some { cls := .ref C, dict := some dx, data := .fields #[.ref t1, .none, .none, .none, .bool false, .none] }
  dbig : h.objs.size ≤ dx
  dne : dx ≠ x
  ns : h'.Ns1 dx (fun y => if y = f then some v else none)
/-- a made one -/
structure XMade (f : Str) (h h' : Heap) (e C d : Addr) (v : Value) : Prop where
  keep : ∀ b o, h.get? b = some o → h'.get? b = some o
  new : h.objs.size ≤ e
  obj : ∃ oe vs, h'.get? e = some oe ∧ oe.cls = .ref C ∧ oe.dict = some d ∧ oe.data = .fields vs ∧ vs[1]? = some .none
  dbig : h.objs.size ≤ d
  dne : d ≠ e
  ns : h'.Ns1 d (fun y => if y = f then some v else none)
section
open Builtin Builtin.ObjectAttr
variable {prog : Program} {w : World} {A : Around} {E : Value → Shared → Prop} {R : Result → Shared → Prop} {hp : Heap} {g : Array GenState} {d : Drawn} {t : Nat} {os : OsState}
/-- self.name = v on an exception without a dict, by what its classes let -/
theorem osa_first {K : Frag} {name : Str} {tk : Tok} {v : Value} {x C : Addr} {fv : Array Value} {cd : ClassData}
    (X : K.In hp) (hx : hp.get? x = some { cls := .ref C, data := .fields fv }) (hcd : clsIn K C = some cd) (hob : mroIn K C (.type "object") = some true) (hpass : refuseLoop (.ref x) "__setattr__" cd.mro = pure ()) (hh : cd.hasDict = true) (ha : findIn K (.ref C) name = some none)
    (hq : ∀ h' tk' dx, (∀ b o, b ≠ x → hp.get? b = some o → h'.get? b = some o) → hp.objs.size ≤ dx → dx ≠ x → h'.get? x = some { cls := .ref C, dict := some dx, data := .fields fv } →
      h'.Ns1 dx (fun y => if y = name then some v else none) → R (.ok (.ret .none)) ⟨h', g, d, tk', os⟩) :
    codeAny (model prog w) A (.call (.builtin "object.__setattr__") ⟨[.ref x, .str name tk, v], []⟩) R ⟨hp, g, d, t, os⟩ := by
  have I : InstAt hp x { cls := .ref C, data := .fields fv } C none := ⟨hx, rfl, rfl, trivial⟩
  have hxs : x ≠ hp.objs.size := Nat.ne_of_lt (Heap.lt_size hx)
  have SF := F.store_object
  have sub : Looks (model prog w) hp (isInstance (.ref x) (.type "object")) true := I.type.andThen (looks_mroIn X hob)
  refine codeAny_call_builtin SF.slot.plain SF.entry (@check_slot (model prog w) _ _ ⟨hp, g, d, t, os⟩ "object.__setattr__" "object" "__setattr__" (.ref x) [.str name tk, v] [] _ SF.kind SF.split sub (SF.args (.ref x) (.str name tk) v) ?_)
  have hmr : Looks (model prog w) hp (mroOf (.ref C)) cd.mro := (looks_clsIn X hcd).andThen .now
  have L3 : Looks (model prog w) hp (storeTaker? none) none := .now
  have hcls : Looks (model prog w) hp (classData C) cd := looks_clsIn X hcd
  rw [osa_eq, refuse_eq]
  refine wpAny_bind (wpAny_bind (I.type.at (wpAny_bind (hmr.at ?_))))
  rw [hpass]
  refine wpAny_pure (wpAny_bind (I.type.at (wpAny_bind ((looks_findIn X ha).at (wpAny_bind (L3.at ?_))))))
  show wpAny _ _ (storeInOwnDict (.ref x) (.ref C) (.str name tk) name v false) _ _ _
  obtain ⟨nm, bs, mro, ns, qn, hd, sn, sb, ab, col, del⟩ := cd
  dsimp only at hh
  subst hh
  unfold storeInOwnDict ownDictForStores
  repeat (first | with_reducible refine HandSPX.store_in_new ?_ ?_ | with_reducible refine wpAny_loadPart_at hx ?_ | with_reducible refine hcls.at ?_ | wp_step)
  · exact ⟨_, #[], _, (Heap.get?_update_ne _ _ _ _ hxs.symm).trans (Heap.get?_push_at rfl rfl), rfl, fun e he => absurd he (by simp), fun _ => rfl⟩
  · intro h' tk' hn' hs
    have hx₁ : (hp.push { cls := .type "dict", data := .dict #[] }).get? x = some { cls := .ref C, data := .fields fv } := Heap.get?_push_of_some _ hx
    refine hq h' tk' hp.objs.size (fun b o hb ho => ?_) (Nat.le_refl _) hxs.symm ?_ hn'
    · exact (hs.2 b (Nat.ne_of_lt (Heap.lt_size ho))).trans ((Heap.get?_update_ne _ _ _ _ hb).trans (Heap.get?_push_of_some _ ho))
    · exact (hs.2 x hxs).trans (Heap.get?_update_self _ hx₁ rfl)
/-- the bound built-in __init__ called: the args are laid anew -/
theorem call_mw {nm q : Str} {C N : Addr} {bs bm bmB : List Value} {hdct : Bool} {sn : List Str} {sub : List Value} {ab : Bool} {col : Option Bool} {dd : Option Addr} {k0 k1 k2 k3 k5 : Option Value} {B newId i : String}
    {u e t0 : Addr} {rest : List Value} {Q : Value → Shared → Prop} (FB : ExcBaseFacts B newId i bmB)
    (hC : hp.get? C = some (excClassObj nm q C N bs bm hdct sn sub ab col dd k0 k1 k2 k3 k5 newId)) (he : hp.get? e = some (excO C t0)) (hu : hp.get? u = some (kxs_mw i e)) (hrest : rest.length ≤ sizeLine)
    (hq : ∀ h' t1, (∀ b o, b ≠ e → hp.get? b = some o → h'.get? b = some o) → h'.get? e = some (excO C t1) → Q .none ⟨h', g, d, t, os⟩) :
    wpAny (model prog w) A (call (.ref u) rest) Q E ⟨hp, g, d, t, os⟩ := by
  refine wpAny_call (codeAny_of_tree ?_)
  show wpAny _ A.in1 (callAny (.ref u) ⟨rest, []⟩) _ _ _
  simp only [callAny]
  refine wpAny_bind (wpAny_load hu ?_)
  simp only [kxs_mw, show (Value.type "method-wrapper" == Value.type "method" || Value.type "method-wrapper" == Value.type "builtin_function_or_method" || Value.type "method-wrapper" == Value.type "method-wrapper") = true by decide, if_true]
  refine KFB.if_so (by decide) ?_
  refine wpAny_bind (check_bound_init FB.toExcCallFacts hC he rfl ?_)
  refine wpAny_bind (wpAny_pure (wpAny_pure ?_))
  refine ⟨plainId_quiet FB.init.plain _, codeAny_builtin FB.initEntry ?_⟩
  exact exc_init_tree (cls := .ref C) (t0 := t0) (dv := none) (c2 := .none) (c3 := .none) (b4 := .bool false) he hrest fun h' k e' t' => hq h' _ k e'
end
section
variable {prog : Program} {w : World} {A : Around} {E : Value → Shared → Prop} {R : Result → Shared → Prop} {s : Shared} {K : Frag} {mg : Str → Option Value} {nx f : Str} {B i newId : String} {bmB : List Value} {C fI : Addr}
theorem x_init (T : XTxt prog K mg nx f B i newId bmB C fI) (FB : ExcBaseFacts B newId i bmB) (KF : KxsFacts B i) {x t0 : Addr} {v : Value} (X : K.In s.heap) (G : s.heap.Ns mainGlobals mg) (Bl : ∃ mb, s.heap.Ns builtinsNs mb ∧ ∀ x : Str, x ≠ "__name__" → mb x = bootBuiltins x)
    (hlim : s.heap.NoLimit) (hx : s.heap.get? x = some (excO C t0)) (hnx : K.lookup x = none) (hroom : A.depth < recursionLimit)
    (hq : ∀ h' tk dx, InitEnd f s.heap h' x C dx v → R (.ok (.ret .none)) { s with heap := h', toks := tk }) :
    codeAny (model prog w) A (.call (.ref fI) ⟨[.ref x, v], []⟩) R s := by
  obtain ⟨oc, od, doc, pm, an, cda, ct, cc, osl, qn, m, j, p1, p2, q1, q2, q3, q4, q5, q6, q7, q8, q9, q10, ccl, cdd, vs, ccs, file, tf, cl, cld, csl, ho, hcd, hcda, hvs, hfile, hcc, hln⟩ := T.fn
  obtain ⟨nm, q, N, bs, bm, sn, sub, ab, col, dd, k0, k1, k2, k3, k5, hC, hT, hpass, hal⟩ := T.cls
  obtain ⟨mb, hB, hBB⟩ := Bl
  have hcl : clsIn K C = some { name := nm, bases := bs, mro := .ref C :: bm, ns := N, qualname := q, hasDict := true, slotNames := sn, subclasses := sub, abstract := ab, collection := col, hasDel := false } := by unfold clsIn; rw [hC] <;> rfl
  refine ks_codeAny_call_defAt (fd := ksFn "__init__" qn (xA f p1 p2) (xB f m j q1 q2 q3 q4 q5 q6 q7 q8 q9 q10) (xS f) .none .none doc pm an (.ref cda) ct cc) (binds := [("self", .ref x), (f, v)]) hroom (X _ _ ho) rfl hlim (codeRec_of X hcd) rfl (T.fo.bd qn p1 p2 _ doc pm an _ ct cc s (.ref x) v) ?_ ?_ (fun h₁ hns k => ?_) rfl rfl rfl
  · intro y hy
    simp only [xS, List.mem_cons, List.not_mem_nil, or_false] at hy
    rcases hy with rfl | rfl | rfl | rfl <;> (intro z; cases z)
  · intro y hy
    simp only [List.mem_cons, List.not_mem_nil, or_false] at hy
    rcases hy with rfl | rfl
    · exact xS_self
    · exact xS_f T.fo
  · have X₁ : K.In h₁ := X.keeps k
    have hx₁ := k _ _ hx
    have hself : (fun y => List.lookup y ([(("self" : Str), Value.ref x), (f, v)].reverse)) ("self" : Str) = some (.ref x) := by
      have h1 : (("self" : Str) == f) = false := by rw [BEq.comm]; exact T.fo.e1
      simp [List.lookup, h1]
    have hval : (fun y => List.lookup y ([(("self" : Str), Value.ref x), (f, v)].reverse)) f = some v := by
      simp [List.lookup]
    have hCC : h₁.get? C = some _ := X₁ _ _ hC
    refine ks_wpAt_execs_cons (ks_wpAt_Expr_any (ks_wpAt_MethodCall (pl := do return (← importBound (.Call (.Name "super" q1) [] [] q2) (callEnv (ksFn "__init__" qn (xA f p1 p2) (xB f m j q1 q2 q3 q4 q5 q6 q7 q8 q9 q10) (xS f) .none .none doc pm an (.ref cda) ct cc) s.heap.objs.size fI)).getD true) ?_ ?_) rfl rfl)
    rotate_left
    · have e1 : ∀ (o : Expr) (env : Env), methodCallPos true o env q3 q5 = pure q5 := fun o env => by
        unfold methodCallPos
        rw [hln]
        rfl
      show (attributeBase _ _ _ _ >>= fun ov => standAt q3.atName >>= fun _ => (holding [ov] (calleeOf true _ _ ov _)) >>= fun x => methodCallPos true (.Call (.Name "super" q1) [] [] q2) (callEnv (ksFn "__init__" qn (xA f p1 p2) (xB f m j q1 q2 q3 q4 q5 q6 q7 q8 q9 q10) (xS f) .none .none doc pm an (.ref cda) ct cc) s.heap.objs.size fI) q3 q5 >>= fun cp => callWith cp x.1 x.2 _ _) = _
      rw [e1]
      rfl
    refine ks_wpAt_super_base (f := fI) (cc := cda) (file := file) (tf := tf) (xS_super T.fo) (xS_class T.fo) (by decide) rfl (X₁ _ _ ho) rfl rfl rfl (X₁ _ _ hcda) rfl hvs hfile T.top ?_
    refine ks_loadName_global rfl (xS_super T.fo) (loadGlobal_builtin (G.keeps k) T.sup (hB.keeps k) ((hBB _ (by decide +kernel)).trans (by first | boot_by_name | rfl | kernel_rfl)) ⟨rfl, ?_⟩)
    refine wpAny_loadName_free rfl (xS_class T.fo) rfl ⟨_, X₁ _ _ hcc, rfl⟩ ?_
    refine wpAny_loadName_local rfl xS_self hns hself ?_
    refine ks_wpAny_isType_cls hCC rfl ⟨rfl, ?_⟩
    refine ks_wpAny_call_super hCC rfl hx₁ rfl (fun c e => by cases e) (looks_mroIn X₁ T.sD) (fun h₂ hso k₂ => ?_)
    have X₂ : K.In h₂ := X₁.keeps k₂
    have hx₂ := k₂ _ _ hx₁
    have I₂ : InstAt h₂ x (excO C t0) C none := ⟨hx₂, rfl, rfl, trivial⟩
    have hxC : x ≠ C := fun z => by rw [z, hC] at hnx; cases hnx
    refine kxs_getMethod (l₀ := .ref C :: bm) KF hso (looks_opaque X₂ T.op) ((looks_clsIn X₂ hcl).andThen .now) rfl X₂ (by rw [own_drop]; exact hal) (I₂.type.andThen (looks_subIn X₂ T.sB)) hxC (by decide) ?_
    have k₃ : ∀ b o, h₂.get? b = some o → (h₂.push (kxs_mw i x)).get? b = some o := fun b o e => Heap.get?_push_of_some _ e
    refine kxs_callWith (i := i) (x := x) rfl ?_
    refine evalArgs_plain (Calls.spliced_cons ?_)
    refine Calls.Constant_str (x := m) (k := j) (pos := q4) (Calls.spliced_nil ?_)
    have hu : (h₂.push (kxs_mw i x)).get? h₂.objs.size = some (kxs_mw i x) := Heap.get?_push_at rfl rfl
    refine ⟨hu, ?_⟩
    show wpAny _ _ (call (.ref h₂.objs.size) [_]) _ _ _
    refine call_mw FB (k₃ _ _ (X₂ _ _ hC)) (k₃ _ _ hx₂) hu (by show 1 ≤ sizeLine; rw [sizeLine_eq]; decide) (fun h₄ t1 k₄ hx₄ => ?_)
    have kx : ∀ b o, b ≠ x → s.heap.get? b = some o → h₄.get? b = some o := fun b o hb e => k₄ b o hb (k₃ b o (k₂ b o (k b o e)))
    have X₄ : K.In h₄ := fun b o e => kx b o (fun z => by rw [z, hnx] at e; cases e) (X b o e)
    have hxL : x ≠ s.heap.objs.size := Nat.ne_of_lt (Heap.lt_size hx)
    have hns₄ : h₄.Ns s.heap.objs.size (fun y => List.lookup y ([(("self" : Str), Value.ref x), (f, v)].reverse)) := by
      obtain ⟨oL, es, ep, hL, r⟩ := hns
      exact ⟨oL, es, ep, k₄ _ _ hxL.symm (k₃ _ _ (k₂ _ _ hL)), r⟩
    refine ks_wpAt_execs_cons (_root_.PySem.wpAt_of_wpAny (plainObj_wpAny_Assign_Attribute ?_))
    refine wpAny_Name (wpAny_loadName_local rfl (xS_f T.fo) hns₄ hval ?_) T.fo.e4
    refine wpAny_Name (wpAny_loadName_local rfl xS_self hns₄ hself ?_) (by decide)
    refine set_plain X₄ (ox := excO C t1) (od := none) ⟨hx₄, rfl, rfl, trivial⟩ T.sa ?_
    refine osa_first X₄ hx₄ hcl T.sO (by rw [refuseLoop_ref]; exact hpass _) rfl T.noF (fun h₅ tk₅ dx k₅ dn dne hx₅ hn₅ => ?_)
    refine _root_.PySem.wpAt_of_wpAny (wpAny_execs_nil ?_)
    refine hq h₅ tk₅ dx ⟨fun b o hb e => k₅ b o hb (kx b o hb e), ⟨t1, hx₅⟩, ?_, dne, hn₅⟩
    exact Nat.le_trans (Nat.le_of_lt hns₄.lt) dn
theorem x_made (T : XTxt prog K mg nx f B i newId bmB C fI) (FB : ExcBaseFacts B newId i bmB) (KF : KxsFacts B i) {v : Value} (X : K.In s.heap) (G : s.heap.Ns mainGlobals mg) (Bl : ∃ mb, s.heap.Ns builtinsNs mb ∧ ∀ x : Str, x ≠ "__name__" → mb x = bootBuiltins x)
    (hlim : s.heap.NoLimit) (hroom : A.depth + 1 < recursionLimit)
    (hq : ∀ h' tk e d, XMade f s.heap h' e C d v → R (.ok (.ret (.ref e))) { s with heap := h', toks := tk }) :
    codeAny (model prog w) A (.call (.ref C) ⟨[v], []⟩) R s := by
  obtain ⟨nm, q, N, bs, bm, sn, sub, ab, col, dd, k0, k1, k2, k3, k5, hC, hT, hpass, hal⟩ := T.cls
  obtain ⟨mb, hB, hBB⟩ := Bl
  obtain ⟨hp, g, dr, tk, os⟩ := s
  have k : ∀ b o, hp.get? b = some o → ((hp.push (kdv_tup [v])).push (excO C hp.objs.size)).get? b = some o := fun b o e => Heap.get?_push_of_some _ (Heap.get?_push_of_some _ e)
  have hget : ((hp.push (kdv_tup [v])).push (excO C hp.objs.size)).get? (hp.objs.size + 1) = some (excO C hp.objs.size) := by heap_get
  have hnx : K.lookup (hp.objs.size + 1) = none := by
    cases e : K.lookup (hp.objs.size + 1) with
    | none => rfl
    | some o =>
      have z : hp.get? (hp.objs.size + 1) = some o := X _ _ e
      exact absurd (Nat.lt_of_succ_lt (Heap.lt_size z)) (Nat.lt_irrefl _)
  refine call_own FB hT (X _ _ hC) (looks_findIn X T.iC) (fun self => bind_fn X self T.tC) (by show 1 ≤ sizeLine; rw [sizeLine_eq]; decide) ?_
  refine x_init (s := ⟨(hp.push (kdv_tup [v])).push (excO C hp.objs.size), g, dr, tk, os⟩) T FB KF (X.keeps k) (G.keeps k) ⟨mb, hB.keeps k, hBB⟩ (hlim.keeps k) hget hnx ?_ fun h' tk' dx ⟨k', ⟨t1, hx⟩, dn, dne, hns⟩ => ?_
  · show A.depth + 1 < recursionLimit
    exact hroom
  · have old : ∀ b o, hp.get? b = some o → h'.get? b = some o := fun b o e => k' b o (Nat.ne_of_lt (Nat.lt_succ_of_lt (Heap.lt_size e))) (k b o e)
    have z : hp.objs.size + 1 + 1 ≤ dx := by
      have q := dn
      rw [Heap.size_push, Heap.size_push] at q
      exact q
    exact ⟨rfl, hq h' tk' (hp.objs.size + 1) dx ⟨old, Nat.le_succ _, ⟨_, _, hx, rfl, rfl, rfl, rfl⟩, Nat.le_trans (Nat.le_trans (Nat.le_succ _) (Nat.le_succ _)) z, dne, hns⟩⟩
end
end LfX
end PySem
namespace L2
open PySem PySem.Spec PyProof.Rows
theorem relO_one {f : Str} {v : V} {v' : Value} (r : RelV v v') (y : Str) : RelO (List.lookup y [(f, v)]) (if y = f then some v' else none) := by
  by_cases hw : y = f
  · subst hw
    rw [if_pos rfl]
    have q : List.lookup y [(y, v)] = some v := by simp [List.lookup]
    rw [q]
    exact r
  · rw [if_neg hw]
    have qw : (y == f) = false := by simpa using hw
    have q2 : List.lookup y [(f, v)] = none := by simp [List.lookup, qw]
    rw [q2]
    trivial
section
variable {X : Cx} {C fI : Addr} {nx f : Str} {B i newId : String} {bmB : List Value}
/-- C(e) for such a class -/
def tMkX (C : Addr) (f : Str) (ta : TA) : L2.St → Hp → XK → Prop := fun σ H Q => ta σ H fun vs H1 => ∃ v, vs = [v] ∧ ∀ d, H1 d = none → Q (.ref C) (some d) (upd H1 d (.xd [(f, v)]))
theorem pmk_x {a : Expr} {ta : TA} {p pos : Pos} {k : Nat} (T : PySem.LfX.XTxt X.prog X.K X.mg nx f B i newId bmB C fI) (FB : ExcBaseFacts B newId i bmB) (KF : PySem.W.KxsFacts B i) (hr : Room k X.A) (ha : PA X [a] ta) (hg : Gl X nx := by rfl) (hdb : (nx == ("__debug__" : Str)) = false := by decide)
    (he : starEach (a :: []) X.env = (false, eval a X.env) :: starEach [] X.env := by rfl) (hpl : (backTo pos (starEach [] X.env)).any (·.1) = false := by rfl) :
    PMk X (.Call (.Name nx p) [a] [] pos) (tMkX C f ta) := by
  intro pins s σ H Q I h
  refine wpAny_Call_Name_kw (ld_glob I hg T.gC ?_ hdb)
  refine PySem.W.callWith_K (h₀ := X.base) I.ok.mod.kin T.kC (thn (ha.run pos pins s σ H _ I h) fun us s1 hh => ?_) he hpl
  obtain ⟨vs, H1, I1, r1, v, ev, q1⟩ := hh
  subst ev
  refine ⟨I1.kIn, ?_⟩
  cases r1 with
  | cons rv rn =>
    rename_i v' us'
    cases rn
    show wpAny _ _ (call (.ref C) [v']) _ _ _
    have hlim := I1.nolimit
    have hG : s1.heap.Ns mainGlobals X.mg := I1.ok.mod.glob.keeps I1.bk
    have hB : ∃ mb, s1.heap.Ns builtinsNs mb ∧ ∀ x : Str, x ≠ "__name__" → mb x = bootBuiltins x := by
      obtain ⟨mb, b1, b2⟩ := I1.ok.mod.blt
      exact ⟨mb, b1.keeps I1.bk, b2⟩
    obtain ⟨hp, g, dr, tk, os⟩ := s1
    refine wpAny_call (PySem.LfX.x_made T FB KF I1.kIn hG hB hlim (by have := hr.dp; omega) fun h' tk' e d M => ?_)
    show MkP X pins σ Q (.ref e) ⟨h', g, dr, tk', os⟩
    obtain ⟨oe, fv, hoe, hc, hd, hdat, h1⟩ := M.obj
    have hns := M.ns
    obtain ⟨G', g1, g2⟩ := restrict h' fun b => decide (b ≠ e)
    have gk : ∀ b, b ≠ e → G'.get? b = h'.get? b := fun b hb => g1 b (decide_eq_true hb)
    have ge : G'.get? e = none := g2 e (by simp)
    have old : ∀ b o, hp.get? b = some o → G'.get? b = some o := fun b o q => (gk b (Nat.ne_of_lt (Nat.lt_of_lt_of_le (Heap.lt_size q) M.new))).trans (M.keep b o q)
    have ob : ObjOk X.prog X.w (upd H1 d (.xd [(f, v)])) G' d (.xd [(f, v)]) :=
      ⟨_, hns.at (fun o q => (gk d M.dne).trans q), fun y => relO_one rv y⟩
    have J : Inv X pins σ (upd H1 d (.xd [(f, v)])) ⟨G', g, dr, tk', os⟩ := I1.laid (t' := tk') old M.dbig ob
    refine ⟨e, oe, fv, ⟨G', g, dr, tk', os⟩, _, .ref C, some d, rfl, J, fun b o q => ?_, ge, hoe, ⟨hc, hd⟩, hdat, h1, ?_, rfl, I1.bare, raises_own T.exC T.tyC, q1 d (I1.hok.fresh M.dbig)⟩
    · by_cases hb : b = e
      · have q' : G'.get? b = some o := q
        rw [hb, ge] at q'; cases q'
      · exact (gk b hb).symm.trans q
    · rw [upd_ne (Ne.symm M.dne)]
      exact I1.hok.fresh M.new
end
end L2
set_option maxHeartbeats 4000000
/-! A def of the text as one fact, and its call -/
namespace L2
open PySem PySem.Spec PyProof.Rows
/-- the def x of the text stands at its name -/
def Df (K : PySem.W.Frag) (mg : Str → Option Value) (x : Str) (st : Stmt) : Prop := ∃ f fd, Fun K x x st f fd ∧ mg x = some (.ref f)
/-- the def x keeps the promise sp -/
def DefOk (P : Program) (w : World) (K : PySem.W.Frag) (mg : Str → Option Value) (base : Heap) (CX : CXT) (k : Nat) (x : Str) (ps : List Str) (sp : Sp) : Prop :=
  ∃ f fd, mg x = some (.ref f) ∧ PySem.W.keepIn K (.ref f) = true ∧ Binds K fd ps [] ∧ FnOk P w K mg base CX k f fd ps sp
section
variable {P : Program} {w : World} {K : PySem.W.Frag} {mg : Str → Option Value} {base : Heap} {x : Str} {st : Stmt} {N ps : List Str} {k : Nat} {sp : Sp}
theorem Df.ok (D : Df K mg x st) (S : FnScope N ps (defScope st))
    (bd : ∀ (kV doc pm : Value) (an : Option Addr) (cdv ct : Value) (us : List Value), us.length = ps.length → bindArgs (PySem.W.fnOf x x (defArgs st) (defBody st) (defScope st) .none kV doc pm an cdv ct) ⟨us, []⟩ = pure (ps.zip us))
    (len : ∀ vs H Q E, sp vs H Q E → vs.length = ps.length)
    (hbody : ∀ (f : Addr) (cdv : Value) (A : Around) (outer : List Env) (s : Shared) (H : Hp) (vs : List V) (Q : VK) (E : XK), Room k (A.deeper (envOfC x (defScope st) s.heap.objs.size f cdv)) → sp vs H Q E →
      ∃ t, PSs (cxOf CX0 P w K mg base N x (defScope st) f cdv A outer s H E).nox (defBody st) t ∧ t { nx := fun _ H' => Q .non H', rt := Q } (start N vs) H) : DefOk P w K mg base CX0 (k + 1) x ps sp := by
  obtain ⟨f, fd, F, hm⟩ := D
  exact ⟨f, fd, hm, F.kp, F.binds bd, F.ok S len (hbody f)⟩
theorem Df.okX (D : Df K mg x st) (S : FnScope N ps (defScope st))
    (bd : ∀ (kV doc pm : Value) (an : Option Addr) (cdv ct : Value) (us : List Value), us.length = ps.length → bindArgs (PySem.W.fnOf x x (defArgs st) (defBody st) (defScope st) .none kV doc pm an cdv ct) ⟨us, []⟩ = pure (ps.zip us))
    (len : ∀ vs H Q E, sp vs H Q E → vs.length = ps.length)
    (hbody : ∀ (f : Addr) (cdv : Value) (A : Around) (outer : List Env) (s : Shared) (H : Hp) (vs : List V) (Q : VK) (E : XK), Room k (A.deeper (envOfC x (defScope st) s.heap.objs.size f cdv)) → sp vs H Q E →
      ∃ t, PSs (cxOf (L2.CX P w) P w K mg base N x (defScope st) f cdv A outer s H E) (defBody st) t ∧ t { nx := fun _ H' => Q .non H', rt := Q } (start N vs) H) : DefOk P w K mg base (L2.CX P w) (k + 1) x ps sp := by
  obtain ⟨f, fd, F, hm⟩ := D
  exact ⟨f, fd, hm, F.kp, F.binds bd, F.okX S len (hbody f)⟩
end
section
variable {X : Cx} {CX : CXT} {k : Nat} {ps : List Str} {sp : Sp} {E : XK} {ES : St → XK} {x : Str} {p pos : Pos} {e : Expr} {es : List Expr} {t : TA}
def tCallD (sp : Sp) (E : XK) (t : TA) : TE := fun σ H Q => t σ H fun vs H1 => sp vs H1 Q E
theorem pe_callD (D : DefOk X.prog X.w X.K X.mg X.base CX k x ps sp) (hr : Room k X.A) (hx : Passes CX X E) (ha : PA X (e :: es) t) (hg : Gl X x := by rfl) (hdb : (x == ("__debug__" : Str)) = false := by decide)
    (he : starEach (e :: es) X.env = (false, eval e X.env) :: starEach es X.env := by rfl) (hpl : (backTo pos (starEach es X.env)).any (·.1) = false := by rfl) :
    PE X (.Call (.Name x p) (e :: es) [] pos) (tCallD sp E t) := by
  obtain ⟨f, fd, hm, hk, hb, F⟩ := D
  refine ⟨fun pins s σ H Q I h => (pe_call F hr hg hm hk hb (.nil) hx ha hdb he hpl).run pins s σ H Q I ?_⟩
  have q : (fun vs H1 => sp vs H1 Q E) = fun vs H1 => sp (vs ++ []) H1 Q E := by
    funext vs H1
    rw [List.append_nil]
  show t σ H (fun vs H1 => sp (vs ++ []) H1 Q E)
  rw [← q]
  exact h
theorem pe_callDS (D : DefOk X.prog X.w X.K X.mg X.base CX k x ps sp) (hr : Room k X.A) (hx : ∀ σ, PassesAt CX X σ (ES σ)) (ha : PA X (e :: es) t) (hg : Gl X x := by rfl) (hdb : (x == ("__debug__" : Str)) = false := by decide)
    (he : starEach (e :: es) X.env = (false, eval e X.env) :: starEach es X.env := by rfl) (hpl : (backTo pos (starEach es X.env)).any (·.1) = false := by rfl) :
    PE X (.Call (.Name x p) (e :: es) [] pos) (tCallS sp ES t) := by
  obtain ⟨f, fd, hm, hk, hb, F⟩ := D
  exact pe_callS F hr hg hm hk hb hx ha hdb he hpl
/-- a module's int -/
theorem pe_gInt {n : Int} (hg : Gl X x) (h : ∃ t, X.mg x = some (.int n t)) (hd : (x == ("__debug__" : Str)) = false := by decide) : PE X (.Name x pos) (tC (.int n)) := by
  obtain ⟨t, hm⟩ := h
  exact pe_glob hg hm ⟨t, rfl⟩ hd
theorem pe_gStr {n : Str} (hg : Gl X x) (h : ∃ t, X.mg x = some (.str n t)) (hd : (x == ("__debug__" : Str)) = false := by decide) : PE X (.Name x pos) (tC (.str n)) := by
  obtain ⟨t, hm⟩ := h
  exact pe_glob hg hm ⟨t, rfl⟩ hd
end
end L2
set_option maxHeartbeats 4000000
/-! Methods and properties as one fact each; sizes of ints -/
namespace L2
open PySem PySem.Spec PyProof.Rows
/-- the method m of the class at C, by its text -/
def Dm (K : PySem.W.Frag) (C : Addr) (m qual : Str) (st : Stmt) : Prop := ∃ f fd, Fun K m qual st f fd ∧ Meth K C m f
/-- the property m of the class at C, by its getter's text -/
def Dp_ (K : PySem.W.Frag) (C : Addr) (m qual : Str) (st : Stmt) : Prop := ∃ p f fd, Fun K m qual st f fd ∧ PropOf K C m p f
def MethOk (P : Program) (w : World) (K : PySem.W.Frag) (mg : Str → Option Value) (base : Heap) (CX : CXT) (k : Nat) (C : Addr) (m : Str) (ps : List Str) (sp : Sp) : Prop :=
  ∃ f fd, Meth K C m f ∧ Binds K fd ps [] ∧ FnOk P w K mg base CX k f fd ps sp
def PropOk (P : Program) (w : World) (K : PySem.W.Frag) (mg : Str → Option Value) (base : Heap) (CX : CXT) (k : Nat) (C : Addr) (m : Str) (ps : List Str) (sp : Sp) : Prop :=
  ∃ p f fd, PropOf K C m p f ∧ Binds K fd ps [] ∧ FnOk P w K mg base CX k f fd ps sp
section
variable {P : Program} {w : World} {K : PySem.W.Frag} {mg : Str → Option Value} {base : Heap} {C : Addr} {x qual : Str} {st : Stmt} {N ps : List Str} {k : Nat} {sp : Sp}
theorem Dm.ok (D : Dm K C x qual st) (S : FnScope N ps (defScope st))
    (bd : ∀ (kV doc pm : Value) (an : Option Addr) (cdv ct : Value) (us : List Value), us.length = ps.length → bindArgs (PySem.W.fnOf x qual (defArgs st) (defBody st) (defScope st) .none kV doc pm an cdv ct) ⟨us, []⟩ = pure (ps.zip us))
    (len : ∀ vs H Q E, sp vs H Q E → vs.length = ps.length)
    (hbody : ∀ (f : Addr) (cdv : Value) (A : Around) (outer : List Env) (s : Shared) (H : Hp) (vs : List V) (Q : VK) (E : XK), Room k (A.deeper (envOfC qual (defScope st) s.heap.objs.size f cdv)) → sp vs H Q E →
      ∃ t, PSs (cxOf CX0 P w K mg base N qual (defScope st) f cdv A outer s H E).nox (defBody st) t ∧ t { nx := fun _ H' => Q .non H', rt := Q } (start N vs) H) : MethOk P w K mg base CX0 (k + 1) C x ps sp := by
  obtain ⟨f, fd, F, hm⟩ := D
  exact ⟨f, fd, hm, F.binds bd, F.ok S len (hbody f)⟩
theorem Dp_.ok (D : Dp_ K C x qual st) (S : FnScope N ps (defScope st))
    (bd : ∀ (kV doc pm : Value) (an : Option Addr) (cdv ct : Value) (us : List Value), us.length = ps.length → bindArgs (PySem.W.fnOf x qual (defArgs st) (defBody st) (defScope st) .none kV doc pm an cdv ct) ⟨us, []⟩ = pure (ps.zip us))
    (len : ∀ vs H Q E, sp vs H Q E → vs.length = ps.length)
    (hbody : ∀ (f : Addr) (cdv : Value) (A : Around) (outer : List Env) (s : Shared) (H : Hp) (vs : List V) (Q : VK) (E : XK), Room k (A.deeper (envOfC qual (defScope st) s.heap.objs.size f cdv)) → sp vs H Q E →
      ∃ t, PSs (cxOf CX0 P w K mg base N qual (defScope st) f cdv A outer s H E).nox (defBody st) t ∧ t { nx := fun _ H' => Q .non H', rt := Q } (start N vs) H) : PropOk P w K mg base CX0 (k + 1) C x ps sp := by
  obtain ⟨p, f, fd, F, hm⟩ := D
  exact ⟨p, f, fd, hm, F.binds bd, F.ok S len (hbody f)⟩
end
section
variable {X : Cx} {CX : CXT} {k : Nat} {C : Addr} {ps : List Str} {sp : Sp} {E : XK} {m : Str} {p pos apos : Pos} {o e : Expr} {es : List Expr} {ta : TE} {t : TA}
def tMethD (C : Addr) (m : Str) (sp : Sp) (E : XK) (ta : TE) (t : TA) : TE := fun σ H Q => ta σ H fun x H1 => ∃ a dx fs, x = .ref a ∧ H1 a = some (.ins C dx fs) ∧ fs.lookup m = none ∧ t σ H1 fun vs H2 => sp (x :: vs) H2 Q E
theorem meth_nil {ta : TE} {t : TA} {σ : St} {H : Hp} {Q : VK} (h : tMethD C m sp E ta t σ H Q) : tMeth C m sp [] E ta t σ H Q := by
  have e : tMethD C m sp E ta t = tMeth C m sp [] E ta t := by
    funext σ H Q
    unfold tMethD tMeth
    simp only [List.append_nil]
  rw [← e]
  exact h
theorem pe_methD {pl : Sem Bool} (he : PE X o ta) (c : Cls X.K C) (D : MethOk X.prog X.w X.K X.mg X.base CX k C m ps sp) (hr : Room k X.A) (hx : Passes CX X E) (ha : PA X (e :: es) t)
    (hst : starEach (e :: es) X.env = (false, eval e X.env) :: starEach es X.env := by rfl) (hpl : (backTo pos (starEach es X.env)).any (·.1) = false := by rfl)
    (ht : eval (.Call (.Attribute o m apos) (e :: es) [] pos) X.env = (do
      let ov ← eval o X.env
      standAt apos.atName
      let (f, first) ← holding [ov] (getMethod ov m pl)
      callWith pos f first (backTo pos (starEach (e :: es) X.env)) (backToKw pos (keywordEach [] X.env))) := by rfl) :
    PE X (.Call (.Attribute o m apos) (e :: es) [] pos) (tMethD C m sp E ta t) := by
  obtain ⟨f, fd, hm, hb, F⟩ := D
  exact ⟨fun pins s σ H Q I h => (pe_meth he c hm F hr hb .nil hx ha hst hpl ht).run pins s σ H Q I (meth_nil h)⟩
theorem pe_methD0 {pl : Sem Bool} (he : PE X o ta) (c : Cls X.K C) (D : MethOk X.prog X.w X.K X.mg X.base CX k C m ps sp) (hr : Room k X.A) (hx : Passes CX X E)
    (ht : eval (.Call (.Attribute o m apos) [] [] pos) X.env = (do
      let ov ← eval o X.env
      standAt apos.atName
      let (f, first) ← holding [ov] (getMethod ov m pl)
      callWith pos f first (backTo pos (starEach [] X.env)) (backToKw pos (keywordEach [] X.env))) := by rfl) :
    PE X (.Call (.Attribute o m apos) [] [] pos) (tMethD C m sp E ta tNil) := by
  obtain ⟨f, fd, hm, hb, F⟩ := D
  exact ⟨fun pins s σ H Q I h => (pe_meth0 he c hm F hr hb .nil hx ht).run pins s σ H Q I (meth_nil h)⟩
/-- e.f, a property -/
theorem pe_propD (he : PE X e ta) (c : Cls X.K C) (D : PropOk X.prog X.w X.K X.mg X.base CX k C m ps sp) (hr : Room (k + 1) X.A) (hx : Passes CX X.nox E)
    (hab : attributeBase e m X.env (eval e X.env) = eval e X.env := by rfl) : PE X (.Attribute e m pos) (tProp C sp [] E ta) := by
  obtain ⟨p, f, fd, hm, hb, F⟩ := D
  exact pe_prop he c hm F hr hb .nil hx hab
/-- // by any great divisor but 0 -/
def CDivV (_ j : Int) : Prop := j ≠ 0 ∧ j.natAbs.log2 < 9000
theorem op_fdivV : OpR X (binaryOp .FloorDiv) (rI CDivV fun i j => .int (i.fdiv j)) := opI fun _ _ _ _ _ _ _ hc q => floordiv_int hc.1 q (.inl (PyProof.noPylong_of_log2 hc.2))
end
end L2
namespace Lf
open PySem L2
/-! ### sizes -/
def Bd (n : Nat) (i : Int) : Prop := i.natAbs < 2 ^ n
theorem Bd.mono {n m : Nat} {i : Int} (h : Bd n i) (hm : n ≤ m) : Bd m i := Nat.lt_of_lt_of_le h (Nat.pow_le_pow_right (by decide) hm)
theorem Bd.add {n m : Nat} {i j : Int} (h : Bd n i) (h' : Bd n j) (hm : n + 1 ≤ m) : Bd m (i + j) := by
  refine Bd.mono (n := n + 1) ?_ hm
  unfold Bd at *
  have := Int.natAbs_add_le i j
  rw [Nat.pow_succ]
  omega
theorem Bd.neg {n : Nat} {i : Int} (h : Bd n i) : Bd n (-i) := by
  unfold Bd at *
  rw [Int.natAbs_neg]
  exact h
theorem Bd.sub {n m : Nat} {i j : Int} (h : Bd n i) (h' : Bd n j) (hm : n + 1 ≤ m) : Bd m (i - j) := by
  rw [Int.sub_eq_add_neg]
  exact Bd.add h h'.neg hm
theorem Bd.mul {n m k : Nat} {i j : Int} (h : Bd n i) (h' : Bd m j) (hk : n + m ≤ k) : Bd k (i * j) := Bd.mono (wide_lt h h') hk
theorem Bd.ok {n m : Nat} {i j : Int} (h : Bd n i) (h' : Bd m j) (h0 : 0 < n) (h1 : 0 < m) (hs : n + m ≤ 1000000) : CMulW i j := wide_mul h h' h0 h1 hs
theorem Bd.div {n : Nat} {i j : Int} (h : Bd n i) : Bd n (i / j) := Nat.lt_of_le_of_lt (Int.natAbs_ediv_le_natAbs i j) h
theorem Bd.dok {n : Nat} {i j : Int} (h : Bd n j) (hj : j ≠ 0) (h0 : 0 < n) (h9 : n ≤ 9000) : CDivV i j := ⟨hj, Nat.lt_of_lt_of_le (PySem.Flt.log2_lt_of h0 h) h9⟩
theorem Bd.dpos {n : Nat} {i j : Int} (h : Bd n j) (hj : 0 < j) (h0 : 0 < n) (h9 : n ≤ 9000) : CDivW i j := wide_div hj h h0 h9
theorem Bd.lit {n : Nat} {i : Int} (h : i.natAbs < 2 ^ n) : Bd n i := h
end Lf
set_option maxHeartbeats 4000000
/-! match over a tuple: sequence patterns of names, perhaps a last *name, with a guard -/
namespace L2
open PySem PySem.Spec PyProof.Rows
/-- the patterns are plain names -/
def Caps (ps : List Pattern) (ns : List Str) : Prop := Paired (fun p n => ∃ q, p = Pattern.MatchAs none (some n) q) ps ns
section
variable {M : Model} {A : Around} {E : Value → Shared → Prop} {s : Shared} {env : Env}
theorem each_caps {ns : List Str} {ps more : List Pattern} {us rest : List Value} {Q : Option (List (Str × Value)) → Shared → Prop} (c : Caps ps ns) (hl : us.length = ns.length)
    (h : wpAny M A (matchEach more env rest) (fun r s1 => match r with | none => False | some bs => Q (some (ns.zip us ++ bs)) s1) E s) : wpAny M A (matchEach (ps ++ more) env (us ++ rest)) Q E s := by
  induction ns generalizing ps us Q with
  | nil =>
    cases c
    cases us with
    | nil =>
      refine wpAny_mono h (fun r s1 z => ?_) fun _ _ z => z
      cases r with
      | none => exact z.elim
      | some bs => exact z
    | cons u us => cases hl
  | cons n ns ih =>
    cases c with
    | cons c0 c1 =>
      obtain ⟨q, rfl⟩ := c0
      cases us with
      | nil => cases hl
      | cons u us =>
        refine wpAny_matchEach_cons (wpAny_matchPattern_Capture ?_)
        show wpAny M A (matchEach _ env (us ++ rest)) _ E s
        refine ih c1 (by simpa using hl) (wpAny_mono h (fun r s1 z => ?_) fun _ _ z => z)
        cases r with
        | none => exact z.elim
        | some bs => exact z
end
section
variable {prog : Program} {w : World} {A : Around} {E : Value → Shared → Prop} {s : Shared}
/-- the items of a tuple, the last ones as a new list -/
theorem unpack_last {l : Addr} {items : Array Value} {i : Nat} {Q : List Value → Shared → Prop} (hh : A.handled = none) (hl : IsTup s.heap l items) (hi : i ≤ items.size) (hz : items.size ≤ sizeLine)
    (h : ∀ (h' : Heap) (tk : Nat), (∀ b o, s.heap.get? b = some o → h'.get? b = some o) → Q (items.toList.take i ++ [.ref h'.objs.size]) { s with heap := h'.push { cls := .type "list", data := .seq (items.toList.drop i).toArray }, toks := tk }) : wpAny (model prog w) A (unpackItems (.ref l) (i + 1) (some i)) Q E s := by
  have ne : l ≠ s.heap.objs.size := by obtain ⟨o, ho, _⟩ := hl; exact Nat.ne_of_lt (Heap.lt_size ho)
  unfold unpackItems
  refine wpAny_bind ?_
  unfold notIterableAtAll
  refine wpAny_bind (wpAny_specialOf (T := "tuple") hl.typeIs PyProof.Rows.slot_tuple_iter.lookup (wpAny_pure ?_))
  rw [if_neg (by simp)]
  refine wpAny_bind (wpAny_holding (iter_tuple (t := l) hl ?_))
  refine wpAny_bind (wpAny_holding (draw_tuple (t := l) ne i 0 _ _ ⟨_, Heap.get?_push_size _ rfl, rfl, rfl⟩ (hl.push _) (by omega) fun h1 it1 sb1 => ?_))
  have hl1 : IsTup h1 l items := (hl.push _).extBut sb1.extBut ne
  rw [Nat.zero_add] at it1
  obtain ⟨oi, hoi, _⟩ := id it1
  obtain ⟨ol, hol, _⟩ := id hl1
  rw [List.drop_zero]
  have fl : (items.toList.take i).length = i := by rw [List.length_take, Array.length_toList]; omega
  rw [if_neg (by omega)]
  refine wpAny_bind (wpAny_holding (PySem.W.kun_collect (T := "tuple_iterator") (s := { s with heap := h1 }) (.inr (.inr (.inr rfl))) (Walks.tuple (A := A.in1) hh s.heap.objs.size l ne items) (fun j u st => st.1.typeIs) hi ⟨it1, hl1⟩ (Heap.lt_size hoi) (Heap.lt_size hol) (fun h2 tk hk => ?_) hz))
  have e0 : i + 1 - 1 - i = 0 := by omega
  dsimp only
  rw [e0, if_neg (by omega), Nat.sub_zero, List.take_length, List.drop_length]
  refine wpAny_bind (wpAny_newList (wpAny_pure ?_) (by rw [List.length_drop, Array.length_toList]; omega))
  rw [List.append_nil]
  exact h h2 tk fun b o e => hk b o (Nat.ne_of_lt (Heap.lt_size e)) (sb1.extBut b o (Nat.ne_of_lt (Heap.lt_size e)) (Heap.get?_push_of_some _ e))
end
section
variable {X : Cx}
/-- the cases, from the subject's value on -/
structure PMc (X : Cx) (cs : List MatchCase) (t : V → TS) : Prop where
  run : ∀ (first : Bool) (pins : List (Addr × Obj)) (s : Shared) (σ : St) (H : Hp) (D : Ends) (v : V) (u : Value), Inv X pins σ H s → RelV v u → t v D σ H → wpAny (model X.prog X.w) X.A (matchCases cs X.env u first) (SP X pins D) X.xe s
theorem pmc_nil : PMc X [] (fun _ D σ H => D.nx σ H) := ⟨fun _ pins s σ H D v u I r h => wpAny_matchCases_nil ⟨σ, H, I, h⟩⟩
def tMatch (te : TE) (t : V → TS) : TS := fun D σ H => te σ H fun v H1 => t v D σ H1
theorem ps_match {e : Expr} {cs : List MatchCase} {pos : Pos} {te : TE} {t : V → TS} (he : PE X e te) (hc : PMc X cs t) : PS X (.Match e cs pos) (tMatch te t) := by
  refine ⟨fun pins s σ H D I h => wpAny_Match (thn (he.run pins s σ H _ I h) fun u s1 ⟨v, H1, I1, r1, q1⟩ => ?_)⟩
  exact hc.run true pins s1 σ H1 D v u I1 r1 q1
/-- names bound in order -/
structure PNs (X : Cx) (ns : List Str) (t : TGs) : Prop where
  run : ∀ (pins : List (Addr × Obj)) (s : Shared) (σ : St) (H : Hp) (vs : List V) (us : List Value) (Q : St → Hp → Prop), Inv X pins σ H s → Vals vs us → t vs σ H Q →
    wpAny (model X.prog X.w) X.A (assignInOrder (ns.map fun n => bindName X.env n) us) (fun _ s' => ∃ σ' H', Inv X pins σ' H' s' ∧ Q σ' H') X.xe s
theorem pns_nil : PNs X [] gNil := by
  refine ⟨fun pins s σ H vs us Q I r h => ?_⟩
  obtain ⟨rfl, h⟩ := h
  cases r
  exact PyProof.Rows.assignInOrder_nil ⟨σ, H, I, h⟩
theorem pns_cons {i : Nat} {x : Str} {ns : List Str} {u : TGs} (hN : X.N.Nodup) (hi : X.N[i]? = some x) (hx : Loc X.env.scope x) (h2 : PNs X ns u) (hf : X.fn x = true ∨ X.env.scope.names.lookup x = some .local := by first | exact .inl rfl | exact .inr rfl | assumption) : PNs X (x :: ns) (gCons (gName i) u) := by
  refine ⟨fun pins s σ H vs us Q I r h => ?_⟩
  obtain ⟨v, vr, rfl, h⟩ := h
  cases r with
  | cons r0 rr =>
    refine PyProof.Rows.assignInOrder_cons (wpAny_bindName (store_ok I hN hi hx r0 (fun s' I' => ?_) hf))
    exact h2.run pins s' _ H vr _ Q I' rr h
theorem caps_len {ps : List Pattern} {ns : List Str} (c : Caps ps ns) : ps.length = ns.length := by
  induction c with
  | nil => rfl
  | cons _ _ ih => rw [List.length_cons, List.length_cons, ih]
theorem zip_names (env : Env) : ∀ (ns : List Str) (us : List Value), us.length = ns.length → ((ns.zip us).map fun (n, _) => bindName env n) = (ns.map fun n => bindName env n) ∧ (ns.zip us).map (·.2) = us
  | [], [], _ => ⟨rfl, rfl⟩
  | n :: ns, u :: us, h => by
    obtain ⟨h1, h2⟩ := zip_names env ns us (by simpa using h)
    rw [List.zip_cons_cons, List.map_cons, List.map_cons, List.map_cons, h1, h2]
    exact ⟨rfl, rfl⟩
def tAfter (tg : TT) (tb : TS) (r : V → TS) (v : V) (D : Ends) : St → Hp → Prop := fun σ1 H1 => tg σ1 H1 fun b H2 => if b = true then tb D σ1 H2 else r v D σ1 H2
def tCase (K : PySem.W.Frag) (n : Nat) (g : TGs) (tg : TT) (tb : TS) (r : V → TS) : V → TS := fun v D σ H => ∃ a xs, v = .ref a ∧ SqT K H a xs ∧ (xs.length = n → g xs σ H (tAfter tg tb r v D)) ∧ (xs.length ≠ n → r v D σ H)
theorem pmc_case {ps : List Pattern} {ns : List Str} {n : Nat} {gd : Expr} {body : List Stmt} {rest : List MatchCase} {pos : Pos} {g : TGs} {tg : TT} {tb : TS} {r : V → TS} (hc : X.calm = true) (cp : Caps ps ns) (hl : ps.length = n) (hn : PNs X ns g) (hg : PT X gd tg) (hb : PSs X body tb) (hr : PMc X rest r)
    (hstar : ps.findIdx? (·.isStar) = none := by rfl) (hwild : (ps.all fun p => p.isWildcard || (p.isStar && p.names.isEmpty)) = false := by rfl) : PMc X (⟨.MatchSequence ps pos, some gd, body⟩ :: rest) (tCase X.K n g tg tb r) := by
  refine ⟨fun first pins s σ H D v u I rv h => ?_⟩
  obtain ⟨a, xs, rfl, hs, h1, h2⟩ := h
  cases rv
  obtain ⟨its, rvs, ht, hz⟩ := I.tuple hs
  have zl : sizeLine = 2 ^ 24 := rfl
  have hsz : its.toArray.size = xs.length := by rw [List.size_toArray, ← rvs.length]
  refine wpAny_matchCases_cons ?_
  by_cases hm : xs.length = n
  · refine matchSeq_tuple_hit ht (by rw [hsz]; omega) (by rw [hsz, hl, hm]) ?_ hstar hwild
    rw [show ps.length = its.toArray.size by rw [hsz, hl, hm]]
    refine unpackItems_tuple (I.ok.hd hc) ht fun h' he => ?_
    have I1 : Inv X pins σ H { s with heap := h', toks := s.toks + 1 + 1 } := I.kept fun b o e => he b o (Nat.ne_of_lt (Heap.lt_size e)) e
    have el : its.length = ns.length := by rw [← rvs.length, hm, ← hl, caps_len cp]
    have hh := each_caps (M := model X.prog X.w) (A := X.A) (E := X.xe) (s := { s with heap := h', toks := s.toks + 1 + 1 }) (env := X.env) (more := []) (rest := []) (us := its) (Q := fun r s₁ => match r with
          | none => wpAny (model X.prog X.w) X.A (matchCases rest X.env (.ref a) false) (SP X pins D) X.xe s₁
          | some bs => wpAny (model X.prog X.w) X.A (assignInOrder (bs.map fun (n, _) => bindName X.env n) (bs.map (·.2))) (fun _ s₂ =>
              wpAny (model X.prog X.w) X.A (isTrue gd X.env (eval gd X.env)) (fun ok s₃ => if ok then wpAny (model X.prog X.w) X.A (execs body X.env) (SP X pins D) X.xe s₃ else wpAny (model X.prog X.w) X.A (matchCases rest X.env (.ref a) false) (SP X pins D) X.xe s₃) X.xe s₂) X.xe s₁) cp el
        (by
          refine wpAny_pure ?_
          dsimp only
          rw [List.append_nil, (zip_names X.env _ _ el).1, (zip_names X.env _ _ el).2]
          refine thn (hn.run pins _ σ H xs its _ I1 rvs (h1 hm)) fun _ s2 ⟨σ2, H2, I2, q2⟩ => ?_
          refine thn (hg.run pins s2 σ2 H2 _ I2 q2) fun ok s3 ⟨H3, I3, q3⟩ => ?_
          cases ok with
          | true => exact hb.run pins s3 σ2 H3 D I3 q3
          | false => exact hr.run false pins s3 σ2 H3 D (.ref a) _ I3 rfl q3)
    rw [List.append_nil, List.append_nil] at hh
    exact hh
  · refine matchSeq_tuple_miss ht (by rw [hsz]; omega) (by rw [hsz, hl]; exact hm) ?_ hstar hwild
    exact hr.run false pins _ σ H D (.ref a) _ (I.kept (t' := s.toks + 1 + 1) fun b o e => e) rfl (h2 hm)
/-- a last *name -/
def tCaseS (K : PySem.W.Frag) (n : Nat) (g : TGs) (tg : TT) (tb : TS) (r : V → TS) : V → TS := fun v D σ H => ∃ a xs, v = .ref a ∧ SqT K H a xs ∧ (n ≤ xs.length → ∀ p, H p = none → g (xs.take n ++ [.ref p]) σ (upd H p (.lst (xs.drop n))) (tAfter tg tb r v D)) ∧ (xs.length < n → r v D σ H)
theorem pmc_caseS {ps : List Pattern} {ns : List Str} {x : Str} {q : Pos} {n : Nat} {gd : Expr} {body : List Stmt} {rest : List MatchCase} {pos : Pos} {g : TGs} {tg : TT} {tb : TS} {r : V → TS} (hc : X.calm = true) (cp : Caps ps ns) (hl : ps.length = n) (h0 : 0 < n) (hn : PNs X (ns ++ [x]) g) (hg : PT X gd tg) (hb : PSs X body tb) (hr : PMc X rest r)
    (hstar : (ps ++ [Pattern.MatchStar (some x) q]).findIdx? (·.isStar) = some n := by rfl) (hwild : ((ps ++ [Pattern.MatchStar (some x) q]).all fun p => p.isWildcard || (p.isStar && p.names.isEmpty)) = false := by rfl)
    (hnm : (((ps ++ [Pattern.MatchStar (some x) q])[n]?).elim [] (·.names)).isEmpty = false := by rfl) : PMc X (⟨.MatchSequence (ps ++ [Pattern.MatchStar (some x) q]) pos, some gd, body⟩ :: rest) (tCaseS X.K n g tg tb r) := by
  refine ⟨fun first pins s σ H D v u I rv h => ?_⟩
  obtain ⟨a, xs, rfl, hs, h1, h2⟩ := h
  cases rv
  obtain ⟨its, rvs, ht, hz⟩ := I.tuple hs
  have zl : sizeLine = 2 ^ 24 := rfl
  have hsz : its.toArray.size = xs.length := by rw [List.size_toArray, ← rvs.length]
  have hpl : (ps ++ [Pattern.MatchStar (some x) q]).length = n + 1 := by rw [List.length_append, hl]; rfl
  refine wpAny_matchCases_cons ?_
  by_cases hm : n ≤ xs.length
  · refine PySem.W.kun_seqT ht (by rw [hsz]; omega) hstar hwild hnm (by rw [hpl]; omega) (by rw [hpl, hsz]; omega) ?_
    rw [hpl]
    refine unpack_last (I.ok.hd hc) ht (by rw [hsz]; omega) (by rw [hsz]; exact hz) fun h' tk hk => ?_
    have I0 : Inv X pins σ H { s with heap := h', toks := tk } := I.kept hk
    have hf : H h'.objs.size = none := I0.hok.fresh (Nat.le_refl _)
    have rd : Vals (xs.drop n) (its.drop n) := rvs.drop n
    have I1 : Inv X pins σ (upd H h'.objs.size (.lst (xs.drop n))) { s with heap := h'.push { cls := .type "list", data := .seq (its.toArray.toList.drop n).toArray }, toks := tk } :=
      I0.laid (t' := tk) (fun b o e => Heap.get?_push_of_some _ e) (Nat.le_refl _) ⟨by rw [List.length_drop]; omega, its.drop n, 0, rd, Heap.get?_push_size _ rfl⟩
    have rt : Vals (xs.take n ++ [.ref h'.objs.size]) (its.take n ++ [.ref h'.objs.size]) := (rvs.take n).append (.cons rfl .nil)
    have tl : (its.take n).length = ns.length := by rw [List.length_take, ← rvs.length, ← caps_len cp, hl]; omega
    have el : (its.take n ++ [Value.ref h'.objs.size]).length = (ns ++ [x]).length := by rw [List.length_append, List.length_append, tl]; rfl
    refine each_caps cp (us := its.take n) (rest := [.ref h'.objs.size]) tl (PySem.W.kun_each (wpAny_matchEach_nil ?_))
    have ez : ns.zip (its.take n) ++ ((some x).map fun y => (y, Value.ref h'.objs.size)).toList = (ns ++ [x]).zip (its.take n ++ [Value.ref h'.objs.size]) := by rw [List.zip_append tl.symm]; rfl
    dsimp only
    rw [List.append_nil, ez, (zip_names X.env _ _ el).1, (zip_names X.env _ _ el).2]
    refine thn (hn.run pins _ σ _ _ _ _ I1 rt (h1 hm _ hf)) fun _ s2 ⟨σ2, H2, I2, q2⟩ => ?_
    refine thn (hg.run pins s2 σ2 H2 _ I2 q2) fun ok s3 ⟨H3, I3, q3⟩ => ?_
    cases ok with
    | true => exact hb.run pins s3 σ2 H3 D I3 q3
    | false => exact hr.run false pins s3 σ2 H3 D (.ref a) _ I3 rfl q3
  · refine PySem.W.kun_fewT ht (by rw [hsz]; omega) hstar (by rw [hpl]; omega) (by rw [hpl, hsz]; omega) ?_
    exact hr.run false pins _ σ H D (.ref a) _ (I.kept (t' := s.toks + 1 + 1) fun b o e => e) rfl (h2 (by omega))
end
end L2
namespace L2
open PySem PySem.Spec PyProof.Rows
section
variable {X : Cx}
theorem pmc_caseT {pats ps : List Pattern} {ns : List Str} {x : Str} {q : Pos} {n : Nat} {gd : Expr} {body : List Stmt} {rest : List MatchCase} {pos : Pos} {g : TGs} {tg : TT} {tb : TS} {r : V → TS} (hc : X.calm = true) (hp : pats = ps ++ [Pattern.MatchStar (some x) q]) (cp : Caps ps ns) (hl : ps.length = n) (h0 : 0 < n) (hn : PNs X (ns ++ [x]) g) (hg : PT X gd tg) (hb : PSs X body tb) (hr : PMc X rest r)
    (hstar : pats.findIdx? (·.isStar) = some n := by rfl) (hwild : (pats.all fun p => p.isWildcard || (p.isStar && p.names.isEmpty)) = false := by rfl)
    (hnm : ((pats[n]?).elim [] (·.names)).isEmpty = false := by rfl) : PMc X (⟨.MatchSequence pats pos, some gd, body⟩ :: rest) (tCaseS X.K n g tg tb r) := by
  subst hp
  exact pmc_caseS hc cp hl h0 hn hg hb hr hstar hwild hnm
end
end L2
namespace L2
open PySem
/-- a case, with a word about where the next one begins -/
theorem tCase_cut {K : PySem.W.Frag} {n : Nat} {g : TGs} {tg : TT} {tb : TS} {r : V → TS} {D : Ends} {σ : St} {H : Hp} {a : Addr} {xs : List V} (Mid : St → Hp → Prop) (hq : SqT K H a xs) (yes : xs.length = n → ∀ r' : V → TS, (∀ σ1 H1, Mid σ1 H1 → r' (.ref a) D σ1 H1) → g xs σ H (tAfter tg tb r' (.ref a) D))
    (no : xs.length ≠ n → Mid σ H) (rest : ∀ σ1 H1, Mid σ1 H1 → r (.ref a) D σ1 H1) : tCase K n g tg tb r (.ref a) D σ H := ⟨a, xs, rfl, hq, fun h => yes h r rest, fun h => rest _ _ (no h)⟩
end L2
set_option maxHeartbeats 4000000
/-! Kinds of values, numbers; the defs is_number, is_integer, require_integer -/
namespace Lf
open PySem L2
/-- the built-in kind of a value -/
inductive Kd (H : Hp) : V → String → Prop
  | non : Kd H .non "NoneType"
  | bl (b : Bool) : Kd H (.bl b) "bool"
  | int (i : Int) : Kd H (.int i) "int"
  | str (x : Str) : Kd H (.str x) "str"
  | lst {a : Addr} {xs : List V} (e : H a = some (.lst xs)) : Kd H (.ref a) "list"
  | tup {a : Addr} {xs : List V} (e : H a = some (.tup xs)) : Kd H (.ref a) "tuple"
  | dic {a : Addr} {kvs : List (Key × V)} (e : H a = some (.dK kvs)) : Kd H (.ref a) "dict"
theorem Kd.ty {H : Hp} {v : V} {t : String} (K : PySem.W.Frag) (k : Kd H v t) : TyX K H v (.type t) := by
  cases k with
  | non => exact .base .non
  | bl b => exact .base (.bl b)
  | int i => exact .base (.int i)
  | str x => exact .base (.str x)
  | lst e => exact .base (.lst e)
  | tup e => exact .base (.tup e)
  | dic e => exact .base (.dK e)
theorem Kd.same {H H' : Hp} {v : V} {t : String} (s : Same H H') (k : Kd H v t) : Kd H' v t := by
  cases k with
  | non => exact .non
  | bl b => exact .bl b
  | int i => exact .int i
  | str x => exact .str x
  | lst e => exact .lst (s _ _ e)
  | tup e => exact .tup (s _ _ e)
  | dic e => exact .dic (s _ _ e)
def numV : V → Bool
  | .int _ => true
  | _ => false
def lim : Int := 1000000000000000000000000000000
def intV : V → Bool
  | .int i => decide (-lim < i) && decide (i < lim)
  | _ => false
theorem Kd.int_ {H : Hp} {v : V} {t : String} (k : Kd H v t) : kitB t "int" = some (numV v || t == "bool") := by
  cases k <;> (first | rfl | decide +kernel)
theorem Kd.bool_ {H : Hp} {v : V} {t : String} (k : Kd H v t) : kitB t "bool" = some (t == "bool") := by
  cases k <;> (first | rfl | decide +kernel)
theorem Kd.tuple_ {H : Hp} {v : V} {t : String} (k : Kd H v t) : kitB t "tuple" = some (t == "tuple") := by
  cases k <;> (first | rfl | decide +kernel)
theorem Kd.num_ {H : Hp} {v : V} {t : String} (k : Kd H v t) : (if (numV v || t == "bool") = true then (!(t == "bool")) else false) = numV v := by
  cases k <;> (first | rfl | decide +kernel)
theorem if_so {c : Bool} {A B : Prop} (hc : c = true) (h : A) : if c = true then A else B := by
  rw [if_pos hc]
  exact h
theorem if_no {c : Bool} {A B : Prop} (hc : c = false) (h : B) : if c = true then A else B := by
  rw [hc, if_neg Bool.false_ne_true]
  exact h
def spIsNumber : Sp := fun vs H Q _ => ∃ v t, vs = [v] ∧ Kd H v t ∧ Q (.bl (numV v)) H
def spIsInteger : Sp := fun vs H Q _ => ∃ v t, vs = [v] ∧ Kd H v t ∧ Q (.bl (intV v)) H
def spReqInt (CN : Addr) : Sp := fun vs H Q E => ∃ v t, vs = [v] ∧ Kd H v t ∧ (intV v = true → Q .non H) ∧
  (intV v = false → ∀ d, H d = none → E (.ref CN) (some d) (upd H d (.xd [("value", v)])))
/-- the builtins' names that are not bound by the text, the constants -/
structure NumT (K : PySem.W.Frag) (mg : Str → Option Value) : Prop where
  n_isinstance : mg "isinstance" = none
  n_int : mg "int" = none
  n_bool : mg "bool" = none
  g_LIMIT : ∃ t, mg "LIMIT" = some (.int lim t)
section
variable {P : Program} {w : World} {K : PySem.W.Frag} {mg : Str → Option Value} {base : Heap} {st : Stmt}
end
end Lf
set_option maxHeartbeats 4000000
/-! Data of any depth in the heap (tuples, lists, texts, ints, bools, None, empty dicts), and what evaluates to data -/
namespace Lf
open PySem L2 Evl
/-- a key as data -/
def keyD : Key → PyData
  | .inl i => .int i
  | .inr x => .str x
mutual
inductive Da (H : Hp) : V → PyData → Prop
  | non : Da H .non .none
  | bl (b : Bool) : Da H (.bl b) (.bool b)
  | int (i : Int) : Da H (.int i) (.int i)
  | str (x : Str) (h : x.length ≤ 1000) : Da H (.str x) (.str x)
  | lst {a : Addr} {xs : List V} {ds : List PyData} (e : H a = some (.lst xs)) (h : DaAll H xs ds) : Da H (.ref a) (.list ds)
  | tup {a : Addr} {xs : List V} {ds : List PyData} (e : H a = some (.tup xs)) (h : DaAll H xs ds) : Da H (.ref a) (.tuple ds)
  | dct {a : Addr} {kvs : List (Key × V)} {ds : List (PyData × PyData)} (e : H a = some (.dK kvs)) (h : DaKvs H kvs ds) : Da H (.ref a) (.dict ds)
inductive DaAll (H : Hp) : List V → List PyData → Prop
  | nil : DaAll H [] []
  | cons {v : V} {vs : List V} {d : PyData} {ds : List PyData} (h : Da H v d) (t : DaAll H vs ds) : DaAll H (v :: vs) (d :: ds)
inductive DaKvs (H : Hp) : List (Key × V) → List (PyData × PyData) → Prop
  | nil : DaKvs H [] []
  | cons {k : Key} {v : V} {vs : List (Key × V)} {d : PyData} {ds : List (PyData × PyData)} (h : Da H v d) (t : DaKvs H vs ds) : DaKvs H ((k, v) :: vs) ((keyD k, d) :: ds)
end
theorem Da.dic {H : Hp} {a : Addr} (e : H a = some (.dK [])) : Da H (.ref a) (.dict []) := .dct e .nil
section
variable {H H' : Hp}
mutual
theorem Da.mono (x : Ex H H') : ∀ (d : PyData) (v : V), Da H v d → Da H' v d
  | .none, _, h => by cases h; exact .non
  | .bool b, _, h => by cases h; exact .bl _
  | .int i, _, h => by cases h; exact .int _
  | .str s, _, h => by cases h with | str _ hl => exact .str _ hl
  | .list ds, _, h => by cases h with | lst e ha => exact .lst (x _ _ e) (DaAll.mono x ds _ ha)
  | .tuple ds, _, h => by cases h with | tup e ha => exact .tup (x _ _ e) (DaAll.mono x ds _ ha)
  | .dict ds, _, h => by cases h with | dct e ha => exact .dct (x _ _ e) (DaKvs.mono x ds _ ha)
theorem DaAll.mono (x : Ex H H') : ∀ (ds : List PyData) (vs : List V), DaAll H vs ds → DaAll H' vs ds
  | [], _, h => by cases h; exact .nil
  | d :: ds, _, h => by cases h with | cons h t => exact .cons (Da.mono x d _ h) (DaAll.mono x ds _ t)
theorem DaKvs.mono (x : Ex H H') : ∀ (ds : List (PyData × PyData)) (vs : List (Key × V)), DaKvs H vs ds → DaKvs H' vs ds
  | [], _, h => by cases h; exact .nil
  | (k, d) :: ds, _, h => by cases h with | cons h t => exact .cons (Da.mono x d _ h) (DaKvs.mono x ds _ t)
end
theorem DaKvs.up {ds : List (PyData × PyData)} {vs : List (Key × V)} (h : DaKvs H vs ds) (x : Ex H H') : DaKvs H' vs ds := DaKvs.mono x ds vs h
theorem DaKvs.len {ds : List (PyData × PyData)} {vs : List (Key × V)} (h : DaKvs H vs ds) : vs.length = ds.length := by
  induction ds generalizing vs with
  | nil => cases h; rfl
  | cons d ds ih => cases h with | cons _ t => rw [List.length_cons, List.length_cons, ih t]
theorem DaKvs.keys {ds : List (PyData × PyData)} {vs : List (Key × V)} (h : DaKvs H vs ds) : ds.map Prod.fst = vs.map fun p => keyD p.1 := by
  induction ds generalizing vs with
  | nil => cases h; rfl
  | cons d ds ih => cases h with | cons _ t => rw [List.map_cons, List.map_cons, ih t]
theorem Da.up {d : PyData} {v : V} (h : Da H v d) (x : Ex H H') : Da H' v d := Da.mono x d v h
theorem DaAll.up {ds : List PyData} {vs : List V} (h : DaAll H vs ds) (x : Ex H H') : DaAll H' vs ds := DaAll.mono x ds vs h
theorem DaAll.len {ds : List PyData} {vs : List V} (h : DaAll H vs ds) : vs.length = ds.length := by
  induction ds generalizing vs with
  | nil => cases h; rfl
  | cons d ds ih => cases h with | cons _ t => rw [List.length_cons, List.length_cons, ih t]
theorem DaAll.app {ds es : List PyData} {vs us : List V} (h : DaAll H vs ds) (h2 : DaAll H us es) : DaAll H (vs ++ us) (ds ++ es) := by
  induction ds generalizing vs with
  | nil => cases h; exact h2
  | cons d ds ih => cases h with | cons h t => exact .cons h (ih t)
theorem DaAll.at {ds : List PyData} {vs : List V} (h : DaAll H vs ds) {i : Nat} {v : V} (e : vs[i]? = some v) : ∃ d, ds[i]? = some d ∧ Da H v d := by
  induction ds generalizing vs i with
  | nil => cases h; simp at e
  | cons d ds ih =>
    cases h with
    | cons h t =>
      cases i with
      | zero => cases e; exact ⟨d, rfl, h⟩
      | succ i => exact ih t (by simpa using e)
theorem DaAll.get {ds : List PyData} {vs : List V} (h : DaAll H vs ds) {i : Nat} {d : PyData} (e : ds[i]? = some d) : ∃ v, vs[i]? = some v ∧ Da H v d := by
  induction ds generalizing vs i with
  | nil => simp at e
  | cons d' ds ih =>
    cases h with
    | cons h t =>
      cases i with
      | zero => cases e; exact ⟨_, rfl, h⟩
      | succ i => exact ih t (by simpa using e)
theorem DaAll.drop {ds : List PyData} {vs : List V} (h : DaAll H vs ds) : ∀ n : Nat, DaAll H (vs.drop n) (ds.drop n) := by
  induction ds generalizing vs with
  | nil => intro n; cases h; simp; exact .nil
  | cons d ds ih =>
    intro n
    cases h with
    | cons h t =>
      cases n with
      | zero => exact .cons h t
      | succ n => exact ih t n
theorem DaAll.take {ds : List PyData} {vs : List V} (h : DaAll H vs ds) : ∀ n : Nat, DaAll H (vs.take n) (ds.take n) := by
  induction ds generalizing vs with
  | nil => intro n; cases h; simp; exact .nil
  | cons d ds ih =>
    intro n
    cases h with
    | cons h t =>
      cases n with
      | zero => exact .nil
      | succ n => exact .cons h (ih t n)
theorem DaAll.ixN {ds : List PyData} {vs : List V} (h : DaAll H vs ds) {n : Int} {d : PyData} (e : atI ds n = some d) : ∃ v, atI vs n = some v ∧ Da H v d := by
  unfold atI at e ⊢
  rw [h.len]
  cases z : L2.ixN ds.length n with
  | none => rw [z] at e; cases e
  | some j => rw [z] at e; exact h.get e
/-- the kind of data -/
def kd : PyData → String
  | .none => "NoneType"
  | .bool _ => "bool"
  | .int _ => "int"
  | .str _ => "str"
  | .list _ => "list"
  | .tuple _ => "tuple"
  | .dict _ => "dict"
theorem Da.kd {d : PyData} {v : V} (h : Da H v d) : Kd H v (kd d) := by
  cases h with
  | non => exact .non
  | bl b => exact .bl b
  | int i => exact .int i
  | str x _ => exact .str x
  | lst e _ => exact .lst e
  | tup e _ => exact .tup e
  | dct e _ => exact .dic e
theorem Da.bl_ {b : Bool} {v : V} (h : Da H v (.bool b)) : v = .bl b := by cases h; rfl
theorem Da.int_ {i : Int} {v : V} (h : Da H v (.int i)) : v = .int i := by cases h; rfl
theorem Da.non_ {v : V} (h : Da H v .none) : v = .non := by cases h; rfl
theorem Da.str_ {x : Str} {v : V} (h : Da H v (.str x)) : v = .str x ∧ x.length ≤ 1000 := by cases h with | str _ h => exact ⟨rfl, h⟩
theorem Da.tup_ {ds : List PyData} {v : V} (h : Da H v (.tuple ds)) : ∃ a xs, v = .ref a ∧ H a = some (.tup xs) ∧ DaAll H xs ds := by cases h with | tup e h => exact ⟨_, _, rfl, e, h⟩
theorem Da.lst_ {ds : List PyData} {v : V} (h : Da H v (.list ds)) : ∃ a xs, v = .ref a ∧ H a = some (.lst xs) ∧ DaAll H xs ds := by cases h with | lst e h => exact ⟨_, _, rfl, e, h⟩
end
theorem Kd.str_k {H : Hp} {v : V} {t : String} (k : Kd H v t) : kitB t "str" = some (t == "str") := by
  cases k <;> (first | rfl | decide +kernel)
theorem Kd.list_k {H : Hp} {v : V} {t : String} (k : Kd H v t) : kitB t "list" = some (t == "list") := by
  cases k <;> (first | rfl | decide +kernel)
/-! ### a view G of the heap H: what is known of data; it grows by new data alone -/
def dataO : HO → Bool
  | .lst _ => true
  | .tup _ => true
  | .dK _ => true
  | .ins _ _ _ => true
  | _ => false
structure Gr (G H G' H' : Hp) : Prop where
  h : Ex H H'
  g : Ex G G'
  s : Ex G' H'
  n : ∀ a, H a ≠ none → G a = none → G' a = none
  t : ∀ a o, G' a = some o → G a = some o ∨ dataO o = true
section
variable {G H G1 H1 G2 H2 : Hp}
theorem Gr.refl (s : Ex G H) : Gr G H G H := ⟨Ex.refl _, Ex.refl _, s, fun _ _ h => h, fun _ _ h => .inl h⟩
theorem Gr.keep (s : Ex G H) (x : Ex H H1) : Gr G H G H1 := ⟨x, Ex.refl _, s.trans x, fun _ _ h => h, fun _ _ h => .inl h⟩
theorem Gr.trans (a : Gr G H G1 H1) (b : Gr G1 H1 G2 H2) : Gr G H G2 H2 := by
  refine ⟨a.h.trans b.h, a.g.trans b.g, b.s, fun c h1 h2 => b.n c (fun z => ?_) (a.n c h1 h2), fun c o h => ?_⟩
  · cases e : H c with
    | none => exact h1 e
    | some o => rw [a.h _ _ e] at z; cases z
  · rcases b.t c o h with h | h
    · exact a.t c o h
    · exact .inr h
theorem Gr.new {p : Addr} {o : HO} (s : Ex G H) (hp : H p = none) (ho : dataO o = true) : Gr G H (upd G p o) (upd H p o) := by
  have gp : G p = none := by
    cases e : G p with
    | none => rfl
    | some o => rw [s _ _ e] at hp; cases hp
  refine ⟨Ex.new hp, Ex.new gp, fun a u h => ?_, fun a h1 h2 => ?_, fun a u h => ?_⟩
  · by_cases e : a = p
    · subst e
      rw [upd_same] at h ⊢
      exact h
    · rw [upd_ne e] at h ⊢
      exact s _ _ h
  · rw [upd_ne (fun e => h1 (by rw [e]; exact hp))]
    exact h2
  · by_cases e : a = p
    · subst e
      rw [upd_same] at h
      cases h
      exact .inr ho
    · rw [upd_ne e] at h
      exact .inl h
/-- an object that the view does not know may change -/
theorem Gr.mut {p : Addr} {o : HO} (r : Gr G H G1 H1) (hp : G p = none) (hh : H p ≠ none) : Ex G1 (upd H1 p o) := fun a u h => by
  rw [upd_ne (fun e => by rw [e, r.n p hh hp] at h; cases h)]
  exact r.s _ _ h
end
/-! ### what evaluates to data -/
def EvD (te : TE) (σ : L2.St) (G : Hp) (d : PyData) : Prop := ∀ G1 H1, Ex G G1 → Ex G1 H1 → ∀ Q : VK, (∀ v G2 H2, Gr G1 H1 G2 H2 → Da G2 v d → Q v H2) → te σ H1 Q
def EvDs (ta : TA) (σ : L2.St) (G : Hp) (ds : List PyData) : Prop := ∀ G1 H1, Ex G G1 → Ex G1 H1 → ∀ Q : List V → Hp → Prop, (∀ vs G2 H2, Gr G1 H1 G2 H2 → DaAll G2 vs ds → Q vs H2) → ta σ H1 Q
section
variable {K : PySem.W.Frag} {σ : L2.St} {G H G' : Hp} {ta tb te tl : TE} {t u : TT} {tA tr : TA} {d e : PyData} {ds es : List PyData} {v : V}
theorem EvD.mono (x : Ex G G') (h : EvD te σ G d) : EvD te σ G' d := fun G1 H1 a b Q q => h G1 H1 (x.trans a) b Q q
theorem EvD.is (h : EvD te σ G d) (e' : d = e) : EvD te σ G e := e' ▸ h
theorem EvD.go (h : EvD te σ G d) (s : Ex G H) {Q : VK} (k : ∀ v G2 H2, Gr G H G2 H2 → Da G2 v d → Q v H2) : te σ H Q := h G H (Ex.refl _) s Q k
theorem evd_var {i : Nat} (hi : σ[i]? = some (some v)) (h : Da G v d) : EvD (tVar i) σ G d := fun G1 H1 x s Q q => ⟨v, hi, q v G1 H1 (Gr.refl s) (h.up x)⟩
theorem evd_of (h : Ev te σ G v) (hd : ∀ G, Da G v d) : EvD te σ G d := fun G1 H1 x s Q q => h H1 (x.trans s) _ fun H2 x2 => q v G1 H2 (Gr.keep s x2) (hd G1)
theorem EvD.bl_ {b : Bool} (h : EvD te σ G (.bool b)) : Ev te σ G (.bl b) := fun H1 x Q q => h G H1 (Ex.refl _) x _ fun v G2 H2 r hd => by rw [hd.bl_]; exact q H2 r.h
theorem EvD.int_ {i : Int} (h : EvD te σ G (.int i)) : Ev te σ G (.int i) := fun H1 x Q q => h G H1 (Ex.refl _) x _ fun v G2 H2 r hd => by rw [hd.int_]; exact q H2 r.h
theorem EvD.str_ {s : Str} (h : EvD te σ G (.str s)) : Ev te σ G (.str s) := fun H1 x Q q => h G H1 (Ex.refl _) x _ fun v G2 H2 r hd => by rw [hd.str_.1]; exact q H2 r.h
theorem EvD.non_ (h : EvD te σ G .none) : Ev te σ G .non := fun H1 x Q q => h G H1 (Ex.refl _) x _ fun v G2 H2 r hd => by rw [hd.non_]; exact q H2 r.h
theorem evd_bl {b : Bool} (h : Ev te σ G (.bl b)) : EvD te σ G (.bool b) := evd_of h fun _ => .bl b
theorem evd_int {i : Int} (h : Ev te σ G (.int i)) : EvD te σ G (.int i) := evd_of h fun _ => .int i
theorem evd_str {s : Str} (h : Ev te σ G (.str s)) (hl : s.length ≤ 1000) : EvD te σ G (.str s) := evd_of h fun _ => .str s hl
theorem evd_non (h : Ev te σ G .non) : EvD te σ G .none := evd_of h fun _ => .non
theorem evd_nil : EvDs tNil σ G [] := fun G1 H1 _ s Q q => q [] G1 H1 (Gr.refl s) .nil
theorem evd_cons (h : EvD te σ G d) (hr : EvDs tr σ G ds) : EvDs (tCons te tr) σ G (d :: ds) := fun G1 H1 x s Q q => h G1 H1 x s _ fun v G2 H2 r hd => hr G2 H2 (x.trans r.g) r.s _ fun vs G3 H3 r2 hds => q (v :: vs) G3 H3 (r.trans r2) (.cons (hd.up r2.g) hds)
theorem evd_tup (h : EvDs tA σ G ds) (hl : ds.length ≤ 100000) : EvD (tTup tA) σ G (.tuple ds) := fun G1 H1 x s Q q => h G1 H1 x s _ fun vs G2 H2 r hds =>
  ⟨by rw [hds.len]; exact sz_of hl, fun p hp => have n := Gr.new (o := .tup vs) r.s hp rfl; q (.ref p) _ _ (r.trans n) (.tup upd_same (hds.up n.g))⟩
theorem evd_lst (h : EvDs tA σ G ds) (hl : ds.length ≤ 100000) : EvD (tLst tA) σ G (.list ds) := fun G1 H1 x s Q q => h G1 H1 x s _ fun vs G2 H2 r hds =>
  ⟨by rw [hds.len]; exact sz_of hl, fun p hp => have n := Gr.new (o := .lst vs) r.s hp rfl; q (.ref p) _ _ (r.trans n) (.lst upd_same (hds.up n.g))⟩
theorem evd_ixT {n : Int} (ha : EvD ta σ G (.tuple ds)) (hb : Ev tb σ G (.int n)) (hi : atI ds n = some d) : EvD (tOp (rIxT K) ta tb) σ G d := fun G1 H1 x s Q q => ha G1 H1 x s _ fun v G2 H2 r hd => hb H2 ((x.trans r.g).trans r.s) _ fun H3 x3 => by
  obtain ⟨a, xs, rfl, e, hs⟩ := hd.tup_
  obtain ⟨w, hw, hdw⟩ := hs.ixN hi
  exact ⟨a, xs, n, w, rfl, rfl, SqT.of (x3 _ _ (r.s _ _ e)), hw, q w G2 H3 (r.trans (Gr.keep r.s x3)) hdw⟩
theorem evd_ixL {n : Int} (ha : EvD ta σ G (.list ds)) (hb : Ev tb σ G (.int n)) (hi : atI ds n = some d) : EvD (tOp (rIxL K) ta tb) σ G d := fun G1 H1 x s Q q => ha G1 H1 x s _ fun v G2 H2 r hd => hb H2 ((x.trans r.g).trans r.s) _ fun H3 x3 => by
  obtain ⟨a, xs, rfl, e, hs⟩ := hd.lst_
  obtain ⟨w, hw, hdw⟩ := hs.ixN hi
  exact ⟨a, xs, n, w, rfl, rfl, SqL.of (x3 _ _ (r.s _ _ e)), hw, q w G2 H3 (r.trans (Gr.keep r.s x3)) hdw⟩
theorem evd_if {b : Bool} (h : EvT t σ G b) (h1 : b = true → EvD ta σ G d) (h2 : b = false → EvD tb σ G d) : EvD (tIf t ta tb) σ G d := fun G1 H1 x s Q q => h H1 (x.trans s) _ fun H2 x2 => by
  cases b with
  | true =>
    show ta σ H2 Q
    exact h1 rfl G1 H2 x (s.trans x2) Q fun v G3 H3 r hd => q v G3 H3 ((Gr.keep s x2).trans r) hd
  | false =>
    show tb σ H2 Q
    exact h2 rfl G1 H2 x (s.trans x2) Q fun v G3 H3 r hd => q v G3 H3 ((Gr.keep s x2).trans r) hd
/-- t[lo:hi] of a tuple -/
theorem cut_da {H : Hp} {vs : List V} {ds : List PyData} (h : DaAll H vs ds) (lo hi : Option Int) : DaAll H (cutV vs lo hi) ((ds.drop (HT.sIx ds.length 0 lo)).take (HT.sIx ds.length ds.length hi - HT.sIx ds.length 0 lo)) := by
  unfold cutV
  rw [h.len]
  exact (h.drop _).take _
def cutD (ds : List PyData) (lo hi : Option Int) : List PyData := (ds.drop (HT.sIx ds.length 0 lo)).take (HT.sIx ds.length ds.length hi - HT.sIx ds.length 0 lo)
theorem cutD_from (ds : List PyData) (n : Nat) : cutD ds (some (n : Int)) none = ds.drop n := by
  unfold cutD
  rw [HT.sIx_nat, HT.sIx_none]
  by_cases h : n ≤ ds.length
  · rw [Nat.min_eq_left h, List.take_of_length_le (by rw [List.length_drop]; omega)]
  · rw [Nat.min_eq_right (by omega), List.drop_length, List.drop_of_length_le (by omega)]
    simp
theorem cutD_to (ds : List PyData) (n : Nat) : cutD ds none (some (n : Int)) = ds.take n := by
  unfold cutD
  rw [HT.sIx_nat, HT.sIx_none, List.drop_zero, Nat.sub_zero]
  by_cases h : n ≤ ds.length
  · rw [Nat.min_eq_left h]
  · rw [Nat.min_eq_right (by omega), List.take_length, List.take_of_length_le (by omega)]
theorem evd_sl {tlo thi : TO} {lo hi : Option Int} (h : EvD te σ G (.tuple ds)) (h1 : EvO tlo σ G lo) (h2 : EvO thi σ G hi) : EvD (tSl (rSlA K) te tlo thi) σ G (.tuple (cutD ds lo hi)) := fun G1 H1 x s Q q =>
  h G1 H1 x s _ fun v G2 H2 r hd => h1 H2 ((x.trans r.g).trans r.s) _ fun H3 x3 => h2 H3 (((x.trans r.g).trans r.s).trans x3) _ fun H4 x4 => by
    obtain ⟨a, xs, rfl, e, hs⟩ := hd.tup_
    have r4 := r.trans (Gr.keep r.s (x3.trans x4))
    have e4 := r4.s _ _ e
    refine ⟨a, xs, rfl, SqT.of e4, fun hw => q _ G2 H4 r4 ?_, fun hw p hp => ?_⟩
    · have : cutD ds lo hi = ds := by
        rw [hs.len] at hw
        unfold cutD
        rw [hw.1, hw.2, List.drop_zero, Nat.sub_zero, List.take_length]
      rw [this]
      exact hd
    · have n := Gr.new (o := .tup (cutV xs lo hi)) r4.s hp rfl
      exact q (.ref p) _ _ (r4.trans n) (.tup upd_same ((cut_da hs lo hi).up n.g))
theorem EvO.none_ : EvO L2.tNoPart σ G none := fun H1 _ _ q => q H1 (Ex.refl _)
theorem EvO.some_ {n : Int} (h : Ev te σ G (.int n)) : EvO (L2.tPart te) σ G (some n) := fun H1 x Q q => h H1 x _ fun H2 x2 => ⟨n, rfl, q H2 x2⟩
/-- a + b of tuples -/
theorem evd_cat (ha : EvD ta σ G (.tuple ds)) (hb : EvD tb σ G (.tuple es)) (hl : ds.length + es.length ≤ 100000) : EvD (tOp (rCatA K) ta tb) σ G (.tuple (ds ++ es)) := fun G1 H1 x s Q q =>
  ha G1 H1 x s _ fun v G2 H2 r hd => hb G2 H2 (x.trans r.g) r.s _ fun w G3 H3 r2 he => by
    obtain ⟨a, xs, rfl, e1, h1⟩ := (hd.up r2.g).tup_
    obtain ⟨b, ys, rfl, e2, h2⟩ := he.tup_
    have r3 := r.trans r2
    refine ⟨a, b, xs, ys, rfl, rfl, SqT.of (r3.s _ _ e1), SqT.of (r3.s _ _ e2), by rw [h1.len, h2.len]; exact sz_of hl, fun z => ?_, fun _ z => ?_, fun _ _ p hp => ?_⟩
    · subst z
      cases h1
      exact q _ G3 H3 r3 he
    · subst z
      cases h2
      refine q _ G3 H3 r3 ?_
      rw [List.append_nil]
      exact hd.up r2.g
    · have n := Gr.new (o := .tup (xs ++ ys)) r3.s hp rfl
      exact q (.ref p) _ _ (r3.trans n) (.tup upd_same ((h1.app h2).up n.g))
/-- isinstance(x, T) -/
theorem ev_isi {T : String} {b : Bool} (h : EvD te σ G d) (hk : ∀ {H : Hp} {v : V}, Kd H v (kd d) → kitB (kd d) T = some b) : Ev (tCB (rIsi K) (tCons te (tCons (tC (.ty T)) tNil))) σ G (.bl b) := fun H1 x Q q => h G H1 (Ex.refl _) x _ fun v G2 H2 r hd =>
  ⟨v, .ty T, .type (kd d), .type T, b, rfl, .ty T, (hd.up r.s).kd.ty K, kit_ty (hk hd.kd), q H2 r.h⟩
theorem ev_isTup (h : EvD te σ G d) : Ev (tCB (rIsi K) (tCons te (tCons (tC (.ty "tuple")) tNil))) σ G (.bl (kd d == "tuple")) := ev_isi h fun k => k.tuple_
theorem ev_isStr (h : EvD te σ G d) : Ev (tCB (rIsi K) (tCons te (tCons (tC (.ty "str")) tNil))) σ G (.bl (kd d == "str")) := ev_isi h fun k => k.str_k
theorem ev_isBool (h : EvD te σ G d) : Ev (tCB (rIsi K) (tCons te (tCons (tC (.ty "bool")) tNil))) σ G (.bl (kd d == "bool")) := ev_isi h fun k => k.bool_
theorem ev_isInt (h : EvD te σ G d) : Ev (tCB (rIsi K) (tCons te (tCons (tC (.ty "int")) tNil))) σ G (.bl (kd d == "int" || kd d == "bool")) := by
  refine ev_isi h fun k => ?_
  cases d <;> (first | rfl | decide +kernel)
/-- len -/
theorem ev_lenT (h : EvD te σ G (.tuple ds)) : Ev (tCB (fun xs H Q => ∃ p ys, xs = [V.ref p] ∧ (SqL K H p ys ∨ SqT K H p ys) ∧ Q (.int ys.length) H) (tCons te tNil)) σ G (.int (ds.length : Int)) := fun H1 x Q q => h G H1 (Ex.refl _) x _ fun v G2 H2 r hd => by
  obtain ⟨a, xs, rfl, e, hs⟩ := hd.tup_
  refine ⟨a, xs, rfl, .inr (SqT.of (r.s _ _ e)), ?_⟩
  rw [hs.len]
  exact q H2 r.h
theorem ev_lenL (h : EvD te σ G (.list ds)) : Ev (tCB (fun xs H Q => ∃ p ys, xs = [V.ref p] ∧ (SqL K H p ys ∨ SqT K H p ys) ∧ Q (.int ys.length) H) (tCons te tNil)) σ G (.int (ds.length : Int)) := fun H1 x Q q => h G H1 (Ex.refl _) x _ fun v G2 H2 r hd => by
  obtain ⟨a, xs, rfl, e, hs⟩ := hd.lst_
  refine ⟨a, xs, rfl, .inl (SqL.of (r.s _ _ e)), ?_⟩
  rw [hs.len]
  exact q H2 r.h
/-! ### comprehensions -/
/-- what a comprehension has made: the list at D is behind the view -/
structure LcI (G1 H1 : Hp) (D : Addr) (H' : Hp) (ds : List PyData) : Prop where
  w : ∃ G' ys, Gr G1 H1 G' H' ∧ G' D = none ∧ H' D = some (.lst ys) ∧ DaAll G' ys ds
  fr : H1 D = none
theorem LcI.start {G1 H1 : Hp} {D : Addr} (s : Ex G1 H1) (hD : H1 D = none) : LcI G1 H1 D (upd H1 D (.lst [])) [] := by
  refine ⟨⟨G1, [], Gr.keep s (Ex.new hD), ?_, upd_same, .nil⟩, hD⟩
  cases e : G1 D with
  | none => rfl
  | some o => rw [s _ _ e] at hD; cases hD
theorem LcI.done {G1 H1 H' : Hp} {D : Addr} {ds : List PyData} (I : LcI G1 H1 D H' ds) : ∃ G2, Gr G1 H1 G2 H' ∧ Da G2 (.ref D) (.list ds) := by
  obtain ⟨G', ys, r, h1, h2, h3⟩ := I.w
  have x : Ex G' (upd G' D (.lst ys)) := Ex.new h1
  refine ⟨upd G' D (.lst ys), ⟨r.h, r.g.trans x, fun a o h => ?_, fun a e1 e2 => ?_, fun a o h => ?_⟩, .lst upd_same (h3.up x)⟩
  · by_cases e : a = D
    · subst e
      rw [upd_same] at h
      cases h
      exact h2
    · rw [upd_ne e] at h
      exact r.s _ _ h
  · rw [upd_ne (fun e => e1 (by rw [e]; exact I.fr))]
    exact r.n a e1 e2
  · by_cases e : a = D
    · subst e
      rw [upd_same] at h
      cases h
      exact .inr rfl
    · rw [upd_ne e] at h
      exact r.t a o h
/-- an element that is taken -/
theorem LcI.put {G1 H1 H' : Hp} {D : Addr} {ds : List PyData} {te : TE} {σ : L2.St} {d : PyData} {N : Hp → Prop} (I : LcI G1 H1 D H' ds) (hl : ds.length ≤ 50000) (he : EvD te σ G1 d) (k : ∀ H2, LcI G1 H1 D H2 (ds ++ [d]) → N H2) :
    te σ H' fun y H4 => ∃ acc, H4 D = some (.lst acc) ∧ acc.length < sizeLine ∧ N (upd H4 D (.lst (acc ++ [y]))) := by
  obtain ⟨G', ys, r, h1, h2, h3⟩ := I.w
  refine he G' H' r.g r.s _ fun v G2 H2 r2 hd => ⟨ys, r2.h _ _ h2, ?_, k _ ⟨⟨G2, ys ++ [v], ?_, ?_, upd_same, (h3.up r2.g).app (.cons hd .nil)⟩, I.fr⟩⟩
  · rw [h3.len]
    exact Nat.lt_of_le_of_lt hl (by decide)
  · have nD : G2 D = none := r2.n D (by rw [h2]; simp) h1
    have r3 := r.trans r2
    exact ⟨Ex.mut r3.h I.fr, r3.g, fun a o h => by rw [upd_ne (fun e => by rw [e, nD] at h; cases h)]; exact r3.s _ _ h, r3.n, r3.t⟩
  · exact r2.n D (by rw [h2]; simp) h1
theorem LcI.test {G1 H1 H' : Hp} {D : Addr} {ds : List PyData} {t : TT} {σ : L2.St} {b : Bool} {R : Bool → Hp → Prop} (I : LcI G1 H1 D H' ds) (h : EvT t σ G1 b) (k : ∀ H2, LcI G1 H1 D H2 ds → R b H2) : t σ H' R := by
  obtain ⟨G', ys, r, h1, h2, h3⟩ := I.w
  exact h H' (r.g.trans r.s) _ fun H2 x2 => k H2 ⟨⟨G', ys, r.trans (Gr.keep r.s x2), h1, x2 _ _ h2, h3⟩, I.fr⟩
theorem LcI.sub {G1 H1 H' : Hp} {D : Addr} {ds : List PyData} (I : LcI G1 H1 D H' ds) : Ex G1 H' := by
  obtain ⟨G', ys, r, _⟩ := I.w
  exact r.g.trans r.s
theorem take_da {α : Type} {ds : List α} {i : Nat} {d : α} (h : ds[i]? = some d) : ds.take (i + 1) = ds.take i ++ [d] := by
  rw [List.take_add_one, h]
  rfl
/-- one turn of a comprehension -/
theorem LcI.turn {α : Type} {G1 H1 H' : Hp} {D : Addr} {as : List α} {i : Nat} {x : α} {p : α → Bool} {f : α → PyData} {t : TT} {te : TE} {σ : L2.St} {N : Hp → Prop} (I : LcI G1 H1 D H' (((as.take i).filter p).map f)) (hi : as[i]? = some x) (hz : as.length ≤ 50000) (ht : EvT t σ G1 (p x)) (he : p x = true → EvD te σ G1 (f x))
    (k : ∀ H2, LcI G1 H1 D H2 (((as.take (i + 1)).filter p).map f) → N H2) : t σ H' fun b H3 => if b = true then te σ H3 fun y H4 => ∃ acc, H4 D = some (.lst acc) ∧ acc.length < sizeLine ∧ N (upd H4 D (.lst (acc ++ [y]))) else N H3 := by
  refine I.test ht fun H2 I2 => ?_
  have e : ((as.take (i + 1)).filter p).map f = ((as.take i).filter p).map f ++ (if p x = true then [f x] else []) := by
    rw [take_da hi, List.filter_append, List.map_append]
    cases hp : p x with
    | false => rw [List.filter_cons_of_neg (by rw [hp]; exact Bool.false_ne_true)]; rfl
    | true => rw [List.filter_cons_of_pos hp]; rfl
  cases hp : p x with
  | false =>
    rw [if_neg Bool.false_ne_true]
    refine k H2 ?_
    rw [e, hp, if_neg Bool.false_ne_true, List.append_nil]
    exact I2
  | true =>
    rw [if_pos rfl]
    refine I2.put ?_ (he hp) fun H3 I3 => k H3 ?_
    · rw [List.length_map]
      have := List.length_filter_le p (as.take i)
      have := List.length_take_le i as
      have := (List.getElem?_eq_some_iff.mp hi).1
      omega
    · rw [e, hp, if_pos rfl]
      exact I3
/-- [e for x in l if c], l a list of data, a tuple, a text -/
theorem evd_lcL {j : Nat} {vs : List Nat} (p : PyData → Bool) (f : PyData → PyData) (h : EvD tl σ G (.list ds)) (hz : ds.length ≤ 50000) (hw : ∀ x, wipe ((wipe σ vs).set j (some x)) vs = wipe σ vs)
    (ht : ∀ d ∈ ds, ∀ v G1, Ex G G1 → Da G1 v d → EvT t ((wipe σ vs).set j (some v)) G1 (p d)) (he : ∀ d ∈ ds, p d = true → ∀ v G1, Ex G G1 → Da G1 v d → EvD te ((wipe σ vs).set j (some v)) G1 (f d)) :
    EvD (tLc (iList K tl) (gName j) t te vs) σ G (.list ((ds.filter p).map f)) := fun G0 H0 x0 s0 Q q => h G0 H0 x0 s0 _ fun v0 G1 H1 r1 hd => by
  obtain ⟨a, xs, rfl, ea, hs⟩ := hd.lst_
  refine ⟨a, rfl, ⟨xs, SqL.of (r1.s _ _ ea)⟩, fun D hD => lc_list (K := K) (a := a) (xs := xs) (fun i H' => LcI G1 H1 D H' (((ds.take i).filter p).map f)) (LcI.start r1.s hD) (fun i H' _ I => SqL.of (I.sub _ _ ea)) ?_ ?_⟩
  · rintro i x H' hx I
    obtain ⟨d, hdi, hdv⟩ := hs.at hx
    have mem := List.mem_of_getElem? hdi
    exact ⟨hw x, I.turn hdi hz (ht d mem x G1 (x0.trans r1.g) hdv) (fun hp => he d mem hp x G1 (x0.trans r1.g) hdv) fun H2 I2 => I2⟩
  · rintro H' I
    rw [hs.len, List.take_length] at I
    obtain ⟨G2, r2, h2⟩ := I.done
    exact q (.ref D) G2 H' (r1.trans r2) h2
theorem evd_lcT {j : Nat} {vs : List Nat} (p : PyData → Bool) (f : PyData → PyData) (h : EvD tl σ G (.tuple ds)) (hz : ds.length ≤ 50000) (hw : ∀ x, wipe ((wipe σ vs).set j (some x)) vs = wipe σ vs)
    (ht : ∀ d ∈ ds, ∀ v G1, Ex G G1 → Da G1 v d → EvT t ((wipe σ vs).set j (some v)) G1 (p d)) (he : ∀ d ∈ ds, p d = true → ∀ v G1, Ex G G1 → Da G1 v d → EvD te ((wipe σ vs).set j (some v)) G1 (f d)) :
    EvD (tLc (iTup K tl) (gName j) t te vs) σ G (.list ((ds.filter p).map f)) := fun G0 H0 x0 s0 Q q => h G0 H0 x0 s0 _ fun v0 G1 H1 r1 hd => by
  obtain ⟨a, xs, rfl, ea, hs⟩ := hd.tup_
  refine ⟨a, rfl, ⟨xs, SqT.of (r1.s _ _ ea)⟩, fun D hD => lc_tup (K := K) (a := a) (xs := xs) (fun i H' => LcI G1 H1 D H' (((ds.take i).filter p).map f)) (LcI.start r1.s hD) (fun i H' _ I => SqT.of (I.sub _ _ ea)) ?_ ?_⟩
  · rintro i x H' hx I
    obtain ⟨d, hdi, hdv⟩ := hs.at hx
    have mem := List.mem_of_getElem? hdi
    exact ⟨hw x, I.turn hdi hz (ht d mem x G1 (x0.trans r1.g) hdv) (fun hp => he d mem hp x G1 (x0.trans r1.g) hdv) fun H2 I2 => I2⟩
  · rintro H' I
    rw [hs.len, List.take_length] at I
    obtain ⟨G2, r2, h2⟩ := I.done
    exact q (.ref D) G2 H' (r1.trans r2) h2
def sgn1 (c : Nat) : Str := ⟨#[c]⟩
theorem evd_lcS {j : Nat} {vs : List Nat} {z : Str} (p : Nat → Bool) (f : Nat → PyData) (h : EvD tl σ G (.str z)) (hw : ∀ x, wipe ((wipe σ vs).set j (some x)) vs = wipe σ vs)
    (ht : ∀ c ∈ z.cps.toList, EvT t ((wipe σ vs).set j (some (.str (sgn1 c)))) G (p c)) (he : ∀ c ∈ z.cps.toList, p c = true → EvD te ((wipe σ vs).set j (some (.str (sgn1 c)))) G (f c)) :
    EvD (tLc (iStr tl) (gName j) t te vs) σ G (.list ((z.cps.toList.filter p).map f)) := fun G0 H0 x0 s0 Q q => h G0 H0 x0 s0 _ fun v0 G1 H1 r1 hd => by
  obtain ⟨rfl, hl⟩ := hd.str_
  have hsz : z.cps.toList.length ≤ 1000 := hl
  have tg : ∀ {c : Nat}, c ∈ z.cps.toList → EvT t ((wipe σ vs).set j (some (.str (sgn1 c)))) G1 (p c) := fun hc H a Q q => ht _ hc H ((x0.trans r1.g).trans a) Q q
  refine ⟨z, rfl, fun D hD => lc_it (walk_str (z := z)) (fun i H' => LcI G1 H1 D H' (((z.cps.toList.take i).filter p).map f)) (LcI.start r1.s hD) (fun _ _ _ _ => trivial) ?_ ?_⟩
  · rintro i x H' H'' hi I ⟨rfl, c, hc, rfl⟩
    have hc' : z.cps.toList[i]? = some c := by rw [Array.getElem?_toList]; exact hc
    have mem := List.mem_of_getElem? hc'
    exact ⟨hw _, I.turn hc' (by omega) (tg mem) (fun hp => (he c mem hp).mono (x0.trans r1.g)) fun H2 I2 => I2⟩
  · rintro H' I
    rw [show z.cps.size = z.cps.toList.length from rfl, List.take_length] at I
    obtain ⟨G2, r2, h2⟩ := I.done
    exact q (.ref D) G2 H' (r1.trans r2) h2
theorem et_yes {b : Bool} : EvT tYes σ G true := fun H1 _ Q q => q H1 (Ex.refl _)
/-- all([..]) -/
theorem da_bools {H : Hp} {vs : List V} {bs : List Bool} (h : DaAll H vs (bs.map PyData.bool)) : vs = bs.map V.bl := by
  induction bs generalizing vs with
  | nil => cases h; rfl
  | cons b bs ih => cases h with | cons h t => rw [h.bl_, ih t]; rfl
theorem da_ints {H : Hp} {vs : List V} {is : List Int} (h : DaAll H vs (is.map PyData.int)) : vs = is.map V.int := by
  induction is generalizing vs with
  | nil => cases h; rfl
  | cons b bs ih => cases h with | cons h t => rw [h.int_, ih t]; rfl
theorem ev_allD {bs : List Bool} (h : EvD te σ G (.list (bs.map PyData.bool))) : Ev (tCB (rAll K) (tCons te tNil)) σ G (.bl (bs.all id)) := fun H1 x Q q => h G H1 (Ex.refl _) x _ fun v G2 H2 r hd => by
  obtain ⟨a, xs, rfl, e, hs⟩ := hd.lst_
  cases da_bools hs
  exact ⟨a, bs, rfl, SqL.of (r.s _ _ e), q H2 r.h⟩
/-! ### calls: a promise by a plain function on data -/
def spF (F : List PyData → Option PyData) : Sp := fun vs H Q _ => ∃ G ds d, Ex G H ∧ DaAll G vs ds ∧ F ds = some d ∧ ∀ v G' H', Gr G H G' H' → Da G' v d → Q v H'
theorem evd_call {F : List PyData → Option PyData} {E : XK} (h : EvDs tA σ G ds) (hf : F ds = some d) : EvD (tCallD (spF F) E tA) σ G d := fun G1 H1 x s Q q => h G1 H1 x s _ fun vs G2 H2 r hds =>
  ⟨G2, ds, d, r.s, hds, hf, fun v G3 H3 r3 hd => q v G3 H3 (r.trans r3) hd⟩
/-! ### statements -/
variable {D : Ends} {tz tu tw : TS}
theorem q_asgD {i : Nat} (s : Ex G H) (h : EvD te σ G d) (k : ∀ v G1 H1, Gr G H G1 H1 → Da G1 v d → tz D (σ.set i (some v)) H1) : tSeq (tAsg te (gName i)) tz D σ H := h.go s k
theorem s_retD (s : Ex G H) (h : EvD te σ G d) (k : ∀ v G1 H1, Gr G H G1 H1 → Da G1 v d → D.rt v H1) : tRet te D σ H := h.go s k
theorem q_ifD {b : Bool} (s : Ex G H) (h : EvT t σ G b) (h1 : b = true → ∀ H1, Ex H H1 → tu { D with nx := tz D } σ H1) (h2 : b = false → ∀ H1, Ex H H1 → tw { D with nx := tz D } σ H1) : tSeq (tIfS t tu tw) tz D σ H := h H s _ fun H1 x => by
  cases b with
  | true =>
    show tu { D with nx := tz D } σ H1
    exact h1 rfl H1 x
  | false =>
    show tw { D with nx := tz D } σ H1
    exact h2 rfl H1 x
end
end Lf
set_option maxHeartbeats 4000000
/-! What is drawn: an expression that turns the wheel at L (a list that the view does not know) and evaluates to some data of which P holds -/
namespace Lf
open PySem L2 Evl
def ExB (L : Addr) (H H' : Hp) : Prop := ∀ a o, a ≠ L → H a = some o → H' a = some o
section
variable {Lm : List V → Prop} {L : Addr} {G H G1 H1 G2 H2 : Hp}
theorem ExB.refl : ExB L H H := fun _ _ _ h => h
theorem ExB.trans (a : ExB L H H1) (b : ExB L H1 H2) : ExB L H H2 := fun x o n h => b x o n (a x o n h)
theorem ExB.of (x : Ex H H1) : ExB L H H1 := fun a o _ h => x a o h
end
/-- the wheel at L, behind the view -/
structure At (Lm : List V → Prop) (L : Addr) (G H : Hp) : Prop where
  s : Ex G H
  f : G L = none
  l : ∃ xs, H L = some (.lst xs) ∧ Lm xs
structure GrB (Lm : List V → Prop) (L : Addr) (G H G' H' : Hp) : Prop where
  h : ExB L H H'
  g : Ex G G'
  n : ∀ a, H a ≠ none → G a = none → G' a = none
  t : ∀ a o, G' a = some o → G a = some o ∨ dataO o = true
  w : At Lm L G' H'
section
variable {Lm : List V → Prop} {L : Addr} {G H G1 H1 G2 H2 : Hp}
theorem At.up (w : At Lm L G H) (x : Ex H H1) : At Lm L G H1 := ⟨w.s.trans x, w.f, let ⟨xs, h, m⟩ := w.l; ⟨xs, x _ _ h, m⟩⟩
theorem At.some_ (w : At Lm L G H) : H L ≠ none := by
  obtain ⟨xs, h, _⟩ := w.l
  rw [h]
  exact fun z => by cases z
theorem GrB.of (w : At Lm L G H) (r : Gr G H G1 H1) : GrB Lm L G H G1 H1 := ⟨ExB.of r.h, r.g, r.n, r.t, r.s, r.n L w.some_ w.f, let ⟨xs, h, m⟩ := w.l; ⟨xs, r.h _ _ h, m⟩⟩
theorem GrB.refl (w : At Lm L G H) : GrB Lm L G H G H := GrB.of w (Gr.refl w.s)
theorem GrB.keep (w : At Lm L G H) (x : Ex H H1) : GrB Lm L G H G H1 := GrB.of w (Gr.keep w.s x)
theorem GrB.s (r : GrB Lm L G H G1 H1) : Ex G1 H1 := r.w.s
theorem GrB.trans (a : GrB Lm L G H G1 H1) (b : GrB Lm L G1 H1 G2 H2) : GrB Lm L G H G2 H2 := by
  refine ⟨a.h.trans b.h, a.g.trans b.g, fun c h1 h2 => b.n c (fun z => ?_) (a.n c h1 h2), fun c o h => ?_, b.w⟩
  · by_cases e : c = L
    · subst e
      exact a.w.some_ z
    · cases e2 : H c with
      | none => exact h1 e2
      | some o => rw [a.h _ _ e e2] at z; cases z
  · rcases b.t c o h with h | h
    · exact a.t c o h
    · exact .inr h
theorem GrB.gr (a : GrB Lm L G H G1 H1) (b : Gr G1 H1 G2 H2) : GrB Lm L G H G2 H2 := a.trans (GrB.of a.w b)
/-- the wheel turns -/
theorem GrB.turn (w : At Lm L G H) {xs : List V} (m : Lm xs) : GrB Lm L G H G (upd H L (.lst xs)) := by
  refine ⟨fun a o n h => by rw [upd_ne n]; exact h, Ex.refl _, fun _ _ h => h, fun _ _ h => .inl h, Ex.mut w.s w.f, w.f, xs, upd_same, m⟩
/-- an object that the view does not know may change -/
theorem GrB.mut {p : Addr} {o : HO} (r : GrB Lm L G H G1 H1) (hp : G p = none) (hh : H p ≠ none) (ne : p ≠ L) : At Lm L G1 (upd H1 p o) := by
  refine ⟨fun a u h => ?_, r.w.f, ?_⟩
  · rw [upd_ne (fun e => by rw [e, r.n p hh hp] at h; cases h)]
    exact r.s _ _ h
  · obtain ⟨xs, h, m⟩ := r.w.l
    exact ⟨xs, by rw [upd_ne (Ne.symm ne)]; exact h, m⟩
end
def Dr (Lm : List V → Prop) (L : Addr) (te : TE) (σ : L2.St) (G : Hp) (P : PyData → Prop) : Prop := ∀ G1 H1, Ex G G1 → At Lm L G1 H1 → ∀ Q : VK, (∀ v d G2 H2, GrB Lm L G1 H1 G2 H2 → P d → Da G2 v d → Q v H2) → te σ H1 Q
def DrS (Lm : List V → Prop) (L : Addr) (ta : TA) (σ : L2.St) (G : Hp) (R : List PyData → Prop) : Prop := ∀ G1 H1, Ex G G1 → At Lm L G1 H1 → ∀ Q : List V → Hp → Prop, (∀ vs ds G2 H2, GrB Lm L G1 H1 G2 H2 → R ds → DaAll G2 vs ds → Q vs H2) → ta σ H1 Q
/-- a test that comes out one way or the other -/
def DrT (Lm : List V → Prop) (L : Addr) (t : TT) (σ : L2.St) (G : Hp) (B : Bool → Prop) : Prop := ∀ G1 H1, Ex G G1 → At Lm L G1 H1 → ∀ Q : Bool → Hp → Prop, (∀ b G2 H2, GrB Lm L G1 H1 G2 H2 → B b → Q b H2) → t σ H1 Q
def isI (P : Int → Prop) (d : PyData) : Prop := ∃ i, d = .int i ∧ P i
def isB (P : Bool → Prop) (d : PyData) : Prop := ∃ i, d = .bool i ∧ P i
section
variable {K : PySem.W.Frag} {Lm : List V → Prop} {L : Addr} {σ : L2.St} {G G' H : Hp} {ta tb te tl : TE} {t u : TT} {tA tr : TA} {d e : PyData} {ds es : List PyData} {v : V} {P P' : PyData → Prop} {R R' : List PyData → Prop} {B : Bool → Prop}
theorem Dr.mono (x : Ex G G') (h : Dr Lm L te σ G P) : Dr Lm L te σ G' P := fun G1 H1 a w Q q => h G1 H1 (x.trans a) w Q q
theorem Dr.imp (h : Dr Lm L te σ G P) (i : ∀ d, P d → P' d) : Dr Lm L te σ G P' := fun G1 H1 a w Q q => h G1 H1 a w Q fun v d G2 H2 r p hd => q v d G2 H2 r (i d p) hd
theorem DrS.imp (h : DrS Lm L tA σ G R) (i : ∀ d, R d → R' d) : DrS Lm L tA σ G R' := fun G1 H1 a w Q q => h G1 H1 a w Q fun v d G2 H2 r p hd => q v d G2 H2 r (i d p) hd
theorem Dr.go (h : Dr Lm L te σ G P) (w : At Lm L G H) {Q : VK} (k : ∀ v d G2 H2, GrB Lm L G H G2 H2 → P d → Da G2 v d → Q v H2) : te σ H Q := h G H (Ex.refl _) w Q k
theorem dr_of (h : EvD te σ G d) : Dr Lm L te σ G (fun z => z = d) := fun G1 H1 a w Q q => h G1 H1 a w.s Q fun v G2 H2 r hd => q v d G2 H2 (GrB.of w r) rfl hd
theorem dr_int {i : Int} (h : Ev te σ G (.int i)) : Dr Lm L te σ G (isI fun z => z = i) := (dr_of (evd_int h)).imp fun d e => ⟨i, e, rfl⟩
theorem drs_of (h : EvDs tA σ G ds) : DrS Lm L tA σ G (fun z => z = ds) := fun G1 H1 a w Q q => h G1 H1 a w.s Q fun v G2 H2 r hd => q v ds G2 H2 (GrB.of w r) rfl hd
theorem drs_nil : DrS Lm L tNil σ G (fun ds => ds = []) := fun G1 H1 _ w Q q => q [] [] G1 H1 (GrB.refl w) rfl .nil
theorem drs_cons (h : Dr Lm L te σ G P) (hr : DrS Lm L tr σ G R) : DrS Lm L (tCons te tr) σ G (fun ds => ∃ d r, ds = d :: r ∧ P d ∧ R r) := fun G1 H1 x w Q q => h G1 H1 x w _ fun v d G2 H2 r p hd => hr G2 H2 (x.trans r.g) r.w _ fun vs ds G3 H3 r2 p2 hds => q (v :: vs) (d :: ds) G3 H3 (r.trans r2) ⟨d, ds, rfl, p, p2⟩ (.cons (hd.up r2.g) hds)
theorem dr_tup (h : DrS Lm L tA σ G R) (hl : ∀ ds, R ds → ds.length ≤ 100000) : Dr Lm L (tTup tA) σ G (fun d => ∃ ds, d = .tuple ds ∧ R ds) := fun G1 H1 x w Q q => h G1 H1 x w _ fun vs ds G2 H2 r p hds =>
  ⟨by rw [hds.len]; exact sz_of (hl _ p), fun a ha => have n := Gr.new (o := .tup vs) r.s ha rfl; q (.ref a) _ _ _ (r.gr n) ⟨ds, rfl, p⟩ (.tup upd_same (hds.up n.g))⟩
theorem dr_lst (h : DrS Lm L tA σ G R) (hl : ∀ ds, R ds → ds.length ≤ 100000) : Dr Lm L (tLst tA) σ G (fun d => ∃ ds, d = .list ds ∧ R ds) := fun G1 H1 x w Q q => h G1 H1 x w _ fun vs ds G2 H2 r p hds =>
  ⟨by rw [hds.len]; exact sz_of (hl _ p), fun a ha => have n := Gr.new (o := .lst vs) r.s ha rfl; q (.ref a) _ _ _ (r.gr n) ⟨ds, rfl, p⟩ (.lst upd_same (hds.up n.g))⟩
/-- l[i], i drawn -/
theorem dr_ixL (ha : Dr Lm L ta σ G (fun z => z = .list ds)) {B : Int → Prop} (hb : Dr Lm L tb σ G (isI B)) (hi : ∀ i, B i → 0 ≤ i ∧ i < ds.length) : Dr Lm L (tOp (rIxL K) ta tb) σ G (fun d => d ∈ ds) := fun G1 H1 x w Q q => ha G1 H1 x w _ fun v d G2 H2 r e hd => hb G2 H2 (x.trans r.g) r.w _ fun v2 d2 G3 H3 r3 ⟨i, ei, hB⟩ hd2 => by
  subst e
  subst ei
  obtain ⟨a, xs, rfl, e, hs⟩ := (hd.up r3.g).lst_
  cases hd2.int_
  obtain ⟨h0, h1⟩ := hi i hB
  have hn : i = ((i.toNat : Nat) : Int) := by omega
  have hd3 : ds[i.toNat]? = some ds[i.toNat] := List.getElem?_eq_getElem (by omega)
  obtain ⟨w3, hw, hdw⟩ := hs.get hd3
  refine ⟨a, xs, i, w3, rfl, rfl, SqL.of (r3.s _ _ e), ?_, q w3 _ G3 H3 (r.trans r3) (List.mem_of_getElem? hd3) hdw⟩
  rw [hn]
  exact atI_nat hw
/-- a one-place operation on ints, a two-place one -/
theorem dr_opI {f : Int → Int → Int} {A B : Int → Prop} (ha : Dr Lm L ta σ G (isI A)) (hb : Dr Lm L tb σ G (isI B)) : Dr Lm L (tOp (rI0 fun i j => .int (f i j)) ta tb) σ G (isI fun k => ∃ i j, A i ∧ B j ∧ k = f i j) := fun G1 H1 x w Q q => ha G1 H1 x w _ fun v d G2 H2 r ⟨i, ei, hA⟩ hd => hb G2 H2 (x.trans r.g) r.w _ fun v2 d2 G3 H3 r3 ⟨j, ej, hB⟩ hd2 => by
  subst ei
  subst ej
  cases hd.int_
  cases hd2.int_
  exact ⟨i, j, rfl, rfl, q _ _ G3 H3 (r.trans r3) ⟨_, rfl, i, j, hA, hB, rfl⟩ (.int _)⟩
theorem dr_opC {C : Int → Int → Prop} {f : Int → Int → Int} {A B : Int → Prop} (ha : Dr Lm L ta σ G (isI A)) (hb : Dr Lm L tb σ G (isI B)) (hc : ∀ i j, A i → B j → C i j) : Dr Lm L (tOp (rI C fun i j => .int (f i j)) ta tb) σ G (isI fun k => ∃ i j, A i ∧ B j ∧ k = f i j) := fun G1 H1 x w Q q => ha G1 H1 x w _ fun v d G2 H2 r ⟨i, ei, hA⟩ hd => hb G2 H2 (x.trans r.g) r.w _ fun v2 d2 G3 H3 r3 ⟨j, ej, hB⟩ hd2 => by
  subst ei
  subst ej
  cases hd.int_
  cases hd2.int_
  exact ⟨i, j, rfl, rfl, hc i j hA hB, q _ _ G3 H3 (r.trans r3) ⟨_, rfl, i, j, hA, hB, rfl⟩ (.int _)⟩
theorem dr_cmpI {f : Int → Int → Bool} {A B : Int → Prop} (ha : Dr Lm L ta σ G (isI A)) (hb : Dr Lm L tb σ G (isI B)) : Dr Lm L (tOp (rI0 fun i j => .bl (f i j)) ta tb) σ G (isB fun k => ∃ i j, A i ∧ B j ∧ k = f i j) := fun G1 H1 x w Q q => ha G1 H1 x w _ fun v d G2 H2 r ⟨i, ei, hA⟩ hd => hb G2 H2 (x.trans r.g) r.w _ fun v2 d2 G3 H3 r3 ⟨j, ej, hB⟩ hd2 => by
  subst ei
  subst ej
  cases hd.int_
  cases hd2.int_
  exact ⟨i, j, rfl, rfl, q _ _ G3 H3 (r.trans r3) ⟨_, rfl, i, j, hA, hB, rfl⟩ (.bl _)⟩
theorem dr_eqI {A B : Int → Prop} (ha : Dr Lm L ta σ G (isI A)) (hb : Dr Lm L tb σ G (isI B)) : Dr Lm L (tOp rEq ta tb) σ G (isB fun k => ∃ i j, A i ∧ B j ∧ k = decide (i = j)) := fun G1 H1 x w Q q => ha G1 H1 x w _ fun v d G2 H2 r ⟨i, ei, hA⟩ hd => hb G2 H2 (x.trans r.g) r.w _ fun v2 d2 G3 H3 r3 ⟨j, ej, hB⟩ hd2 => by
  subst ei
  subst ej
  cases hd.int_
  cases hd2.int_
  refine ⟨rfl, q _ (.bool (decide (i = j))) G3 H3 (r.trans r3) ⟨_, rfl, i, j, hA, hB, rfl⟩ ?_⟩
  have : decide (V.int i = V.int j) = decide (i = j) := by rw [decide_eq_decide]; simp
  rw [this]
  exact .bl _
theorem drt_test (h : Dr Lm L te σ G (isB B)) : DrT Lm L (tTest te) σ G B := fun G1 H1 x w Q q => h G1 H1 x w _ fun v d G2 H2 r ⟨b, e, hb⟩ hd => by
  subst e
  cases hd.bl_
  exact ⟨b, rfl, q b G2 H2 r hb⟩
theorem drt_of {b : Bool} (h : EvT t σ G b) : DrT Lm L t σ G (fun z => z = b) := fun G1 H1 x w Q q => h H1 (x.trans w.s) _ fun H2 x2 => q b G1 H2 (GrB.keep w x2) rfl
theorem DrT.imp {B' : Bool → Prop} (h : DrT Lm L t σ G B) (i : ∀ b, B b → B' b) : DrT Lm L t σ G B' := fun G1 H1 x w Q q => h G1 H1 x w Q fun b G2 H2 r hb => q b G2 H2 r (i b hb)
theorem drt_and {B' : Bool → Prop} (h : DrT Lm L t σ G B) (h2 : B true → DrT Lm L u σ G B') : DrT Lm L (tAnd t u) σ G (fun z => (z = true ∧ B true ∧ B' true) ∨ (z = false ∧ (B false ∨ (B true ∧ B' false)))) := fun G1 H1 x w Q q => h G1 H1 x w _ fun b G2 H2 r hb => by
  cases b with
  | false => exact q false G2 H2 r (.inr ⟨rfl, .inl hb⟩)
  | true =>
    show u σ H2 Q
    refine h2 hb G2 H2 (x.trans r.g) r.w _ fun c G3 H3 r3 hc => ?_
    cases c with
    | true => exact q true G3 H3 (r.trans r3) (.inl ⟨rfl, hb, hc⟩)
    | false => exact q false G3 H3 (r.trans r3) (.inr ⟨rfl, .inr ⟨hb, hc⟩⟩)
theorem drt_or {B' : Bool → Prop} (h : DrT Lm L t σ G B) (h2 : B false → DrT Lm L u σ G B') : DrT Lm L (tOr t u) σ G (fun z => (z = false ∧ B false ∧ B' false) ∨ (z = true ∧ (B true ∨ (B false ∧ B' true)))) := fun G1 H1 x w Q q => h G1 H1 x w _ fun b G2 H2 r hb => by
  cases b with
  | true => exact q true G2 H2 r (.inr ⟨rfl, .inl hb⟩)
  | false =>
    show u σ H2 Q
    refine h2 hb G2 H2 (x.trans r.g) r.w _ fun c G3 H3 r3 hc => ?_
    cases c with
    | false => exact q false G3 H3 (r.trans r3) (.inl ⟨rfl, hb, hc⟩)
    | true => exact q true G3 H3 (r.trans r3) (.inr ⟨rfl, .inr ⟨hb, hc⟩⟩)
theorem drt_not (h : DrT Lm L t σ G B) : DrT Lm L (tNot t) σ G (fun z => B (!z)) := fun G1 H1 x w Q q => h G1 H1 x w _ fun b G2 H2 r hb => q (!b) G2 H2 r (show B (!!b) by rw [Bool.not_not]; exact hb)
theorem dr_if (h : DrT Lm L t σ G B) (h1 : B true → Dr Lm L ta σ G P) (h2 : B false → Dr Lm L tb σ G P) : Dr Lm L (tIf t ta tb) σ G P := fun G1 H1 x w Q q => h G1 H1 x w _ fun b G2 H2 r hb => by
  cases b with
  | true =>
    show ta σ H2 Q
    exact h1 hb G2 H2 (x.trans r.g) r.w Q fun v d G3 H3 r3 p hd => q v d G3 H3 (r.trans r3) p hd
  | false =>
    show tb σ H2 Q
    exact h2 hb G2 H2 (x.trans r.g) r.w Q fun v d G3 H3 r3 p hd => q v d G3 H3 (r.trans r3) p hd
/-- a + b of tuples, tuple(l), list(t) -/
theorem dr_cat (ha : Dr Lm L ta σ G (fun d => ∃ ds, d = .tuple ds ∧ R ds)) (hb : Dr Lm L tb σ G (fun d => ∃ ds, d = .tuple ds ∧ R' ds)) (hl : ∀ ds es, R ds → R' es → ds.length + es.length ≤ 100000) : Dr Lm L (tOp (rCatA K) ta tb) σ G (fun d => ∃ ds es, d = .tuple (ds ++ es) ∧ R ds ∧ R' es) := fun G1 H1 x w Q q =>
  ha G1 H1 x w _ fun v d G2 H2 r ⟨ds, e1, p1⟩ hd => hb G2 H2 (x.trans r.g) r.w _ fun w' d' G3 H3 r2 ⟨es, e2, p2⟩ he => by
    subst e1
    subst e2
    obtain ⟨a, xs, rfl, e1, h1⟩ := (hd.up r2.g).tup_
    obtain ⟨b, ys, rfl, e2, h2⟩ := he.tup_
    have r3 := r.trans r2
    refine ⟨a, b, xs, ys, rfl, rfl, SqT.of (r3.s _ _ e1), SqT.of (r3.s _ _ e2), by rw [h1.len, h2.len]; exact sz_of (hl _ _ p1 p2), fun z => ?_, fun _ z => ?_, fun _ _ p hp => ?_⟩
    · subst z
      cases h1
      exact q _ _ G3 H3 r3 ⟨[], es, rfl, p1, p2⟩ he
    · subst z
      cases h2
      refine q _ _ G3 H3 r3 ⟨ds, [], rfl, p1, p2⟩ ?_
      rw [List.append_nil]
      exact hd.up r2.g
    · have n := Gr.new (o := .tup (xs ++ ys)) r3.s hp rfl
      exact q (.ref p) _ _ _ (r3.gr n) ⟨ds, es, rfl, p1, p2⟩ (.tup upd_same ((h1.app h2).up n.g))
/-- a call of a def that draws -/
def spDr (Lm : List V → Prop) (Pre : List PyData → Prop) (Post : List PyData → PyData → Prop) : Sp := fun vs H Q _ => ∃ L G us ds, vs = .ref L :: us ∧ At Lm L G H ∧ DaAll G us ds ∧ Pre ds ∧ ∀ v d G' H', GrB Lm L G H G' H' → Post ds d → Da G' v d → Q v H'
theorem spDr_len {Pre : List PyData → Prop} {Post : List PyData → PyData → Prop} {n : Nat} (hp : ∀ ds, Pre ds → ds.length = n) {vs : List V} {Q : VK} {E : XK} (h : spDr Lm Pre Post vs H Q E) : vs.length = n + 1 := by
  obtain ⟨L, G, us, ds, rfl, _, h2, h3, _⟩ := h
  rw [List.length_cons, h2.len, hp ds h3]
theorem dr_call {Pre : List PyData → Prop} {Post : List PyData → PyData → Prop} {i : Nat} {E : XK} (hL : σ[i]? = some (some (.ref L))) (h : DrS Lm L tA σ G R) (hp : ∀ ds, R ds → Pre ds) : Dr Lm L (tCallD (spDr Lm Pre Post) E (tCons (tVar i) tA)) σ G (fun d => ∃ ds, R ds ∧ Post ds d) := fun G1 H1 x w Q q =>
  ⟨_, hL, h G1 H1 x w _ fun vs ds G2 H2 r p hds => ⟨L, G2, vs, ds, rfl, r.w, hds, hp ds p, fun v d G3 H3 r3 po hd => q v d G3 H3 (r.trans r3) ⟨ds, p, po⟩ hd⟩⟩
/-- [e for x in range(n)], e drawn -/
theorem dr_lcR {j : Nat} {vs : List Nat} {ta : TA} {n : Int} (h : DrS Lm L ta σ G (fun ds => ds = [.int n])) (hn : 0 ≤ n ∧ n ≤ 10000) (hw : ∀ x, wipe ((wipe σ vs).set j (some x)) vs = wipe σ vs)
    (he : ∀ (i : Nat) G1, Ex G G1 → Dr Lm L te ((wipe σ vs).set j (some (.int (0 + (i : Int))))) G1 P) : Dr Lm L (tLc (iRng1 ta) (gName j) tYes te vs) σ G (fun d => ∃ ds, d = .list ds ∧ (ds.length : Int) = n ∧ ∀ d ∈ ds, P d) := fun G1 H1 x w Q q => h G1 H1 x w _ fun us ds G2 H2 r e hds => by
  subst e
  cases hds with
  | cons h0 t =>
    cases t
    cases h0.int_
    refine ⟨n, rfl, by omega, by omega, fun D hD => ?_⟩
    have gD : G2 D = none := by
      cases e : G2 D with
      | none => rfl
      | some o => rw [r.s _ _ e] at hD; cases hD
    have ne : D ≠ L := fun e => r.w.some_ (by rw [← e]; exact hD)
    refine lc_range (lo := 0) (n := n.toNat) (fun i H' => ∃ G' ys ds, GrB Lm L G2 H2 G' H' ∧ G' D = none ∧ H' D = some (.lst ys) ∧ DaAll G' ys ds ∧ ds.length = i ∧ ∀ d ∈ ds, P d) ⟨G2, [], [], GrB.keep r.w (Ex.new hD), gD, upd_same, .nil, rfl, fun d h => by cases h⟩ ?_ ?_
    · rintro i H' hi ⟨G', ys, ds, r3, e3, e4, h3, hl, hP⟩
      refine ⟨hw _, ?_⟩
      refine he i G' ((x.trans r.g).trans r3.g) G' H' (Ex.refl _) r3.w _ fun v d G4 H4 r4 p hd => ⟨ys, r4.h _ _ ne e4, ?_, ?_⟩
      · rw [h3.len, hl]
        exact Nat.lt_of_lt_of_le (by omega : i < 100000) (by decide)
      · have nD : G4 D = none := r4.n D (by rw [e4]; exact fun z => by cases z) e3
        have r5 := r3.trans r4
        refine ⟨G4, ys ++ [v], ds ++ [d], ⟨fun a o na ha => ?_, r5.g, r5.n, r5.t, Ex.mut r5.s nD, r5.w.f, ?_⟩, nD, upd_same, (h3.up r4.g).app (.cons hd .nil), by rw [List.length_append, hl]; rfl, fun z hz => ?_⟩
        · rw [upd_ne (fun e => by rw [e, hD] at ha; cases ha)]
          exact r5.h _ _ na ha
        · obtain ⟨xs, h, m⟩ := r5.w.l
          exact ⟨xs, by rw [upd_ne (Ne.symm ne)]; exact h, m⟩
        · rcases List.mem_append.mp hz with hz | hz
          · exact hP z hz
          · cases List.mem_singleton.mp hz
            exact p
    · rintro H' ⟨G', ys, ds, r3, e3, e4, h3, hl, hP⟩
      have xx : Ex G' (upd G' D (.lst ys)) := Ex.new e3
      refine q (.ref D) (.list ds) (upd G' D (.lst ys)) H' (r.trans ⟨r3.h, r3.g.trans xx, fun a e1 e2 => ?_, fun a o h => ?_, fun a o h => ?_, ?_, r3.w.l⟩) ⟨ds, rfl, by rw [hl]; omega, hP⟩ (.lst upd_same (h3.up xx))
      · rw [upd_ne (fun e => e1 (by rw [e]; exact hD))]
        exact r3.n a e1 e2
      · by_cases e : a = D
        · subst e
          rw [upd_same] at h
          cases h
          exact .inr rfl
        · rw [upd_ne e] at h
          exact r3.t a o h
      · by_cases e : a = D
        · subst e
          rw [upd_same] at h
          cases h
          exact e4
        · rw [upd_ne e] at h
          exact r3.s _ _ h
      · rw [upd_ne (Ne.symm ne)]
        exact r3.w.f
/-! ### statements -/
variable {D : Ends} {tz tu tw : TS}
theorem q_asgR {i : Nat} (w : At Lm L G H) (h : Dr Lm L te σ G P) (k : ∀ v d G1 H1, GrB Lm L G H G1 H1 → P d → Da G1 v d → tz D (σ.set i (some v)) H1) : tSeq (tAsg te (gName i)) tz D σ H := h.go w k
theorem s_retR (w : At Lm L G H) (h : Dr Lm L te σ G P) (k : ∀ v d G1 H1, GrB Lm L G H G1 H1 → P d → Da G1 v d → D.rt v H1) : tRet te D σ H := h.go w k
theorem q_ifR (w : At Lm L G H) (h : DrT Lm L t σ G B) (h1 : B true → ∀ G1 H1, GrB Lm L G H G1 H1 → tu { D with nx := tz D } σ H1) (h2 : B false → ∀ G1 H1, GrB Lm L G H G1 H1 → tw { D with nx := tz D } σ H1) : tSeq (tIfS t tu tw) tz D σ H := h G H (Ex.refl _) w _ fun b G1 H1 r hb => by
  cases b with
  | true =>
    show tu { D with nx := tz D } σ H1
    exact h1 hb G1 H1 r
  | false =>
    show tw { D with nx := tz D } σ H1
    exact h2 hb G1 H1 r
theorem q_parR {i j : Nat} (w : At Lm L G H) (h : DrS Lm L tA σ G R) (k : ∀ v1 v2 d1 d2 G1 H1, GrB Lm L G H G1 H1 → R [d1, d2] → Da G1 v1 d1 → Da G1 v2 d2 → tz D ((σ.set i (some v1)).set j (some v2)) H1) (hl : ∀ ds, R ds → ds.length = 2) : tSeq (tPar i j tA) tz D σ H := h G H (Ex.refl _) w _ fun vs ds G1 H1 r p hds => by
  match ds, hds, p, hl ds p with
  | [d1, d2], .cons h1 (.cons h2 .nil), p, _ => exact ⟨_, _, rfl, k _ _ d1 d2 G1 H1 r p h1 h2⟩
/-- a, b = e -/
theorem q_unpR {i j : Nat} (w : At Lm L G H) (h : Dr Lm L te σ G P) (hP : ∀ d, P d → ∃ d1 d2, d = .tuple [d1, d2]) (k : ∀ v1 v2 d1 d2 G1 H1, GrB Lm L G H G1 H1 → P (.tuple [d1, d2]) → Da G1 v1 d1 → Da G1 v2 d2 → tz D ((σ.set i (some v1)).set j (some v2)) H1) :
    tSeq (tAsg te (gTup K 2 (gCons (gName i) (gCons (gName j) gNil)))) tz D σ H := h.go w fun v d G1 H1 r p hd => by
  obtain ⟨d1, d2, rfl⟩ := hP d p
  obtain ⟨a, xs, rfl, e, hs⟩ := hd.tup_
  match xs, hs with
  | [v1, v2], .cons h1 (.cons h2 .nil) => exact ⟨a, [v1, v2], rfl, SqT.of (r.s _ _ e), rfl, v1, [v2], rfl, v2, [], rfl, rfl, k v1 v2 d1 d2 G1 H1 r p h1 h2⟩
end
end Lf
namespace L2
open PySem PySem.Spec PyProof.Rows
/-- a promise holds where more room is asked for -/
theorem ok_lvl {P : Program} {w : World} {K : PySem.W.Frag} {mg : Str → Option Value} {base : Heap} {CX : CXT} {k n : Nat} {x : Str} {ps : List Str} {sp : Sp} (D : DefOk P w K mg base CX k x ps sp) (h : k ≤ n) : DefOk P w K mg base CX n x ps sp := by
  obtain ⟨f, fd, hm, hk, hb, F⟩ := D
  exact ⟨f, fd, hm, hk, hb, ⟨F.len, fun A outer s H args us vs Q E hr => F.run A outer s H args us vs Q E (hr.mono h)⟩⟩
end L2
set_option maxHeartbeats 4000000
/-! for x in t: t a tuple or a list of data -/
namespace Lf
open PySem L2 Evl
section
variable {K : PySem.W.Frag} {σ : L2.St} {G H : Hp} {tl : TE} {g : TG} {tb tz : TS} {D : Ends} {ds : List PyData}
def LoopOk (g : TG) (tb tz : TS) (D : Ends) (σ : L2.St) (ds : List PyData) (G1 H1 : Hp) : Prop := ∃ Pv : Nat → L2.St → Hp → Prop, Pv 0 σ H1 ∧ (∀ i σ' H', Pv i σ' H' → Ex G1 H') ∧
  (∀ i d v σ' H', ds[i]? = some d → Da G1 v d → Pv i σ' H' → g v σ' H' fun σ2 H2 => tb { D with nx := Pv (i + 1), ct := Pv (i + 1), bk := tz D } σ2 H2) ∧ ∀ σ' H', Pv ds.length σ' H' → tz D σ' H'
theorem q_forT (s : Ex G H) (h : EvD tl σ G (.tuple ds)) (k : ∀ G1 H1, Gr G H G1 H1 → LoopOk g tb tz D σ ds G1 H1) : tSeq (tFor (iTup K tl) g tb) tz D σ H := h.go s fun v G1 H1 r hd => by
  obtain ⟨a, xs, rfl, ea, hs⟩ := hd.tup_
  obtain ⟨Pv, h0, hl, ht, hz⟩ := k G1 H1 r
  refine ⟨a, rfl, ⟨xs, SqT.of (r.s _ _ ea)⟩, for_tup (K := K) (a := a) (xs := xs) Pv h0 (fun i σ' H' _ p => SqT.of (hl i σ' H' p _ _ ea)) (fun i x σ' H' hx p => ?_) (fun σ' H' p => hz σ' H' (by rw [← hs.len]; exact p))⟩
  obtain ⟨d, hdi, hdv⟩ := hs.at hx
  exact ht i d x σ' H' hdi hdv p
theorem q_forL (s : Ex G H) (h : EvD tl σ G (.list ds)) (k : ∀ G1 H1, Gr G H G1 H1 → LoopOk g tb tz D σ ds G1 H1) : tSeq (tFor (iList K tl) g tb) tz D σ H := h.go s fun v G1 H1 r hd => by
  obtain ⟨a, xs, rfl, ea, hs⟩ := hd.lst_
  obtain ⟨Pv, h0, hl, ht, hz⟩ := k G1 H1 r
  refine ⟨a, rfl, ⟨xs, SqL.of (r.s _ _ ea)⟩, for_list (K := K) (a := a) (xs := xs) Pv h0 (fun i σ' H' _ p => SqL.of (hl i σ' H' p _ _ ea)) (fun i x σ' H' hx p => ?_) (fun σ' H' p => hz σ' H' (by rw [← hs.len]; exact p))⟩
  obtain ⟨d, hdi, hdv⟩ := hs.at hx
  exact ht i d x σ' H' hdi hdv p
end
end Lf
set_option maxHeartbeats 4000000
/-! Objects that are still written (lists, dicts, a wheel) beside a view of data that stays -/
namespace Lf
open PySem L2 Evl
inductive Lo
  | lst (ds : List PyData)
  | dic (ds : List (PyData × PyData))
  | whl (Lm : List V → Prop)
  | ins (C dx : Addr) (fs : List (Str × V))
def LoAt (G H : Hp) (p : Addr) : Lo → Prop
  | .lst ds => ∃ xs, H p = some (.lst xs) ∧ DaAll G xs ds
  | .dic ds => ∃ kvs, H p = some (.dK kvs) ∧ DaKvs G kvs ds
  | .whl Lm => ∃ xs, H p = some (.lst xs) ∧ Lm xs
  | .ins C dx fs => ∃ xs, H p = some (.ins C dx xs) ∧ xs = fs
def LoFit : Lo → HO → Hp → Prop
  | .lst ds, o, G => ∃ xs, o = .lst xs ∧ DaAll G xs ds
  | .dic ds, o, G => ∃ kvs, o = .dK kvs ∧ DaKvs G kvs ds
  | .whl Lm, o, _ => ∃ xs, o = .lst xs ∧ Lm xs
  | .ins C dx fs, o, _ => ∃ xs, o = .ins C dx xs ∧ xs = fs
theorem LoAt.some_ {G H : Hp} {p : Addr} {lo : Lo} (h : LoAt G H p lo) : H p ≠ none := by
  cases lo <;> (obtain ⟨_, e, _⟩ := h; rw [e]; exact fun z => by cases z)
theorem LoAt.up {G H G1 H1 : Hp} {p : Addr} {lo : Lo} (h : LoAt G H p lo) (x : Ex G G1) (e : ∀ o, H p = some o → H1 p = some o) : LoAt G1 H1 p lo := by
  cases lo with
  | lst ds => obtain ⟨xs, h1, h2⟩ := h; exact ⟨xs, e _ h1, h2.up x⟩
  | dic ds => obtain ⟨xs, h1, h2⟩ := h; exact ⟨xs, e _ h1, h2.up x⟩
  | whl Lm => obtain ⟨xs, h1, h2⟩ := h; exact ⟨xs, e _ h1, h2⟩
  | ins C dx fs => obtain ⟨xs, h1, h2⟩ := h; exact ⟨xs, e _ h1, h2⟩
theorem LoAt.new {G H : Hp} {p : Addr} {lo : Lo} {o : HO} (h : LoFit lo o G) : LoAt G (upd H p o) p lo := by
  cases lo <;> (obtain ⟨xs, rfl, h2⟩ := h; exact ⟨xs, upd_same, h2⟩)
/-- the state within a def: from (G0, H0) the view has grown to G, the heap to H; the objects Ls are still written; X may change -/
structure St (X : Addr → Prop) (G0 H0 G H : Hp) (Ls : List (Addr × Lo)) : Prop where
  h : ∀ a o, ¬ X a → H0 a = some o → H a = some o
  g : Ex G0 G
  s : Ex G H
  n : ∀ a, H0 a ≠ none → G0 a = none → G a = none
  t : ∀ a o, G a = some o → G0 a = some o ∨ dataO o = true
  x : ∀ a, X a → H a ≠ none
  l : ∀ q ∈ Ls, (X q.1 ∨ H0 q.1 = none) ∧ G q.1 = none ∧ LoAt G H q.1 q.2
  d : (Ls.map Prod.fst).Nodup
abbrev noX : Addr → Prop := fun _ => False
section
variable {X : Addr → Prop} {Lm : List V → Prop} {L p : Addr} {G0 H0 G H G1 H1 : Hp} {Ls B : List (Addr × Lo)} {lo lo2 : Lo} {o : HO} {a b c : Addr × Lo}
theorem St.pure (s : Ex G H) : St noX G H G H [] := ⟨fun _ _ _ h => h, Ex.refl _, s, fun _ _ h => h, fun _ _ h => .inl h, (fun _ h => h.elim), (fun q h => by cases h), List.nodup_nil⟩
theorem St.dr (w : At Lm L G H) : St (fun a => a = L) G H G H [(L, .whl Lm)] := ⟨fun _ _ _ h => h, Ex.refl _, w.s, fun _ _ h => h, fun _ _ h => .inl h, (fun a e => by rw [e]; exact w.some_), (fun q h => by
  cases List.mem_singleton.mp h
  exact ⟨.inl rfl, w.f, w.l⟩), by simp⟩
theorem St.stay (S : St X G0 H0 G H Ls) {a : Addr} (h : H0 a ≠ none) : H a ≠ none := by
  by_cases x : X a
  · exact S.x a x
  · cases e : H0 a with
    | none => exact absurd e h
    | some o => rw [S.h a o x e]; exact fun z => by cases z
/-- something is evaluated -/
theorem St.ev (S : St X G0 H0 G H Ls) (r : Gr G H G1 H1) : St X G0 H0 G1 H1 Ls := by
  refine ⟨fun a o nx h => r.h a o (S.h a o nx h), S.g.trans r.g, r.s, fun a h1 h2 => r.n a (S.stay h1) (S.n a h1 h2), fun a o h => ?_, fun a xa => ?_, fun q hq => ?_, S.d⟩
  · rcases r.t a o h with h | h
    · exact S.t a o h
    · exact .inr h
  · have := S.x a xa
    cases e : H a with
    | none => exact absurd e this
    | some o => rw [r.h a o e]; exact fun z => by cases z
  · obtain ⟨h1, h2, h3⟩ := S.l q hq
    exact ⟨h1, r.n _ h3.some_ h2, h3.up r.g fun o e => r.h _ o e⟩
theorem St.keep (S : St X G0 H0 G H Ls) (x : Ex H H1) : St X G0 H0 G H1 Ls := S.ev (Gr.keep S.s x)
theorem St.at_ (S : St X G0 H0 G H Ls) (m : (L, Lo.whl Lm) ∈ Ls) : At Lm L G H := ⟨S.s, (S.l _ m).2.1, (S.l _ m).2.2⟩
/-- something is drawn -/
theorem St.roll (S : St X G0 H0 G H Ls) (m : (L, Lo.whl Lm) ∈ Ls) (hX : X L) (r : GrB Lm L G H G1 H1) : St X G0 H0 G1 H1 Ls := by
  refine ⟨fun a o nx h => r.h a o (fun e => nx (by rw [e]; exact hX)) (S.h a o nx h), S.g.trans r.g, r.s, fun a h1 h2 => r.n a (S.stay h1) (S.n a h1 h2), fun a o h => ?_, fun a xa => ?_, fun q hq => ?_, S.d⟩
  · rcases r.t a o h with h | h
    · exact S.t a o h
    · exact .inr h
  · by_cases e : a = L
    · rw [e]; exact r.w.some_
    · have := S.x a xa
      cases e2 : H a with
      | none => exact absurd e2 this
      | some o => rw [r.h a o e e2]; exact fun z => by cases z
  · obtain ⟨h1, h2, h3⟩ := S.l q hq
    refine ⟨h1, r.n _ h3.some_ h2, ?_⟩
    by_cases e : q.1 = L
    · have : q = (L, Lo.whl Lm) := by
        have nd := S.d
        obtain ⟨i, hi⟩ := List.getElem?_of_mem hq
        obtain ⟨j, hj⟩ := List.getElem?_of_mem m
        have hi' : (Ls.map Prod.fst)[i]? = some L := by rw [List.getElem?_map, hi, ← e]; rfl
        have hj' : (Ls.map Prod.fst)[j]? = some L := by rw [List.getElem?_map, hj]; rfl
        have ij := (List.getElem?_inj (List.getElem?_eq_some_iff.mp hi').1 nd).mp (hi'.trans hj'.symm)
        rw [ij, hj] at hi
        exact (Option.some.inj hi).symm
      rw [this]
      exact r.w.l
    · exact h3.up r.g fun o h => r.h _ o e h
theorem St.sw (S : St X G0 H0 G H (a :: b :: B)) : St X G0 H0 G H (b :: a :: B) := ⟨S.h, S.g, S.s, S.n, S.t, S.x, fun q hq => S.l q (by simp only [List.mem_cons] at hq ⊢; rcases hq with h | h | h <;> simp [h]), by
  have := S.d
  simp only [List.map_cons, List.nodup_cons, List.mem_cons, not_or] at this ⊢
  exact ⟨⟨fun e => this.1.1 e.symm, this.2.1⟩, this.1.2, this.2.2⟩⟩
theorem St.sw2 (S : St X G0 H0 G H (a :: b :: c :: B)) : St X G0 H0 G H (c :: a :: b :: B) := ⟨S.h, S.g, S.s, S.n, S.t, S.x, fun q hq => S.l q (by simp only [List.mem_cons] at hq ⊢; rcases hq with h | h | h | h <;> simp [h]), by
  have := S.d
  simp only [List.map_cons, List.nodup_cons, List.mem_cons, not_or] at this ⊢
  exact ⟨⟨fun e => this.1.2.1 e.symm, fun e => this.2.1.1 e.symm, this.2.2.1⟩, ⟨this.1.1, this.1.2.2⟩, this.2.1.2, this.2.2.2⟩⟩
theorem St.drop (S : St X G0 H0 G H (a :: B)) : St X G0 H0 G H B := ⟨S.h, S.g, S.s, S.n, S.t, S.x, fun q hq => S.l q (List.mem_cons_of_mem _ hq), by
  have := S.d
  rw [List.map_cons, List.nodup_cons] at this
  exact this.2⟩
/-- a new object to be written -/
theorem St.new (S : St X G0 H0 G H Ls) (hp : H p = none) (h : LoFit lo o G) : St X G0 H0 G (upd H p o) ((p, lo) :: Ls) := by
  have h0 : H0 p = none := by
    cases e : H0 p with
    | none => rfl
    | some u => exact absurd hp (S.stay (by rw [e]; exact fun z => by cases z))
  have gp : G p = none := fresh_back S.s hp
  refine ⟨fun a u nx e => by rw [upd_ne (fun z => by rw [z, h0] at e; cases e)]; exact S.h a u nx e, S.g, S.s.trans (Ex.new hp), S.n, S.t, fun a xa => ?_, fun q hq => ?_, ?_⟩
  · by_cases e : a = p
    · rw [e, upd_same]; exact fun z => by cases z
    · rw [upd_ne e]; exact S.x a xa
  · rcases List.mem_cons.mp hq with rfl | hq
    · exact ⟨.inr h0, gp, LoAt.new h⟩
    · obtain ⟨h1, h2, h3⟩ := S.l q hq
      exact ⟨h1, h2, h3.up (Ex.refl _) fun u e => by rw [upd_ne (fun z => h3.some_ (by rw [z]; exact hp))]; exact e⟩
  · rw [List.map_cons, List.nodup_cons]
    refine ⟨fun m => ?_, S.d⟩
    obtain ⟨q, hq, e⟩ := List.mem_map.mp m
    exact (S.l q hq).2.2.some_ (by rw [e]; exact hp)
/-- the first object is written -/
theorem St.mut (S : St X G0 H0 G H ((p, lo) :: B)) (h : LoFit lo2 o G) : St X G0 H0 G (upd H p o) ((p, lo2) :: B) := by
  obtain ⟨h1, h2, h3⟩ := S.l (p, lo) (.head _)
  have nd := S.d
  rw [List.map_cons, List.nodup_cons] at nd
  refine ⟨fun a u nx e => ?_, S.g, Ex.mut S.s h2, S.n, S.t, fun a xa => ?_, fun q hq => ?_, ?_⟩
  · rw [upd_ne (fun z => by
      rcases h1 with h1 | h1
      · exact nx (by rw [z]; exact h1)
      · rw [z, h1] at e; cases e)]
    exact S.h a u nx e
  · by_cases e : a = p
    · rw [e, upd_same]; exact fun z => by cases z
    · rw [upd_ne e]; exact S.x a xa
  · rcases List.mem_cons.mp hq with rfl | hq
    · exact ⟨h1, h2, LoAt.new h⟩
    · obtain ⟨k1, k2, k3⟩ := S.l q (List.mem_cons_of_mem _ hq)
      exact ⟨k1, k2, k3.up (Ex.refl _) fun u e => by rw [upd_ne (fun z => nd.1 (List.mem_map.mpr ⟨q, hq, z⟩))]; exact e⟩
  · rw [List.map_cons, List.nodup_cons]
    exact nd
/-- the first object is ready: it comes into the view -/
theorem St.put (S : St X G0 H0 G H ((p, lo) :: B)) (nx : ¬ X p) (hp : H p = some o) (ho : dataO o = true) : Ex G (upd G p o) ∧ St X G0 H0 (upd G p o) H B := by
  obtain ⟨h1, h2, h3⟩ := S.l (p, lo) (.head _)
  have h0 : H0 p = none := h1.resolve_left nx
  have x : Ex G (upd G p o) := Ex.new h2
  have nd := S.d
  rw [List.map_cons, List.nodup_cons] at nd
  refine ⟨x, S.h, S.g.trans x, fun a u e => ?_, fun a e1 e2 => ?_, fun a u e => ?_, S.x, fun q hq => ?_, nd.2⟩
  · by_cases z : a = p
    · subst z
      rw [upd_same] at e
      rw [← e]
      exact hp
    · rw [upd_ne z] at e
      exact S.s a u e
  · rw [upd_ne (fun z => e1 (by rw [z]; exact h0))]
    exact S.n a e1 e2
  · by_cases z : a = p
    · subst z
      rw [upd_same] at e
      cases e
      exact .inr ho
    · rw [upd_ne z] at e
      exact S.t a u e
  · obtain ⟨k1, k2, k3⟩ := S.l q (List.mem_cons_of_mem _ hq)
    have ne : q.1 ≠ p := fun z => nd.1 (List.mem_map.mpr ⟨q, hq, z⟩)
    exact ⟨k1, by rw [upd_ne ne]; exact k2, k3.up x fun u e => e⟩
theorem St.putL {ds : List PyData} (S : St X G0 H0 G H ((p, .lst ds) :: B)) (nx : ¬ X p) : ∃ G', Ex G G' ∧ St X G0 H0 G' H B ∧ Da G' (.ref p) (.list ds) := by
  obtain ⟨xs, e, hd⟩ := (S.l (p, .lst ds) (.head _)).2.2
  obtain ⟨x, S2⟩ := S.put nx e rfl
  exact ⟨_, x, S2, .lst upd_same (hd.up x)⟩
theorem St.putD {ds : List (PyData × PyData)} (S : St X G0 H0 G H ((p, .dic ds) :: B)) (nx : ¬ X p) : ∃ G', Ex G G' ∧ St X G0 H0 G' H B ∧ Da G' (.ref p) (.dict ds) := by
  obtain ⟨xs, e, hd⟩ := (S.l (p, .dic ds) (.head _)).2.2
  obtain ⟨x, S2⟩ := S.put nx e rfl
  exact ⟨_, x, S2, .dct upd_same (hd.up x)⟩
theorem St.gr (S : St noX G0 H0 G H Ls) : Gr G0 H0 G H := ⟨fun a o e => S.h a o (fun z => z) e, S.g, S.s, S.n, S.t⟩
theorem St.grB (S : St (fun a => a = L) G0 H0 G H Ls) (m : (L, Lo.whl Lm) ∈ Ls) : GrB Lm L G0 H0 G H := ⟨fun a o ne e => S.h a o ne e, S.g, S.n, S.t, S.at_ m⟩
theorem St.notX (S : St X G0 H0 G H Ls) (hp : H p = none) : ¬ X p := fun z => S.x p z hp
/-! ### statements -/
variable {K : PySem.W.Frag} {σ : L2.St} {te : TE} {tz : TS} {D : Ends} {i : Nat} {d : PyData} {ds : List PyData} {P : PyData → Prop}
theorem q_asgS (S : St X G0 H0 G H Ls) (h : EvD te σ G d) (k : ∀ v G1 H1, St X G0 H0 G1 H1 Ls → Ex G G1 → Da G1 v d → tz D (σ.set i (some v)) H1) : tSeq (tAsg te (gName i)) tz D σ H := h.go S.s fun v G1 H1 r hd => k v G1 H1 (S.ev r) r.g hd
theorem q_rollS (S : St X G0 H0 G H Ls) (m : (L, Lo.whl Lm) ∈ Ls) (hX : X L) (h : Dr Lm L te σ G P) (k : ∀ v d G1 H1, St X G0 H0 G1 H1 Ls → Ex G G1 → P d → Da G1 v d → tz D (σ.set i (some v)) H1) : tSeq (tAsg te (gName i)) tz D σ H := h.go (S.at_ m) fun v d G1 H1 r p hd => k v d G1 H1 (S.roll m hX r) r.g p hd
theorem q_newL (S : St X G0 H0 G H Ls) (k : ∀ p H1, ¬ X p → St X G0 H0 G H1 ((p, .lst []) :: Ls) → tz D (σ.set i (some (.ref p))) H1) : tSeq (tAsg (tLst tNil) (gName i)) tz D σ H :=
  ⟨Nat.zero_le _, fun p hp => k p _ (S.notX hp) (S.new hp ⟨[], rfl, .nil⟩)⟩
theorem q_newD (S : St X G0 H0 G H Ls) (k : ∀ p H1, ¬ X p → St X G0 H0 G H1 ((p, .dic []) :: Ls) → tz D (σ.set i (some (.ref p))) H1) : tSeq (tAsg tDNewK (gName i)) tz D σ H :=
  fun p hp => k p _ (S.notX hp) (S.new hp ⟨[], rfl, .nil⟩)
/-- l.append(e) -/
theorem s_app (S : St X G0 H0 G H ((p, .lst ds) :: B)) (hσ : σ[i]? = some (some (.ref p))) (hl : ds.length ≤ 50000) (h : EvD te σ G d) (k : ∀ G1 H1, St X G0 H0 G1 H1 ((p, .lst (ds ++ [d])) :: B) → Ex G G1 → D.nx σ H1) : tDrop (tBM K "list" rAppend (tVar i) (tCons te tNil)) D σ H := by
  obtain ⟨xs, e, hd⟩ := (S.l (p, .lst ds) (.head _)).2.2
  refine ⟨_, hσ, .inl ⟨rfl, _, SqL.of e⟩, h.go S.s fun v G1 H1 r hv => ?_⟩
  exact ⟨p, xs, v, rfl, rfl, r.h _ _ e, by rw [hd.len]; exact Nat.lt_of_le_of_lt hl (by decide), k G1 _ ((S.ev r).mut ⟨_, rfl, (hd.up r.g).app (.cons hv .nil)⟩) r.g⟩
theorem q_app (S : St X G0 H0 G H ((p, .lst ds) :: B)) (hσ : σ[i]? = some (some (.ref p))) (hl : ds.length ≤ 50000) (h : EvD te σ G d) (k : ∀ G1 H1, St X G0 H0 G1 H1 ((p, .lst (ds ++ [d])) :: B) → Ex G G1 → tz D σ H1) : tSeq (tDrop (tBM K "list" rAppend (tVar i) (tCons te tNil))) tz D σ H :=
  s_app (D := { D with nx := tz D }) S hσ hl h k
/-- l.append(e), e drawn -/
theorem s_appR (S : St X G0 H0 G H ((p, .lst ds) :: B)) (m : (L, Lo.whl Lm) ∈ B) (hX : X L) (hσ : σ[i]? = some (some (.ref p))) (hl : ds.length ≤ 50000) (h : Dr Lm L te σ G P) (k : ∀ d G1 H1, P d → St X G0 H0 G1 H1 ((p, .lst (ds ++ [d])) :: B) → Ex G G1 → D.nx σ H1) : tDrop (tBM K "list" rAppend (tVar i) (tCons te tNil)) D σ H := by
  obtain ⟨xs, e, hd⟩ := (S.l (p, .lst ds) (.head _)).2.2
  refine ⟨_, hσ, .inl ⟨rfl, _, SqL.of e⟩, h.go (S.at_ (.tail _ m)) fun v d G1 H1 r hP hv => ?_⟩
  have S2 := S.roll (.tail _ m) hX r
  obtain ⟨xs2, e2, hd2⟩ := (S2.l (p, .lst ds) (.head _)).2.2
  exact ⟨p, xs2, v, rfl, rfl, e2, by rw [hd2.len]; exact Nat.lt_of_le_of_lt hl (by decide), k d G1 _ hP (S2.mut ⟨_, rfl, hd2.app (.cons hv .nil)⟩) r.g⟩
theorem q_ifS {t : TT} {tu tw : TS} {b : Bool} (S : St X G0 H0 G H Ls) (h : EvT t σ G b) (h1 : b = true → ∀ H1, St X G0 H0 G H1 Ls → tu { D with nx := tz D } σ H1) (h2 : b = false → ∀ H1, St X G0 H0 G H1 Ls → tw { D with nx := tz D } σ H1) : tSeq (tIfS t tu tw) tz D σ H :=
  q_ifD S.s h (fun e H1 x => h1 e H1 (S.keep x)) (fun e H1 x => h2 e H1 (S.keep x))
theorem s_ifS {t : TT} {tu tw : TS} {b : Bool} (S : St X G0 H0 G H Ls) (h : EvT t σ G b) (h1 : b = true → ∀ H1, St X G0 H0 G H1 Ls → tu D σ H1) (h2 : b = false → ∀ H1, St X G0 H0 G H1 Ls → tw D σ H1) : tIfS t tu tw D σ H := h H S.s _ fun H1 x => by
  cases b with
  | true => exact h1 rfl H1 (S.keep x)
  | false => exact h2 rfl H1 (S.keep x)
end
end Lf
set_option maxHeartbeats 4000000
/-! bool(x), x an instance whose class has a __bool__ of its own -/
namespace LfB
open PySem PySem.Spec PyProof.Rows
section
variable {prog : Program} {w : World} {A : Around} {E : Value → Shared → Prop} {s : Shared} {K : PySem.W.Frag} {x C D f : Addr} {ox od : Obj} {odd : Option Obj}
theorem truthy_own {Q : Bool → Shared → Prop} (X : K.In s.heap) (I : PySem.W.InstAt s.heap x ox C odd) (hs : PySem.W.findIn K (.ref C) "__bool__" = some (some (.ref f))) (hf : PySem.W.isFn K (.ref f) = true)
    (h : wpAny (model prog w) A (call (.ref f) [.ref x]) (fun r s₁ => ∃ b, r = Value.bool b ∧ Q b s₁) E s) : wpAny (model prog w) A (truthy (.ref x)) Q E s := by
  unfold truthy
  have key : wpAny (model prog w) A (callSpecial? (.ref x) (Str.ofString "__bool__")) (fun r s₁ => ∃ b, r = some (Value.bool b) ∧ Q b s₁) E s :=
    PySem.W.special_fn X I hs (beq_iff_eq.mp hf) (wpAny_mono h (fun r s' ⟨b, e, q⟩ => ⟨b, by rw [e], q⟩) fun _ _ y => y)
  first
    | refine wpAny_bind (wpAny_mono key (fun r s' hr => ?_) fun _ _ y => y)
    | refine wpAny_bind (wpAny_pure (wpAny_bind (wpAny_mono key (fun r s' hr => ?_) fun _ _ y => y)))
  obtain ⟨b, rfl, q⟩ := hr
  first
    | exact wpAny_pure q
    | exact wpAny_bind (wpAny_pure q)
theorem type_bool : isType (.type "bool") = pure true := rfl
theorem bool_own {Q : Value → Shared → Prop} (X : K.In s.heap) (I : PySem.W.InstAt s.heap x ox C odd) (hs : PySem.W.findIn K (.ref C) "__bool__" = some (some (.ref f))) (hf : PySem.W.isFn K (.ref f) = true)
    (h : wpAny (model prog w) A.in1.in1 (call (.ref f) [.ref x]) (fun r s₁ => ∃ b, r = Value.bool b ∧ Q r s₁) E s) : wpAny (model prog w) A (call (.type "bool") [.ref x]) Q E s := by
  refine callType_codes (T := "bool") (Bi := Builtin.«object.__init__») (Q₁ := fun r s₁ => ∃ b, r = Value.bool b ∧ Q r s₁) PySem.F.called_bool (PySem.F.typeCall_bool_1 _) PySem.F.entry_object_init ?_ ?_
  · refine codeAny_of_tree ?_
    show wpAny _ A.in1.in1 (do checkBuiltinCall "bool.__new__" ⟨[.type "bool", .ref x], []⟩; again (.builtin "bool.__new__" ⟨[.type "bool", .ref x], []⟩)) _ _ s
    refine wpAny_bind (wpAny_of_eq (PySem.F.newCall_bool_1 _) (wpAny_pure ⟨plainId_quiet (by decide +kernel) _, codeAny_builtin PySem.F.entry_bool_new ?_⟩))
    rw [Around.under_plainId (by decide +kernel) _]
    unfold Builtin.«bool.__new__»
    refine wpAny_bind (wpAny_of_eq (a := true) type_bool ?_)
    refine PySem.W.KFB.if_not rfl ?_
    refine wpAny_bind (wpAny_of_eq (a := true) PySem.F.conv_sub_bool ?_)
    refine PySem.W.KFB.if_not rfl ?_
    refine wpAny_bind (wpAny_of_eq (a := [.ref x]) rfl ?_)
    refine wpAny_bind (truthy_own X I hs hf (wpAny_mono h (fun r s₁ hr => ?_) fun _ _ y => y))
    obtain ⟨b, rfl, hq⟩ := hr
    refine ⟨b, rfl, ?_⟩
    exact wpAny_pure ⟨b, rfl, hq⟩
  · rintro obj s₁ ⟨b, rfl, hq⟩
    exact ⟨PySem.typeIs_bool _ _, PySem.F.args_object_init_2 _ _, object_init_meets PySem.F.called_bool.init.lookup PySem.F.called_bool.made (by decide) prog w A.in1 _ s₁ ⟨PySem.typeIs_bool _ _, rfl, hq⟩⟩
end
end LfB
namespace L2
open PySem PySem.Spec PyProof.Rows
section
variable {X : Cx} {CX : CXT} {pins : List (Addr × Obj)} {σ : St} {H : Hp} {s : Shared} {C : Addr} {ps : List Str} {m : Str} {n : Nat} {sp : Sp} {E : XK}
theorem run_fnAt {A : Around} {Q : VK} {g : Addr} {fd : FuncData} {us : List Value} {ws : List V} (F : FnOk X.prog X.w X.K X.mg X.base CX n g fd ps sp) (hb : Binds X.K fd ps []) (hr : Room n A) (e0 : Env0 X.prog X.w X.K X.mg X.base A X.stack s H) (hx : Passes CX X E) (I : Inv X pins σ H s) (r : Vals ws us) (h : sp ws H Q E) :
    codeAny (model X.prog X.w) A (.call (.ref g) ⟨us, []⟩) (fun r s' => match r with | .ok (.ret v) => EP X pins σ Q v s' | .ok _ => False | .error e => X.xe e s') s := by
  have hl : us.length = ps.length := by rw [← r.length]; exact F.len _ _ _ _ h
  have b := hb s us I.kIn (by rw [List.append_nil]; exact hl)
  rw [List.append_nil] at b
  refine codeAny_mono (F.run A X.stack s H ⟨us, []⟩ us ws Q E hr e0 b r h) fun r s' hq => ?_
  cases r with
  | error e => exact hx pins σ H s e s' I hq
  | ok fl =>
    cases fl with
    | ret u => exact I.after hq
    | next => exact False.elim hq
    | brk => exact False.elim hq
    | cont => exact False.elim hq
/-- bool(x) of an instance with an own __bool__ -/
def rBoolOwn (C : Addr) (sp : Sp) (E : XK) : List V → Hp → VK → Prop := fun xs H Q => ∃ a dx fs, xs = [V.ref a] ∧ H a = some (.ins C dx fs) ∧ sp [.ref a] H (fun z H' => ∃ b, z = .bl b ∧ Q z H') E
theorem call_boolOwn (D : MethOk X.prog X.w X.K X.mg X.base CX n C "__bool__" ps sp) (hr : Room (n + 2) X.A) (hx : Passes CX X E) : CallR X (.type "bool") (rBoolOwn C sp E) := by
  obtain ⟨f, fd, hm, hb, F⟩ := D
  intro pins s σ H xs us Q I r h
  obtain ⟨a, dx, fs, rfl, hsl, q⟩ := h
  obtain ⟨u, rfl, ru⟩ := r.one
  cases (show u = Value.ref a from ru)
  obtain ⟨mA, O, _⟩ := ins_get I.hok hsl
  obtain ⟨od, J, _⟩ := O.look
  have hr2 : Room n X.A.in1.in1 := (show Room (n + 1) X.A.in1 from Room.in1 hr).in1
  refine LfB.bool_own I.kIn J hm.at_ hm.fn (wpAny_mono (wpAny_call (run_fnAt (us := [.ref a]) (ws := [.ref a]) F hb hr2 I.env0.in1.in1 hx I (.cons rfl .nil) q)) (fun w s' z => ?_) fun _ _ x => x)
  obtain ⟨z', H', I', rz, b, eb, qz⟩ := z
  subst eb
  cases (show w = Value.bool b from rz)
  exact ⟨b, rfl, .bl b, H', I', rfl, qz⟩
end
end L2
set_option maxHeartbeats 4000000
/-! An instance's own __bool__ as a test, its own __contains__ -/
namespace L2
open PySem PySem.Spec PyProof.Rows
section
variable {X : Cx} {CX : CXT} {C : Addr} {ps : List Str} {n : Nat} {sp : Sp} {E : XK}
def rTruOwn (C : Addr) (sp : Sp) (E : XK) : V → Hp → (Bool → Hp → Prop) → Prop := fun x H Q => ∃ a dx fs, x = V.ref a ∧ H a = some (.ins C dx fs) ∧ sp [.ref a] H (fun z H' => ∃ b, z = .bl b ∧ Q b H') E
theorem tru_own (D : MethOk X.prog X.w X.K X.mg X.base CX n C "__bool__" ps sp) (hr : Room n X.A) (hx : Passes CX X E) : TruR X (rTruOwn C sp E) := by
  obtain ⟨f, fd, hm, hb, F⟩ := D
  intro pins s σ H x v Q I r h
  obtain ⟨a, dx, fs, rfl, hsl, q⟩ := h
  cases (show v = Value.ref a from r)
  obtain ⟨mA, O, _⟩ := ins_get I.hok hsl
  obtain ⟨od, J, _⟩ := O.look
  refine LfB.truthy_own I.kIn J hm.at_ hm.fn (wpAny_mono (wpAny_call (run_fnAt (us := [.ref a]) (ws := [.ref a]) F hb hr I.env0 hx I (.cons rfl .nil) q)) (fun w s' z => ?_) fun _ _ x => x)
  obtain ⟨z', H', I', rz, b, eb, qz⟩ := z
  subst eb
  cases (show w = Value.bool b from rz)
  exact ⟨b, rfl, H', I', qz⟩
def tNotR (r : V → Hp → (Bool → Hp → Prop) → Prop) (ta : TE) : TE := fun σ H Q => ta σ H fun x H1 => r x H1 fun k H2 => Q (.bl (!k)) H2
theorem pe_notR {a : Expr} {ta : TE} {pos : Pos} {r : V → Hp → (Bool → Hp → Prop) → Prop} (ha : PE X a ta) (hr : TruR X r) : PE X (.UnaryOp .Not a pos) (tNotR r ta) := by
  refine ⟨fun pins s σ H Q I h => ?_⟩
  refine UnaryOp_ (thn (ha.run pins s σ H _ I h) fun v s1 ⟨x, H1, I1, r1, q1⟩ => ?_)
  exact not_of (thn (hr pins s1 σ H1 x v (fun c H2 => Q (.bl (!c)) H2) I1 r1 q1) fun c s2 ⟨H2, I2, q2⟩ => ⟨.bl (!c), H2, I2, rfl, q2⟩)
/-- x in o, o an instance with a __contains__ of its own -/
def rInOwn (C : Addr) (sp : Sp) (E : XK) : R2 := fun x y H Q => ∃ a dx fs, y = V.ref a ∧ H a = some (.ins C dx fs) ∧ sp [.ref a, x] H (fun z H' => ∃ b, z = .bl b ∧ Q (.bl b) H') E
def rNiOwn (C : Addr) (sp : Sp) (E : XK) : R2 := fun x y H Q => ∃ a dx fs, y = V.ref a ∧ H a = some (.ins C dx fs) ∧ sp [.ref a, x] H (fun z H' => ∃ b, z = .bl b ∧ Q (.bl (!b)) H') E
theorem op_inOwn (D : MethOk X.prog X.w X.K X.mg X.base CX n C "__contains__" ps sp) (hr : Room n X.A) (hx : Passes CX X E) : OpR X (compareOp .In) (rInOwn C sp E) := by
  obtain ⟨f, fd, hm, hb, F⟩ := D
  intro pins s σ H x y v u Q I rx ry h
  obtain ⟨a, dx, fs, rfl, hsl, q⟩ := h
  cases (show u = Value.ref a from ry)
  obtain ⟨mA, O, _⟩ := ins_get I.hok hsl
  obtain ⟨od, J, _⟩ := O.look
  obtain ⟨mf, fr⟩ := I.fr
  refine PySem.W.in_K fr I.ok.mod.kin J hm.at_ hm.fn (wpAny_mono (wpAny_call (run_fnAt (us := [.ref a, v]) (ws := [.ref a, x]) F hb hr I.env0 hx I (.cons rfl (.cons rx .nil)) q)) (fun w s' z => ?_) fun _ _ x => x)
  obtain ⟨z', H', I', rz, b, eb, qz⟩ := z
  subst eb
  cases (show w = Value.bool b from rz)
  exact wpAny_pure ⟨.bl b, H', I', rfl, qz⟩
theorem op_notInOwn (D : MethOk X.prog X.w X.K X.mg X.base CX n C "__contains__" ps sp) (hr : Room n X.A) (hx : Passes CX X E) : OpR X (compareOp .NotIn) (rNiOwn C sp E) := by
  obtain ⟨f, fd, hm, hb, F⟩ := D
  intro pins s σ H x y v u Q I rx ry h
  obtain ⟨a, dx, fs, rfl, hsl, q⟩ := h
  cases (show u = Value.ref a from ry)
  obtain ⟨mA, O, _⟩ := ins_get I.hok hsl
  obtain ⟨od, J, _⟩ := O.look
  obtain ⟨mf, fr⟩ := I.fr
  refine PySem.W.notIn_K fr I.ok.mod.kin J hm.at_ hm.fn (wpAny_mono (wpAny_call (run_fnAt (us := [.ref a, v]) (ws := [.ref a, x]) F hb hr I.env0 hx I (.cons rfl (.cons rx .nil)) q)) (fun w s' z => ?_) fun _ _ x => x)
  obtain ⟨z', H', I', rz, b, eb, qz⟩ := z
  subst eb
  cases (show w = Value.bool b from rz)
  exact wpAny_pure ⟨.bl (!b), H', I', rfl, qz⟩
end
end L2
set_option maxHeartbeats 4000000
/-! x == y, two instances of a class with an own __eq__, any answer -/
namespace L2
open PySem PySem.Spec PyProof.Rows
section
variable {X : Cx} {CX : CXT} {C : Addr} {ps : List Str} {n : Nat} {sp : Sp} {E : XK}
def rEqOwn (C : Addr) (sp : Sp) (E : XK) : R2 := fun x y H Q => ∃ a b dx dy fs gs, x = V.ref a ∧ y = V.ref b ∧ H a = some (.ins C dx fs) ∧ H b = some (.ins C dy gs) ∧ sp [.ref a, .ref b] H (fun z H' => ∃ k, z = .bl k ∧ Q (.bl k) H') E
theorem op_eqOwn (D : MethOk X.prog X.w X.K X.mg X.base CX n C "__eq__" ps sp) (hr : Room n X.A) (hx : Passes CX X E) : OpR X (compareOp .Eq) (rEqOwn C sp E) := by
  obtain ⟨f, fd, hm, hb, F⟩ := D
  intro pins s σ H x y v u Q I rx ry h
  obtain ⟨a, b, dx, dy, fs, gs, rfl, rfl, ha, hb', q⟩ := h
  cases (show v = Value.ref a from rx)
  cases (show u = Value.ref b from ry)
  obtain ⟨mA, J, _⟩ := ins_get I.hok ha
  obtain ⟨mB, J', _⟩ := ins_get I.hok hb'
  obtain ⟨od, J, _⟩ := J.look
  obtain ⟨od', J', _⟩ := J'.look
  obtain ⟨m, hF⟩ := I.fr
  show wpAny (model X.prog X.w) X.A (richCompare .Eq (.ref a) (.ref b)) (EP X pins σ Q) X.xe s
  refine PySem.W.cmp_K (op := .Eq) (tb := .ref C) hr.units0 hF I.ok.mod.kin J J'.type (by simp [PySem.W.notFirst]) hm.at_ hm.fn (wpAny_mono (wpAny_call (run_fnAt (us := [.ref a, .ref b]) (ws := [.ref a, .ref b]) F hb hr I.env0 hx I (.cons rfl (.cons rfl .nil)) q)) (fun w s' z => ?_) fun _ _ x => x)
  obtain ⟨z', H', I', rz, k, ek, qz⟩ := z
  subst ek
  cases (show w = Value.bool k from rz)
  exact ⟨.bl k, H', I', rfl, qz⟩
end
end L2
set_option maxHeartbeats 4000000
/-! Texts of tuples: what a def promises where no repr is under way (A.guards = some []). fn_ofG and law_callG are the library's fn_of and law_call with that one more premise. -/
namespace L2
open PySem PySem.Spec PyProof.Rows
structure FnOkG (P : Program) (w : World) (K : PySem.W.Frag) (mg : Str → Option Value) (base : Heap) (CX : CXT) (k : Nat) (f : Addr) (fd : FuncData) (ps : List Str) (sp : Sp) : Prop where
  len : ∀ vs H Q E, sp vs H Q E → vs.length = ps.length
  run : ∀ (A : Around) (outer : List Env) (s : Shared) (H : Hp) (args : Args) (us : List Value) (vs : List V) (Q : VK) (E : XK), A.guards = some [] → Room k A → Env0 P w K mg base A outer s H → BindsTo s fd args (ps.zip us) → Vals vs us → sp vs H Q E →
    codeAny (model P w) A (.call (.ref f) args) (CR CX outer P w H s Q E) s
theorem deeper_guards {A : Around} {env : Env} (h : A.guards = some []) : (A.deeper env).guards = some [] := h
theorem fn_ofG {CX : CXT} {P : Program} {w : World} {K : PySem.W.Frag} {mg : Str → Option Value} {base : Heap} {k : Nat} {f : Addr} {name qual : Str} {params : Arguments} {body : List Stmt} {scope : Scope} {dV kV doc pm cdv ct oc : Value} {an od : Option Addr}
    {osl : Array (Option Value)} {N ps : List Str} {sp : Sp} (lk : K.lookup f = some ⟨oc, od, .func (PySem.W.fnOf name qual params body scope dV kV doc pm an cdv ct), osl⟩) (hcd : PySem.W.codeIn K cdv qual = true) (S : FnScope N ps scope)
    (len : ∀ vs H Q E, sp vs H Q E → vs.length = ps.length)
    (hbody : ∀ (A : Around) (outer : List Env) (s : Shared) (H : Hp) (vs : List V) (Q : VK) (E : XK), (A.deeper (envOfC qual scope s.heap.objs.size f cdv)).guards = some [] → Room k (A.deeper (envOfC qual scope s.heap.objs.size f cdv)) → sp vs H Q E →
      ∃ t, PSs (cxOf CX P w K mg base N qual scope f cdv A outer s H E) body t ∧ t { nx := fun _ H' => Q .non H', rt := Q } (start N vs) H) :
    FnOkG P w K mg base CX (k + 1) f (PySem.W.fnOf name qual params body scope dV kV doc pm an cdv ct) ps sp := by
  refine ⟨len, fun A outer s H args us vs Q E hg hr e0 hb r hsp => ?_⟩
  have hl := len _ _ _ _ hsp
  have KX : K.In s.heap := e0.mod.kin.keeps fun b o e => (e0.bs b o e).1
  have lim : s.heap.NoLimit := e0.mod.nolimit.keeps fun b o e => (e0.bs b o e).1
  have hkind : ∀ y ∈ ps.zip us, scope.names.lookup y.1 = some .local ∨ (scope.names.lookup y.1 = some .cell ∧ ((cellsFrom (s.heap.objs.size + 1) scope.names []).lookup y.1).isSome = true) := fun ⟨n, v⟩ hy => by
    rcases S.par n (List.of_mem_zip hy).1 with q | q
    · exact .inl q
    · exact .inr ⟨q, PySem.W.cellsFrom_some _ _ _ (.inl q)⟩
  refine codeAny_call_function hr.depth (KX _ _ lk) rfl S.co S.gen rfl (PySem.W.codeRec_of KX hcd) (hb _ _ _ _ ?_)
  refine wpAny_newFunctionEnv_cells S.kind hkind fun env he s1 x => ?_
  subst he
  refine ⟨lim.keeps x.toInCall.keep, codeAny_func ?_⟩
  obtain ⟨t, ht, hq⟩ := hbody A outer s H vs Q E hg (hr.deeper _) hsp
  have I : Inv (cxOf CX P w K mg base N qual scope f cdv A outer s H E) [] (start N vs) H s1 := inv_start S hr.hd e0 hl r x
  refine wpAny_mono (ht.run [] s1 (start N vs) H _ I hq) (fun fl s' hs => ?_) fun e s' hs => hs
  have fin : ∀ {σ' : St} {H' : Hp} {v : V} {u : Value}, Inv (cxOf CX P w K mg base N qual scope f cdv A outer s H E) [] σ' H' s' → RelV v u → Q v H' → CE outer P w H s Q u s' :=
    fun {σ' H' v u} J rv q => ⟨v, H', J.os, J.bare, J.base, J.hok, rv, q⟩
  cases fl with
  | ret u =>
    obtain ⟨v, σ', H', J, rv, q⟩ := hs
    exact fin J rv q
  | next =>
    obtain ⟨σ', H', J, q⟩ := hs
    exact fin (v := V.non) (u := Value.none) J rfl q
  | brk =>
    obtain ⟨_, _, _, q⟩ := hs
    exact False.elim q
  | cont =>
    obtain ⟨_, _, _, q⟩ := hs
    exact False.elim q
theorem law_callG {P : Program} {w : World} {K : PySem.W.Frag} {mg mb : Str → Option Value} {CX : CXT} {k : Nat} {fa a : Addr} {fd : FuncData} {x : Str} {sp : Sp} {s₁ : Shared} {vs : List Value} {ns : List Int}
    (KX : K.In s₁.heap) (hns : s₁.heap.Ns mainGlobals mg) (hb : s₁.heap.Ns builtinsNs mb) (hbb : ∀ x : Str, x ≠ "__name__" → mb x = bootBuiltins x) (hlim : s₁.heap.NoLimit) (hg : s₁.gens = #[])
    (ha : s₁.heap.get? a = some { cls := .type "list", data := .seq vs.toArray }) (hi : IntsAre vs ns) (hl : ns.length ≤ sizeLine) (hr : Room k callerA)
    (F : ∀ base : Heap, K.In base → base.Ns mainGlobals mg → FnOkG P w K mg base CX k fa fd [x] sp) (hbind : ∀ (s : Shared) (u : Value), BindsTo s fd ⟨[u], []⟩ [(x, u)])
    (hsp : ∀ H : Hp, Only H → SqL K H a (ns.map V.int) → sp [.ref a] H (fun v _ => v = .bl true) fun _ _ _ => False)
    (hCX : ∀ H e s', CX [] H s₁ (fun _ _ _ => False) e s' → False) :
    codeAny (model P w) callerA (.call (.ref fa) ⟨[.ref a], []⟩) (fun r s' => r = .ok (.ret (.bool true)) ∧ OldK s₁.heap s'.heap ∧ s'.os = s₁.os ∧ AllBare s'.gens) s₁ := by
  have rv := vals_ints hi
  have lenV := hi.length
  -- from an abstract heap in which nothing but the script may be tracked
  have core : ∀ H : Hp, Only H → SqL K H a (ns.map V.int) → HOk P w H s₁.heap → (∀ b, H b ≠ none → b = a) → (H a ≠ none → K.lookup a = none) →
      codeAny (model P w) callerA (.call (.ref fa) ⟨[.ref a], []⟩) (fun r s' => r = .ok (.ret (.bool true)) ∧ OldK s₁.heap s'.heap ∧ s'.os = s₁.os ∧ AllBare s'.gens) s₁ := by
    intro H hO hS hok hA hK
    have base_of : ∀ {b : Addr} {o : Obj}, s₁.heap.get? b = some o → H b = none → (hidT s₁.heap H).get? b = some o := fun e n => hidT_get e n
    have noA : ∀ {b : Addr} {o : Obj} {es : Array DictEntry} {ep : Nat}, s₁.heap.get? b = some o → o.data = .dict es ep → H b = none := fun {b o es ep} e d => by
      cases q : H b with
      | none => rfl
      | some u =>
        have e' : b = a := hA b (by rw [q]; simp)
        subst e'
        rw [ha] at e; cases e
        have d' : Data.seq vs.toArray _ = Data.dict es ep := d
        cases d'
    have nsK : ∀ {b : Addr} {m : Str → Option Value}, s₁.heap.Ns b m → (hidT s₁.heap H).Ns b m := fun {b m} ⟨o, es, ep, e, d, r⟩ => ⟨o, es, ep, base_of e (noA e d), d, r⟩
    have hKb : K.In (hidT s₁.heap H) := fun b o e => base_of (KX b o e) (by
      cases q : H b with
      | none => rfl
      | some u =>
        have e' : b = a := hA b (by rw [q]; simp)
        subst e'
        rw [hK (by rw [q]; simp)] at e; cases e)
    have hM : Mod K mg (hidT s₁.heap H) := ⟨hKb, nsK hns, ⟨mb, nsK hb, hbb⟩, let ⟨mc, h1, h2⟩ := hlim; ⟨mc, nsK h1, h2⟩⟩
    have e0 : Env0 P w K mg (hidT s₁.heap H) callerA [] s₁ H := ⟨rfl, hM, fun b o e => of_hidT e, Nat.le_of_eq (hidT_size _ _), trivial, fun b hb => absurd (show b ∈ ([] : List Addr) from hb) (by simp), hok, .of_eq hg⟩
    refine codeAny_mono ((F _ hKb (nsK hns)).run callerA [] s₁ H ⟨[.ref a], []⟩ [.ref a] [.ref a] _ _ rfl hr e0 (hbind s₁ (.ref a)) (.cons rfl .nil) (hsp H hO hS)) fun r s' h => ?_
    cases r with
    | error e => exact (hCX H e s' h).elim
    | ok fl =>
      cases fl with
      | next => exact False.elim h
      | brk => exact False.elim h
      | cont => exact False.elim h
      | ret u =>
        obtain ⟨v, H', os, bare, un, hok', r', q⟩ := h
        have q' : v = .bl true := q
        subst q'
        obtain rfl : u = Value.bool true := r'
        refine ⟨rfl, OldK.of_keep fun b o e => ?_, os, bare⟩
        cases q : H b with
        | none => exact un.keep b o e q (by intro z; exact absurd (show b ∈ ([] : List Addr) from z) (by simp)) (by simp)
        | some u =>
          rcases hO b with z | ⟨ob, xs, z⟩
          · rw [q] at z; cases z
          · have z2 := un.frzs b ob _ z
            obtain ⟨e1, _⟩ := hok b _ z
            obtain ⟨e2, _⟩ := hok' b _ z2
            rw [e] at e1; cases e1
            exact e2
  cases hk : K.lookup a with
  | some o =>
    -- the script is one of the module's own objects
    have e := KX a o hk
    rw [ha] at e
    cases e
    refine core (fun _ => none) (fun _ => .inl rfl) (.inr ⟨_, vs.toArray, _, hk, rfl, rfl, rfl, by rw [List.size_toArray, lenV]; exact hl, by simpa using rv⟩) (fun b u z => by have z' : (none : Option HO) = some u := z; cases z') (fun b z => absurd rfl z) fun z => absurd rfl z
  | none =>
    refine core (fun b => if b = a then some (.frz { cls := .type "list", data := .seq vs.toArray } (.lst (ns.map V.int))) else none) (fun b => ?_) (.inl (.inr ⟨{ cls := .type "list", data := .seq vs.toArray }, if_pos rfl⟩)) (fun b u z => ?_) (fun b z => ?_) fun _ => hk
    · by_cases hb : b = a
      · exact .inr ⟨_, _, if_pos hb⟩
      · exact .inl (if_neg hb)
    · by_cases hb : b = a
      · have z' := (if_pos hb).symm.trans z
        cases z'
        subst hb
        exact ⟨ha, by rw [List.length_map]; exact hl, vs, _, rv, ha⟩
      · have z' := (if_neg hb).symm.trans z
        cases z'
    · by_cases hb : b = a
      · exact hb
      · exact absurd (if_neg hb) z
theorem walk_ofKG {l : PySem.W.OpenLaw} {n k : Nat} {q : Program} {loose : List Str} {XP : (Str → Option Value) → Heap → Prop} {YP : World → Heap → Prop} {d : DefRec} {K : Params → PySem.W.Frag} {CX : CXT} {sp : PySem.W.Frag → Sp} {x : Str}
    (hn : l.most = some n) (hn2 : n ≤ sizeLine) (hdf : d.params.defaults = []) (hr : Room k callerA)
    (hY : ∀ (w : World) (h : Heap), YP w h → (K w.params).In h)
    (F : ∀ (w : World) (mg : Str → Option Value) (fa : Addr) (h : Heap), (K w.params).In h → h.Ns mainGlobals mg → mg d.name = some (.ref fa) →
      ∃ fd : FuncData, (∀ (s : Shared) (u : Value), BindsTo s fd ⟨[u], []⟩ [(x, u)]) ∧
        ∀ base : Heap, (K w.params).In base → base.Ns mainGlobals mg → FnOkG l.prog w (K w.params) mg base CX k fa fd [x] (sp (K w.params)))
    (hsp : ∀ (K : PySem.W.Frag) (H : Hp) (a : Addr) (ns : List Int), ns.length ≤ n → Only H → SqL K H a (ns.map V.int) → sp K [.ref a] H (fun v _ => v = .bl true) fun _ _ _ => False)
    (hCX : ∀ (H : Hp) (s : Shared) (e : Value) (s' : Shared), CX [] H s (fun _ _ _ => False) e s' → False) :
    PySem.W.WalkO q loose XP YP l.row.toRowW d [] (fun f vs => PySem.call f vs) := by
  refine Att.attach_call hn hdf fun w s₀ s₁ mg mb fa o pm cd doc a vs ns G Y ho hd hcd hmg hobj hints hlen hg => ?_
  have KX := hY w _ Y
  obtain ⟨fd, hb, hF⟩ := F w mg fa _ KX G.T.g hmg
  exact law_callG KX G.T.g G.T.b G.T.builtins G.T.nolimit hg hobj hints (Nat.le_trans hlen hn2) hr hF hb (fun H hO hS => hsp (K w.params) H a ns hlen hO hS) fun H e s' => hCX H s₁ e s'
def DefOkG (P : Program) (w : World) (K : PySem.W.Frag) (mg : Str → Option Value) (base : Heap) (CX : CXT) (k : Nat) (x : Str) (ps : List Str) (sp : Sp) : Prop :=
  ∃ f fd, mg x = some (.ref f) ∧ PySem.W.keepIn K (.ref f) = true ∧ Binds K fd ps [] ∧ FnOkG P w K mg base CX k f fd ps sp
def MethOkG (P : Program) (w : World) (K : PySem.W.Frag) (mg : Str → Option Value) (base : Heap) (CX : CXT) (k : Nat) (C : Addr) (m : Str) (ps : List Str) (sp : Sp) : Prop :=
  ∃ f fd, Meth K C m f ∧ Binds K fd ps [] ∧ FnOkG P w K mg base CX k f fd ps sp
section
variable {P : Program} {w : World} {K : PySem.W.Frag} {mg : Str → Option Value} {base : Heap}
theorem Fun.okG {x qual : Str} {st : Stmt} {f : Addr} {fd : FuncData} {N ps : List Str} {k : Nat} {sp : Sp} (F : Fun K x qual st f fd) (S : FnScope N ps (defScope st)) (len : ∀ vs H Q E, sp vs H Q E → vs.length = ps.length)
    (hbody : ∀ (cdv : Value) (A : Around) (outer : List Env) (s : Shared) (H : Hp) (vs : List V) (Q : VK) (E : XK), (A.deeper (envOfC qual (defScope st) s.heap.objs.size f cdv)).guards = some [] → Room k (A.deeper (envOfC qual (defScope st) s.heap.objs.size f cdv)) → sp vs H Q E →
      ∃ t, PSs (cxOf CX0 P w K mg base N qual (defScope st) f cdv A outer s H E).nox (defBody st) t ∧ t { nx := fun _ H' => Q .non H', rt := Q } (start N vs) H) : FnOkG P w K mg base CX0 (k + 1) f fd ps sp := by
  obtain ⟨oc, od, kV, doc, pm, an, cdv, ct, osl, rfl, lk, hcd⟩ := F.ex
  refine fn_ofG lk hcd S len fun A outer s H vs Q E hg hr hsp => ?_
  obtain ⟨t, h, q⟩ := hbody cdv A outer s H vs Q E hg hr hsp
  exact ⟨t, h.nox, q⟩
theorem Df.okG {x : Str} {st : Stmt} {N ps : List Str} {k : Nat} {sp : Sp} (D : Df K mg x st) (S : FnScope N ps (defScope st))
    (bd : ∀ (kV doc pm : Value) (an : Option Addr) (cdv ct : Value) (us : List Value), us.length = ps.length → bindArgs (PySem.W.fnOf x x (defArgs st) (defBody st) (defScope st) .none kV doc pm an cdv ct) ⟨us, []⟩ = pure (ps.zip us))
    (len : ∀ vs H Q E, sp vs H Q E → vs.length = ps.length)
    (hbody : ∀ (f : Addr) (cdv : Value) (A : Around) (outer : List Env) (s : Shared) (H : Hp) (vs : List V) (Q : VK) (E : XK), (A.deeper (envOfC x (defScope st) s.heap.objs.size f cdv)).guards = some [] → Room k (A.deeper (envOfC x (defScope st) s.heap.objs.size f cdv)) → sp vs H Q E →
      ∃ t, PSs (cxOf CX0 P w K mg base N x (defScope st) f cdv A outer s H E).nox (defBody st) t ∧ t { nx := fun _ H' => Q .non H', rt := Q } (start N vs) H) : DefOkG P w K mg base CX0 (k + 1) x ps sp := by
  obtain ⟨f, fd, F, hm⟩ := D
  exact ⟨f, fd, hm, F.kp, F.binds bd, F.okG S len (hbody f)⟩
theorem Dm.okG {C : Addr} {x qual : Str} {st : Stmt} {N ps : List Str} {k : Nat} {sp : Sp} (D : Dm K C x qual st) (S : FnScope N ps (defScope st))
    (bd : ∀ (kV doc pm : Value) (an : Option Addr) (cdv ct : Value) (us : List Value), us.length = ps.length → bindArgs (PySem.W.fnOf x qual (defArgs st) (defBody st) (defScope st) .none kV doc pm an cdv ct) ⟨us, []⟩ = pure (ps.zip us))
    (len : ∀ vs H Q E, sp vs H Q E → vs.length = ps.length)
    (hbody : ∀ (f : Addr) (cdv : Value) (A : Around) (outer : List Env) (s : Shared) (H : Hp) (vs : List V) (Q : VK) (E : XK), (A.deeper (envOfC qual (defScope st) s.heap.objs.size f cdv)).guards = some [] → Room k (A.deeper (envOfC qual (defScope st) s.heap.objs.size f cdv)) → sp vs H Q E →
      ∃ t, PSs (cxOf CX0 P w K mg base N qual (defScope st) f cdv A outer s H E).nox (defBody st) t ∧ t { nx := fun _ H' => Q .non H', rt := Q } (start N vs) H) : MethOkG P w K mg base CX0 (k + 1) C x ps sp := by
  obtain ⟨f, fd, F, hm⟩ := D
  exact ⟨f, fd, hm, F.binds bd, F.okG S len (hbody f)⟩
end
section
variable {X : Cx} {CX : CXT} {pins : List (Addr × Obj)} {σ : St} {H : Hp} {s : Shared} {C : Addr} {ps : List Str} {m x : Str} {n k : Nat} {sp : Sp} {E : XK} {p pos : Pos} {e : Expr} {es : List Expr} {t : TA} {te : TE}
theorem run_fnAtG {A : Around} {Q : VK} {g : Addr} {fd : FuncData} {us : List Value} {ws : List V} (F : FnOkG X.prog X.w X.K X.mg X.base CX n g fd ps sp) (hb : Binds X.K fd ps []) (hg : A.guards = some []) (hr : Room n A) (e0 : Env0 X.prog X.w X.K X.mg X.base A X.stack s H) (hx : Passes CX X E) (I : Inv X pins σ H s) (r : Vals ws us) (h : sp ws H Q E) :
    codeAny (model X.prog X.w) A (.call (.ref g) ⟨us, []⟩) (fun r s' => match r with | .ok (.ret v) => EP X pins σ Q v s' | .ok _ => False | .error e => X.xe e s') s := by
  have hl : us.length = ps.length := by rw [← r.length]; exact F.len _ _ _ _ h
  have b := hb s us I.kIn (by rw [List.append_nil]; exact hl)
  rw [List.append_nil] at b
  refine codeAny_mono (F.run A X.stack s H ⟨us, []⟩ us ws Q E hg hr e0 b r h) fun r s' hq => ?_
  cases r with
  | error e => exact hx pins σ H s e s' I hq
  | ok fl =>
    cases fl with
    | ret u => exact I.after hq
    | next => exact False.elim hq
    | brk => exact False.elim hq
    | cont => exact False.elim hq
theorem pe_callDG (D : DefOkG X.prog X.w X.K X.mg X.base CX k x ps sp) (hgd : X.A.guards = some []) (hr : Room k X.A) (hx : Passes CX X E) (ha : PA X (e :: es) t) (hg : Gl X x := by rfl) (hdb : (x == ("__debug__" : Str)) = false := by decide)
    (he : starEach (e :: es) X.env = (false, eval e X.env) :: starEach es X.env := by rfl) (hpl : (backTo pos (starEach es X.env)).any (·.1) = false := by rfl) :
    PE X (.Call (.Name x p) (e :: es) [] pos) (tCallD sp E t) := by
  obtain ⟨f, fd, hm, hk, hb, F⟩ := D
  refine ⟨fun pins s σ H Q I h => ?_⟩
  refine wpAny_Call_Name_kw (ld_glob I hg hm ?_ hdb)
  refine PySem.W.callWith_K (h₀ := X.base) I.ok.mod.kin hk (thn (ha.run pos pins s σ H _ I h) fun us s1 ⟨vs, H1, I1, r, q⟩ => ⟨I1.kIn, ?_⟩) he hpl
  exact wpAny_call (run_fnAtG F hb hgd hr I1.env0 hx I1 r q)
/-- str(x) of an instance with an own __str__ -/
def rStrOwn (C : Addr) (sp : Sp) (E : XK) : List V → Hp → VK → Prop := fun xs H Q => ∃ a dx fs, xs = [V.ref a] ∧ H a = some (.ins C dx fs) ∧ sp [.ref a] H (fun z H' => ∃ b, z = .str b ∧ Q z H') E
theorem call_strOwn (D : MethOkG X.prog X.w X.K X.mg X.base CX n C "__str__" ps sp) (hgd : X.A.guards = some []) (hr : Room (n + 2) X.A) (hx : Passes CX X E) : CallR X (.type "str") (rStrOwn C sp E) := by
  obtain ⟨f, fd, hm, hb, F⟩ := D
  intro pins s σ H xs us Q I r h
  obtain ⟨a, dx, fs, rfl, hsl, q⟩ := h
  obtain ⟨u, rfl, ru⟩ := r.one
  cases (show u = Value.ref a from ru)
  obtain ⟨mA, O, _⟩ := ins_get I.hok hsl
  obtain ⟨od, J, _⟩ := O.look
  have hr2 : Room n X.A.in1.in1 := (show Room (n + 1) X.A.in1 from Room.in1 hr).in1
  have hu : X.A.in1.in1.units < cLine := by have := hr2.un; omega
  refine PySem.W.kso_call hu I.kIn J hm.at_ hm.fn (wpAny_mono (wpAny_call (run_fnAtG (us := [.ref a]) (ws := [.ref a]) F hb hgd hr2 I.env0.in1.in1 hx I (.cons rfl .nil) q)) (fun w s' z => ?_) fun _ _ x => x)
  obtain ⟨z', H', I', rz, b, eb, qz⟩ := z
  subst eb
  obtain ⟨tk, rfl⟩ := (show ∃ tk, w = Value.str b tk from rz)
  exact ⟨.str b, H', I', ⟨tk, rfl⟩, qz⟩
/-- str(t), t read as data -/
def rStrD (K : PySem.W.Frag) : List V → Hp → VK → Prop := fun xs H Q => ∃ (a : Addr) (d : PyData), xs = [V.ref a] ∧ Dp K H (.ref a) d ∧ d.showable = true ∧ d.hasDict = false ∧ d.depth ≤ 32 ∧ d.shown.length ≤ sizeLine ∧ Q (.str d.shown) H
theorem call_strD (hgd : X.A.guards = some []) (hr : Room n X.A) : CallR X (.type "str") (rStrD X.K) := by
  intro pins s σ H xs us Q I r h
  obtain ⟨a, d, rfl, hd, h1, h2, h3, h4, q⟩ := h
  obtain ⟨u, rfl, ru⟩ := r.one
  cases (show u = Value.ref a from ru)
  obtain ⟨as, rd⟩ := Dp.reads I d _ _ hd rfl
  have hu := hr.units
  exact str_of_reads rd h1 (fun z => by rw [h2] at z; cases z) hgd (by omega) (fun b o e => e) (fun h' u tk hk => ⟨.str d.shown, H, I.kept hk, ⟨u, rfl⟩, q⟩) h4
/-- {t} in an f-string, t read as data -/
def tFmtD (K : PySem.W.Frag) (te : TE) : TE := fun σ H Q => te σ H fun x H1 => ∃ (a : Addr) (d : PyData), x = .ref a ∧ Dp K H1 (.ref a) d ∧ d.showable = true ∧ d.hasDict = false ∧ d.depth ≤ 32 ∧ d.shown.length ≤ sizeLine ∧ Q (.str d.shown) H1
theorem pe_fmtD (hgd : X.A.guards = some []) (hr : Room n X.A) (he : PE X e te) : PE X (.FormattedValue e (-1) none pos) (tFmtD X.K te) := by
  refine ⟨fun pins s σ H Q I h => ?_⟩
  refine wpAny_FormattedValue_plain (thn (he.run pins s σ H _ I h) fun v s1 hv => ?_)
  obtain ⟨x, H1, I1, r1, a, d, rfl, hd, h1, h2, h3, h4, q⟩ := hv
  cases r1
  obtain ⟨as, rd⟩ := Dp.reads I1 d _ _ hd rfl
  have hu := hr.units
  exact formatField_of_reads rd h1 (fun z => by rw [h2] at z; cases z) hgd (by omega) (fun b o e => e) (fun h' u tk hk => ⟨.str d.shown, H1, I1.kept hk, ⟨u, rfl⟩, q⟩) h4
end
end L2
set_option maxHeartbeats 4000000
/-! repr(x), x read as data -/
namespace L2
open PySem PySem.Spec PyProof.Rows Lf
section
variable {X : Cx} {n : Nat}
def rReprD (K : PySem.W.Frag) : List V → Hp → VK → Prop := fun xs H Q => ∃ (v : V) (d : PyData), xs = [v] ∧ Dp K H v d ∧ d.showable = true ∧ d.hasDict = false ∧ d.depth ≤ 32 ∧ d.shown.length ≤ sizeLine ∧ Q (.str d.shown) H
theorem call_reprD (hgd : X.A.guards = some []) (hr : Room n X.A) : CallR X (.builtin "repr") (rReprD X.K) := by
  intro pins s σ H xs us Q I r h
  obtain ⟨v, d, rfl, hd, h1, h2, h3, h4, q⟩ := h
  obtain ⟨u, rfl, ru⟩ := r.one
  have hu := hr.units
  cases hd with
  | non =>
    cases ru
    exact PySem.P.repr_of_none ⟨.str _, H, I.tok _, ⟨_, rfl⟩, q⟩
  | bl b =>
    cases ru
    exact PySem.P.repr_of_bool ⟨.str _, H, I.tok _, ⟨_, rfl⟩, q⟩
  | int i =>
    obtain ⟨t, rfl⟩ := ru
    exact PySem.P.repr_of_int (of_decide_eq_true h1) ⟨.str _, H, I.tok _, ⟨_, rfl⟩, q⟩
  | str x =>
    obtain ⟨t, rfl⟩ := ru
    exact PySem.P.repr_of_str ⟨.str _, H, I.tok _, ⟨_, rfl⟩, q⟩ h4
  | lst a b =>
    cases ru
    obtain ⟨as, rd⟩ := Dp.reads I _ _ _ (Dp.lst a b) rfl
    exact repr_of_reads' rd h1 (fun z => by rw [h2] at z; cases z) hgd (by omega) (fun b o e => e) (fun h' u tk hk => ⟨.str _, H, I.kept hk, ⟨u, rfl⟩, q⟩) h4
  | tup a b =>
    cases ru
    obtain ⟨as, rd⟩ := Dp.reads I _ _ _ (Dp.tup a b) rfl
    exact repr_of_reads' rd h1 (fun z => by rw [h2] at z; cases z) hgd (by omega) (fun b o e => e) (fun h' u tk hk => ⟨.str _, H, I.kept hk, ⟨u, rfl⟩, q⟩) h4
end
end L2
namespace Lf
open PySem L2 Evl
/-! data without dicts, as the layer's own reading -/
mutual
def flatD : PyData → Bool
  | .list ds => flatDs ds
  | .tuple ds => flatDs ds
  | .dict _ => false
  | _ => true
def flatDs : List PyData → Bool
  | [] => true
  | d :: ds => flatD d && flatDs ds
end
mutual
theorem Da.dp {K : PySem.W.Frag} {H : Hp} : ∀ (d : PyData) (v : V), Da H v d → flatD d = true → Dp K H v d
  | .none, _, h, _ => by cases h; exact .non
  | .bool b, _, h, _ => by cases h; exact .bl _
  | .int i, _, h, _ => by cases h; exact .int _
  | .str s, _, h, _ => by cases h; exact .str _
  | .list ds, _, h, f => by cases h with | lst e ha => exact .lst (SqL.of e) (DaAll.dp ds _ ha (by rw [flatD] at f; exact f))
  | .tuple ds, _, h, f => by cases h with | tup e ha => exact .tup (SqT.of e) (DaAll.dp ds _ ha (by rw [flatD] at f; exact f))
  | .dict _, _, _, f => by rw [flatD] at f; cases f
theorem DaAll.dp {K : PySem.W.Frag} {H : Hp} : ∀ (ds : List PyData) (vs : List V), DaAll H vs ds → flatDs ds = true → DpAll K H vs ds
  | [], _, h, _ => by cases h; exact .nil
  | d :: ds, _, h, f => by cases h with | cons h t => rw [flatDs, Bool.and_eq_true] at f; exact .cons (Da.dp d _ h f.1) (DaAll.dp ds _ t f.2)
end
section
variable {K : PySem.W.Frag} {σ : L2.St} {G : Hp} {ta tb te : TE} {d e : PyData}
/-- repr(x) -/
theorem ev_repr (h : EvD te σ G d) (f : flatD d = true) (h1 : d.showable = true) (h2 : d.hasDict = false) (h3 : d.depth ≤ 32) (h4 : d.shown.length ≤ sizeLine) : Ev (tCB (rReprD K) (tCons te tNil)) σ G (.str d.shown) := fun H1 x Q q => h G H1 (Ex.refl _) x _ fun v G2 H2 r hd =>
  ⟨v, d, rfl, Da.dp d v (hd.up r.s) f, h1, h2, h3, h4, q H2 r.h⟩
theorem ev_reprB {b : Bool} (h : Ev te σ G (.bl b)) : Ev (tCB (rReprD K) (tCons te tNil)) σ G (.str (if b then "True" else "False")) := by
  cases b with
  | true => exact ev_repr (evd_bl h) rfl rfl rfl (by decide) (by decide)
  | false => exact ev_repr (evd_bl h) rfl rfl rfl (by decide) (by decide)
/-- x == y of data without dicts -/
theorem ev_eqD (ha : EvD ta σ G d) (hb : EvD tb σ G e) (f : flatD d = true) (f2 : flatD e = true) (s1 : SeqAt.shaped d = true) (s2 : SeqAt.shaped e = true) : Ev (tOp (rEqD K) ta tb) σ G (.bl (PyData.eqv d e)) := fun H1 x Q q => ha G H1 (Ex.refl _) x _ fun v G2 H2 r hd => hb G2 H2 r.g r.s _ fun w G3 H3 r3 he =>
  ⟨d, e, Da.dp d v (hd.up (r3.g.trans r3.s)) f, Da.dp e w (he.up r3.s) f2, s1, s2, q H3 (r.h.trans r3.h)⟩
theorem ev_neD (ha : EvD ta σ G d) (hb : EvD tb σ G e) (f : flatD d = true) (f2 : flatD e = true) (s1 : SeqAt.shaped d = true) (s2 : SeqAt.shaped e = true) : Ev (tOp (rNeD K) ta tb) σ G (.bl (!PyData.eqv d e)) := fun H1 x Q q => ha G H1 (Ex.refl _) x _ fun v G2 H2 r hd => hb G2 H2 r.g r.s _ fun w G3 H3 r3 he =>
  ⟨d, e, Da.dp d v (hd.up (r3.g.trans r3.s)) f, Da.dp e w (he.up r3.s) f2, s1, s2, q H3 (r.h.trans r3.h)⟩
end
end Lf
set_option maxHeartbeats 4000000
/-! x == 'text', x != 'text' of a value of any kind; t == (), t != () of a tuple of anything -/
namespace LfQ
open PySem PySem.SeqAt PySem.MeetsSeq
open AutoSeq1 (wpAny_loadPart')
section
variable {A : Around} {s : Shared}
theorem dict_eq_str (l : Addr) (o : Obj) (hc : o.cls = .type "dict") (b : Str) (u : Tok) : Meets (Builtin.«dict.__eq__» ⟨[.ref l, .str b u], []⟩) (fun _ R s => s.heap.get? l = some o ∧ R (.ok (.ret .notImplemented)) s) :=
  .of_wp fun prog w A R s h => by obtain ⟨hp, g, d, tk, os⟩ := s; obtain ⟨hl, h⟩ := h; have f1 := F.sub_str_dict; wp_walk using wpAny_loadPart' hl, wpAny_load hl; exact ⟨_, rfl, h⟩
theorem dict_ne_str (l : Addr) (o : Obj) (hc : o.cls = .type "dict") (b : Str) (u : Tok) : Meets (Builtin.«dict.__ne__» ⟨[.ref l, .str b u], []⟩) (fun _ R s => s.heap.get? l = some o ∧ R (.ok (.ret .notImplemented)) s) :=
  .of_wp fun prog w A R s h => by obtain ⟨hp, g, d, tk, os⟩ := s; obtain ⟨hl, h⟩ := h; have f1 := F.sub_str_dict; wp_walk using wpAny_loadPart' hl, wpAny_load hl; exact ⟨_, rfl, h⟩
theorem str_eq_dict (l : Addr) (o : Obj) (es : Array DictEntry) (n : Nat) (hd : o.data = .dict es n) (b : Str) (u : Tok) : Meets (Builtin.«str.__eq__» ⟨[.str b u, .ref l], []⟩) (fun _ R s => s.heap.get? l = some o ∧ R (.ok (.ret .notImplemented)) s) :=
  .of_wp fun prog w A R s h => by obtain ⟨hp, g, d, tk, os⟩ := s; obtain ⟨hl, h⟩ := h; obtain ⟨cls, dd, data, sl⟩ := o; simp only at hd; subst hd; wp_walk using wpAny_loadPart' hl, wpAny_load hl; exact ⟨_, rfl, h⟩
theorem str_ne_dict (l : Addr) (o : Obj) (es : Array DictEntry) (n : Nat) (hd : o.data = .dict es n) (b : Str) (u : Tok) : Meets (Builtin.«str.__ne__» ⟨[.str b u, .ref l], []⟩) (fun _ R s => s.heap.get? l = some o ∧ R (.ok (.ret .notImplemented)) s) :=
  .of_wp fun prog w A R s h => by obtain ⟨hp, g, d, tk, os⟩ := s; obtain ⟨hl, h⟩ := h; obtain ⟨cls, dd, data, sl⟩ := o; simp only at hd; subst hd; wp_walk using wpAny_loadPart' hl, wpAny_load hl; exact ⟨_, rfl, h⟩
theorem rc_dict_str {l : Addr} {o : Obj} {es : Array DictEntry} {n : Nat} (ho : s.heap.get? l = some o) (hc : o.cls = .type "dict") (hd : o.data = .dict es n) (b : Str) (u : Tok) (hu : A.units < cLine) : RcAt A s (.ref l) (.str b u) false := fun prog w E Q h =>
  rc_eq_decline_or (k := false) ⟨_, ho, hc⟩ (typeIs_str s b u) (by decide) F.sub_str_dict F.slot_dict_eq F.slot_str_eq_refl
    (fun _ hq => call_meets F.slot_dict_eq ⟨_, ho, hc⟩ F.entry_dict_eq (F.args_dict_eq_2 _ _) (dict_eq_str l o hc b u) ⟨ho, hq⟩)
    (fun _ hq => call_meets F.slot_str_eq_refl (typeIs_str s b u) F.entry_str_eq (F.args_str_eq_2 _ _) (str_eq_dict l o es n hd b u) ⟨ho, hq⟩)
    (fun _ hq => wpAny_of_eq (rfl : isSame (.ref l) (.str b u) = pure false) hq) (.inr hu) h
theorem rn_dict_str {l : Addr} {o : Obj} {es : Array DictEntry} {n : Nat} (ho : s.heap.get? l = some o) (hc : o.cls = .type "dict") (hd : o.data = .dict es n) (b : Str) (u : Tok) (hu : A.units < cLine) : RcNeAt A s (.ref l) (.str b u) true := fun prog w E Q h =>
  rc_ne_decline_or (k := false) ⟨_, ho, hc⟩ (typeIs_str s b u) (by decide) F.sub_str_dict F.slot_dict_ne F.slot_str_ne_refl
    (fun _ hq => call_meets F.slot_dict_ne ⟨_, ho, hc⟩ F.entry_dict_ne (F.args_dict_ne_2 _ _) (dict_ne_str l o hc b u) ⟨ho, hq⟩)
    (fun _ hq => call_meets F.slot_str_ne_refl (typeIs_str s b u) F.entry_str_ne (F.args_str_ne_2 _ _) (str_ne_dict l o es n hd b u) ⟨ho, hq⟩)
    (fun _ hq => wpAny_of_eq (rfl : isSame (.ref l) (.str b u) = pure false) hq) (.inr hu) h
end
end LfQ
namespace L2
open PySem PySem.Spec PyProof.Rows Lf
section
variable {X : Cx}
theorem dict_obj {pins : List (Addr × Obj)} {σ : St} {H : Hp} {s : Shared} {a : Addr} {kvs : List (Key × V)} (I : Inv X pins σ H s) (h : H a = some (.dK kvs)) : ∃ o es n, s.heap.get? a = some o ∧ o.cls = .type "dict" ∧ o.data = .dict es n := by
  obtain ⟨_, _, vs, kv, o, es, ep, ho, hx, hd, _⟩ := I.hok a _ h
  exact ⟨o, es, ep, ho, hx.1, hd⟩
def rEqS : R2 := fun x y H Q => ∃ (t : String) (z : Str), y = .str z ∧ Kd H x t ∧ Q (.bl (decide (x = .str z))) H
def rNeS : R2 := fun x y H Q => ∃ (t : String) (z : Str), y = .str z ∧ Kd H x t ∧ Q (.bl (!decide (x = .str z))) H
theorem op_eqS (hu : X.A.units < cLine) : OpR X (compareOp .Eq) rEqS := by
  intro pins s σ H x y v u Q I rx ry h
  obtain ⟨t, z, rfl, k, q⟩ := h
  cases k with
  | non => exact op_eq pins s σ H _ _ v u Q I rx ry ⟨rfl, q⟩
  | bl b => exact op_eq pins s σ H _ _ v u Q I rx ry ⟨rfl, q⟩
  | int i => exact op_eq pins s σ H _ _ v u Q I rx ry ⟨rfl, q⟩
  | str w => exact op_eq pins s σ H _ _ v u Q I rx ry ⟨rfl, q⟩
  | @lst a xs e =>
    cases rx
    obtain ⟨t', rfl⟩ := ry
    obtain ⟨its, rv, pl, _⟩ := I.list (SqL.of (K := X.K) e)
    exact SeqAt.RcAt.list_str z t' pl.isList hu X.prog X.w _ _ ⟨.bl false, H, I, rfl, by simpa using q⟩
  | @tup a xs e =>
    cases rx
    obtain ⟨t', rfl⟩ := ry
    obtain ⟨its, rv, pl, _⟩ := I.tuple (SqT.of (K := X.K) e)
    exact SeqAt.RcAt.tuple_str z t' pl hu X.prog X.w _ _ ⟨.bl false, H, I, rfl, by simpa using q⟩
  | @dic a kvs e =>
    cases rx
    obtain ⟨t', rfl⟩ := ry
    obtain ⟨o, es, n, h1, h2, h3⟩ := dict_obj I e
    exact LfQ.rc_dict_str h1 h2 h3 z t' hu X.prog X.w _ _ ⟨.bl false, H, I, rfl, by simpa using q⟩
theorem op_neS (hu : X.A.units < cLine) : OpR X (compareOp .NotEq) rNeS := by
  intro pins s σ H x y v u Q I rx ry h
  obtain ⟨t, z, rfl, k, q⟩ := h
  cases k with
  | non => exact op_ne pins s σ H _ _ v u Q I rx ry ⟨rfl, q⟩
  | bl b => exact op_ne pins s σ H _ _ v u Q I rx ry ⟨rfl, q⟩
  | int i => exact op_ne pins s σ H _ _ v u Q I rx ry ⟨rfl, q⟩
  | str w => exact op_ne pins s σ H _ _ v u Q I rx ry ⟨rfl, q⟩
  | @lst a xs e =>
    cases rx
    obtain ⟨t', rfl⟩ := ry
    obtain ⟨its, rv, pl, _⟩ := I.list (SqL.of (K := X.K) e)
    exact SeqAt.RcNeAt.list_str z t' pl.isList hu X.prog X.w _ _ ⟨.bl true, H, I, rfl, by simpa using q⟩
  | @tup a xs e =>
    cases rx
    obtain ⟨t', rfl⟩ := ry
    obtain ⟨its, rv, pl, _⟩ := I.tuple (SqT.of (K := X.K) e)
    exact SeqAt.RcNeAt.tuple_str z t' pl hu X.prog X.w _ _ ⟨.bl true, H, I, rfl, by simpa using q⟩
  | @dic a kvs e =>
    cases rx
    obtain ⟨t', rfl⟩ := ry
    obtain ⟨o, es, n, h1, h2, h3⟩ := dict_obj I e
    exact LfQ.rn_dict_str h1 h2 h3 z t' hu X.prog X.w _ _ ⟨.bl true, H, I, rfl, by simpa using q⟩
/-- a tuple and the empty one -/
def rEqE (K : PySem.W.Frag) : R2 := fun x y H Q => ∃ a b xs, x = .ref a ∧ y = .ref b ∧ SqT K H a xs ∧ SqT K H b [] ∧ Q (.bl (xs.isEmpty)) H
def rNeE (K : PySem.W.Frag) : R2 := fun x y H Q => ∃ a b xs, x = .ref a ∧ y = .ref b ∧ SqT K H a xs ∧ SqT K H b [] ∧ Q (.bl (!xs.isEmpty)) H
theorem op_eqE (hu : X.A.units < cLine) : OpR X (compareOp .Eq) (rEqE X.K) := by
  intro pins s σ H x y v u Q I rx ry h
  obtain ⟨a, b, xs, rfl, rfl, ha, hb, q⟩ := h
  cases rx
  cases ry
  obtain ⟨its, rv, pl, _⟩ := I.tuple ha
  obtain ⟨its2, rv2, pl2, _⟩ := I.tuple hb
  cases rv2
  refine SeqAt.RcAt.tuples (e := fun _ => true) pl pl2 hu (fun j h1 h2 => absurd h2 (by simp)) X.prog X.w _ _ ⟨.bl xs.isEmpty, H, I, ?_, q⟩
  cases rv <;> simp [RelV]
theorem op_neE (hu : X.A.units < cLine) : OpR X (compareOp .NotEq) (rNeE X.K) := by
  intro pins s σ H x y v u Q I rx ry h
  obtain ⟨a, b, xs, rfl, rfl, ha, hb, q⟩ := h
  cases rx
  cases ry
  obtain ⟨its, rv, pl, _⟩ := I.tuple ha
  obtain ⟨its2, rv2, pl2, _⟩ := I.tuple hb
  cases rv2
  refine SeqAt.RcNeAt.tuples (e := fun _ => true) pl pl2 hu (fun j h1 h2 => absurd h2 (by simp)) X.prog X.w _ _ ⟨.bl (!xs.isEmpty), H, I, ?_, q⟩
  cases rv <;> simp [RelV]
end
end L2
set_option maxHeartbeats 4000000
/-! l == [], l != [] of a list of anything; ** of a great int; chains of texts; t * n -/
namespace L2
open PySem PySem.Spec PyProof.Rows Lf
section
variable {X : Cx}
def rEqEL (K : PySem.W.Frag) : R2 := fun x y H Q => ∃ a b xs, x = .ref a ∧ y = .ref b ∧ SqL K H a xs ∧ SqL K H b [] ∧ Q (.bl (xs.isEmpty)) H
def rNeEL (K : PySem.W.Frag) : R2 := fun x y H Q => ∃ a b xs, x = .ref a ∧ y = .ref b ∧ SqL K H a xs ∧ SqL K H b [] ∧ Q (.bl (!xs.isEmpty)) H
theorem op_eqEL (hu : X.A.units < cLine) : OpR X (compareOp .Eq) (rEqEL X.K) := by
  intro pins s σ H x y v u Q I rx ry h
  obtain ⟨a, b, xs, rfl, rfl, ha, hb, q⟩ := h
  cases rx
  cases ry
  obtain ⟨its, rv, pl, _⟩ := I.list ha
  obtain ⟨its2, rv2, pl2, _⟩ := I.list hb
  cases rv2
  cases rv with
  | nil => exact SeqAt.RcAt.lists (e := fun _ => true) pl.isList pl2.isList rfl hu (fun j h1 h2 => absurd h2 (by simp)) X.prog X.w _ _ ⟨.bl true, H, I, rfl, q⟩
  | cons r rr => exact SeqAt.RcAt.lists_lengths pl.isList pl2.isList (by simp) hu X.prog X.w _ _ ⟨.bl false, H, I, rfl, q⟩
theorem op_neEL (hu : X.A.units < cLine) : OpR X (compareOp .NotEq) (rNeEL X.K) := by
  intro pins s σ H x y v u Q I rx ry h
  obtain ⟨a, b, xs, rfl, rfl, ha, hb, q⟩ := h
  cases rx
  cases ry
  obtain ⟨its, rv, pl, _⟩ := I.list ha
  obtain ⟨its2, rv2, pl2, _⟩ := I.list hb
  cases rv2
  cases rv with
  | nil => exact SeqAt.RcNeAt.lists (e := fun _ => true) pl.isList pl2.isList rfl hu (fun j h1 h2 => absurd h2 (by simp)) X.prog X.w _ _ ⟨.bl false, H, I, rfl, q⟩
  | cons r rr => exact SeqAt.RcNeAt.lists_lengths pl.isList pl2.isList (by simp) hu X.prog X.w _ _ ⟨.bl true, H, I, rfl, q⟩
def CPowX (i j : Int) : Prop := 0 ≤ j ∧ (Builtin.Int.intBits i : Int) * j ≤ 2 ^ 27
theorem op_powX : OpR X (binaryOp .Pow) (rI CPowX fun i j => .int (i ^ j.toNat)) := opI fun _ _ _ _ _ _ _ hc q => PyProof.Rows.pow_int hc.1 hc.2 q
def rLeS : R2 := fun x y H Q => ∃ i j : Str, x = .str i ∧ y = .str j ∧ Q (.bl (!decide (j.cps.toList < i.cps.toList))) H
theorem op_leS : OpR X (compareOp .LtE) rLeS := op_le_str
end
end L2
namespace Lf
open PySem L2 Evl
section
variable {K : PySem.W.Frag} {σ : L2.St} {G : Hp} {ta tb tc te : TE} {ds : List PyData} {d : PyData}
theorem ev_eqEL (ha : EvD ta σ G (.list ds)) : Ev (tOp (rEqEL K) ta (tLst tNil)) σ G (.bl ds.isEmpty) := fun H1 x Q q => ha G H1 (Ex.refl _) x _ fun v G2 H2 r hd => ⟨by decide, fun p hp => by
  obtain ⟨a, xs, rfl, e, hs⟩ := hd.lst_
  have x3 : Ex H2 (upd H2 p (.lst [])) := Ex.new hp
  refine ⟨a, p, xs, rfl, rfl, SqL.of (x3 _ _ (r.s _ _ e)), SqL.of upd_same, ?_⟩
  have : xs.isEmpty = ds.isEmpty := by cases hs <;> rfl
  rw [this]
  exact q _ (r.h.trans x3)⟩
theorem ev_neEL (ha : EvD ta σ G (.list ds)) : Ev (tOp (rNeEL K) ta (tLst tNil)) σ G (.bl (!ds.isEmpty)) := fun H1 x Q q => ha G H1 (Ex.refl _) x _ fun v G2 H2 r hd => ⟨by decide, fun p hp => by
  obtain ⟨a, xs, rfl, e, hs⟩ := hd.lst_
  have x3 : Ex H2 (upd H2 p (.lst [])) := Ex.new hp
  refine ⟨a, p, xs, rfl, rfl, SqL.of (x3 _ _ (r.s _ _ e)), SqL.of upd_same, ?_⟩
  have : xs.isEmpty = ds.isEmpty := by cases hs <;> rfl
  rw [this]
  exact q _ (r.h.trans x3)⟩
/-- a <= b <= c of texts -/
theorem ev_chainS {a b c : Str} (ha : Ev ta σ G (.str a)) (hb : Ev tb σ G (.str b)) (hc : Ev tc σ G (.str c)) : Ev (tChain rLeS rLeS ta tb tc) σ G (.bl (!decide (b.cps.toList < a.cps.toList) && !decide (c.cps.toList < b.cps.toList))) := fun H1 x Q q =>
  ha H1 x _ fun H2 x2 => hb H2 (x.trans x2) _ fun H3 x3 => ⟨a, b, rfl, rfl, _, rfl, by
    have q3 : ∀ H4, Ex H3 H4 → Q (.bl (!decide (b.cps.toList < a.cps.toList) && !decide (c.cps.toList < b.cps.toList))) H4 := fun H4 x4 => q H4 ((x2.trans x3).trans x4)
    generalize (!decide (b.cps.toList < a.cps.toList)) = fb at *
    cases fb with
    | false => rw [if_neg Bool.false_ne_true]; exact q3 H3 (Ex.refl _)
    | true => rw [if_pos rfl]; exact hc H3 ((x.trans x2).trans x3) _ fun H4 x4 => ⟨b, c, rfl, rfl, q3 H4 x4⟩⟩
/-- a + b, a * n of lists; t * n -/
theorem evd_catL {es : List PyData} (ha : EvD ta σ G (.list ds)) (hb : EvD tb σ G (.list es)) (hl : ds.length + es.length ≤ 100000) : EvD (tOp rCat ta tb) σ G (.list (ds ++ es)) := fun G1 H1 x s Q q =>
  ha G1 H1 x s _ fun v G2 H2 r hd => hb G2 H2 (x.trans r.g) r.s _ fun w G3 H3 r2 he => by
    obtain ⟨a, xs, rfl, e1, h1⟩ := (hd.up r2.g).lst_
    obtain ⟨b, ys, rfl, e2, h2⟩ := he.lst_
    have r3 := r.trans r2
    refine ⟨a, b, xs, ys, rfl, rfl, r3.s _ _ e1, r3.s _ _ e2, by rw [h1.len, h2.len]; exact sz_of hl, fun p hp => ?_⟩
    have n := Gr.new (o := .lst (xs ++ ys)) r3.s hp rfl
    exact q (.ref p) _ _ (r3.trans n) (.lst upd_same ((h1.app h2).up n.g))
theorem DaAll.rep {H : Hp} {vs : List V} (h : DaAll H vs ds) : ∀ n : Nat, DaAll H (List.replicate n vs).flatten (List.replicate n ds).flatten
  | 0 => .nil
  | n + 1 => by
    rw [List.replicate_succ, List.replicate_succ, List.flatten_cons, List.flatten_cons]
    exact h.app (DaAll.rep h n)
theorem evd_repL {n : Int} (ha : EvD ta σ G (.list ds)) (hb : Ev tb σ G (.int n)) (h0 : 0 ≤ n) (h1 : n ≤ 1000) (hl : ds.length ≤ 100) : EvD (tOp rRep ta tb) σ G (.list (List.replicate n.toNat ds).flatten) := fun G1 H1 x s Q q =>
  ha G1 H1 x s _ fun v G2 H2 r hd => hb H2 ((x.trans r.g).trans r.s) _ fun H3 x3 => by
    obtain ⟨a, xs, rfl, e1, h2⟩ := hd.lst_
    have r3 := r.trans (Gr.keep r.s x3)
    refine ⟨a, n, xs, rfl, rfl, r3.s _ _ e1, by omega, by omega, ?_, fun p hp => ?_⟩
    · rw [h2.len]
      exact Nat.le_trans (Nat.mul_le_mul hl (show n.toNat ≤ 1000 by omega)) (by decide)
    · have m := Gr.new (o := .lst (List.replicate n.toNat xs).flatten) r3.s hp rfl
      exact q (.ref p) _ _ (r3.trans m) (.lst upd_same ((h2.rep _).up m.g))
theorem evd_repT {n : Int} (ha : EvD ta σ G (.tuple ds)) (hb : Ev tb σ G (.int n)) (h0 : 2 ≤ n) (h1 : n ≤ 1000) (hl : ds.length ≤ 1000) (hn : ds ≠ []) : EvD (tOp (rRepT K) ta tb) σ G (.tuple (List.replicate n.toNat ds).flatten) := fun G1 H1 x s Q q =>
  ha G1 H1 x s _ fun v G2 H2 r hd => hb H2 ((x.trans r.g).trans r.s) _ fun H3 x3 => by
    obtain ⟨a, xs, rfl, e1, h2⟩ := hd.tup_
    have r3 := r.trans (Gr.keep r.s x3)
    refine ⟨a, n, xs, rfl, rfl, SqT.of (r3.s _ _ e1), fun z => ?_, h0, h1, by rw [h2.len]; exact hl, fun p hp => ?_⟩
    · subst z
      cases h2
      exact hn rfl
    · have m := Gr.new (o := .tup (List.replicate n.toNat xs).flatten) r3.s hp rfl
      exact q (.ref p) _ _ (r3.trans m) (.tup upd_same ((h2.rep _).up m.g))
end
end Lf
set_option maxHeartbeats 4000000
/-! max(l, default=d) of a list of whole numbers -/
namespace Lf
open PySem PySem.F PySem.Spec PyProof.Rows L2 Evl
section
variable {prog : Program} {w : World} {A : Around} {E : Value → Shared → Prop} {s : Shared}
theorem fn_tree_kw {id : String} {b : Builtin} {args : List Value} {kw : List (Str × Value)} {Q : Value → Shared → Prop} (hk : builtinKind id = none) (hp : plainId id = true)
    (hb : entryFor table id = some b) (ha : argsOk id ⟨args, kw⟩)
    (hc : wpAny (model prog w) A.in1 (b ⟨args, kw⟩) (fun fin s' => match fin with
      | .done f => (match (Except.ok f : Result) with | .ok (.ret v) => Q v s' | .ok _ => False | .error e => E e s')
      | .again c' => c'.quiet = true ∧ codeAny (model prog w) A c' (fun r s' => match r with | .ok (.ret v) => Q v s' | .ok _ => False | .error e => E e s') s') E s) :
    wpAny (model prog w) A (call (.builtin id) args kw) Q E s := by
  refine wpAny_call (codeAny_call_builtin hp hb ?_)
  simp only [checkBuiltinCall, hk]
  cases hsig : Manifest.signature? id with
  | none => exact wpAny_pure hc
  | some sig =>
    have ha' : Bind.checkArgs id sig ⟨args, kw⟩ = pure () := by simpa only [argsOk, hsig] using ha
    simp only [ha']
    exact wpAny_pure hc
theorem args_max_df (a d : Value) : argsOk "max" ⟨[a], [("default", d)]⟩ := by unfold argsOk; kernel_rfl
theorem max_nm : (toString "max" ++ toString ".loop" : String) = "max.loop" := by decide
end
section
variable {prog : Program} {w : World} {A : Around} {R : Result → Shared → Prop} {I : Addr} {fp wr : List Addr} {n : Nat} {P : Nat → Value → Prop} {St : Nat → Heap → Prop} {d : Value}
/-- what the loop has found before it takes thing j -/
def BestAt (P : Nat → Value → Prop) (bt : Nat → Nat → Bool) : Nat → List Value → Prop
  | 0, l => l = []
  | j + 1, l => ∃ v, l = [v, v] ∧ P (argBest bt j) v
theorem max_loop_df (W : Walks prog w A.in1 I fp wr n P St) (bt : Nat → Nat → Bool) (hcmp : CmpOf prog w A.in1 .Gt P bt) (S : Addr) (hSf : S ∉ fp) :
    ∀ (k j : Nat) (s : Shared) (l : List Value) (c : Nat), n - j = k → j ≤ n → St j s.heap → BestAt P bt j l →
    s.heap.get? S = some { cls := .type "list", dict := none, data := .seq l.toArray c, slots := #[] } →
    (∀ v h' tk, (n = 0 → v = d) → (0 < n → P (argBest bt (n - 1)) v) → (∀ b o, b ∉ wr → b ≠ S → s.heap.get? b = some o → h'.get? b = some o) → R (.ok (.ret v)) { s with heap := h', toks := tk }) →
    codeAny (model prog w) A (.builtin "max.loop" ⟨[.ref I, .none, .ref S], [("default", d)]⟩) R s := by
  have hSw : S ∉ wr := fun h => hSf (W.sub _ h)
  intro k
  induction k with
  | zero =>
    intro j s l c hk hj hst hB hS hR
    have hin : j = n := by omega
    refine codeAny_builtin F.entry_max_loop ?_
    rw [Around.under_plainId F.plain_max_loop _]
    show wpAny _ A.in1 (seqItems? (.ref S) >>= _) _ _ s
    refine wpAny_bind (wpAny_seqItems hS rfl ?_)
    show wpAny _ A.in1 (tryCatch (pyNext (.ref I)) _ >>= _) _ _ s
    refine wpAny_bind (wpAny_tryCatch (W.done s _ _ (hin ▸ hst) fun h' tk hk' => ?_))
    have hS' := hk' S _ hSw hS
    cases j with
    | zero =>
      obtain rfl : l = [] := hB
      show wpAny _ A.in1 (rule _ >>= _) _ _ _
      refine wpAny_bind (wpAny_rule (wpAny_pure ?_))
      exact hR d _ tk (fun _ => rfl) (fun z => absurd z (by omega)) fun b o hbw hbS e => hk' b o hbw e
    | succ j =>
      obtain ⟨vb, rfl, hPb⟩ := hB
      show wpAny _ A.in1 (updateSeq S (fun _ => #[]) >>= _) _ _ _
      refine wpAny_bind ?_
      refine wpAny_updateSeq hS' rfl (wpAny_bind (wpAny_letGo (wpAny_pure ?_)))
      exact hR vb _ tk (fun z => by omega) (fun _ => by rw [← hin]; exact hPb) fun b o hbw hbS e => (Heap.get?_update_other _ _ (Ne.symm hbS)).trans (hk' b o hbw e)
  | succ k ih =>
    intro j s l c hk hj hst hB hS hR
    have hlt : j < n := by omega
    refine codeAny_builtin F.entry_max_loop ?_
    rw [Around.under_plainId F.plain_max_loop _]
    show wpAny _ A.in1 (seqItems? (.ref S) >>= _) _ _ s
    refine wpAny_bind (wpAny_seqItems hS rfl ?_)
    show wpAny _ A.in1 (tryCatch (pyNext (.ref I)) _ >>= _) _ _ s
    refine wpAny_bind (wpAny_tryCatch (W.item j s _ _ hlt hst fun v h' tk hP hst' hk' => ?_))
    have hS' := hk' S _ hSw hS
    have put : ∀ x : Value, P (argBest bt j) x → codeAny (model prog w) A (.builtin "max.loop" ⟨[.ref I, .none, .ref S], [("default", d)]⟩) R { s with heap := h'.update S (Obj.mapSeq fun _ => #[x, x]), toks := tk } := fun x hx =>
      ih (j + 1) _ [x, x] _ (by omega) hlt (W.frame _ _ _ hst' fun b hbf o e => (Heap.get?_update_other _ _ (fun h : S = b => hSf (by rw [h]; exact hbf))).trans e) ⟨x, rfl, hx⟩ (Heap.get?_update_self _ hS' rfl)
        fun v' h'' tk'' h0 hP' hk'' => hR v' h'' tk'' h0 hP' fun b o hbw hbS e => hk'' b o hbw hbS ((Heap.get?_update_other _ _ (Ne.symm hbS)).trans (hk' b o hbw e))
    cases j with
    | zero =>
      obtain rfl : l = [] := hB
      show wpAny _ A.in1 (updateSeq S (fun _ => #[v, v]) >>= _) _ _ _
      refine wpAny_bind ?_
      refine wpAny_updateSeq hS' rfl ?_
      rw [max_nm]
      exact wpAny_pure ⟨plainId_quiet F.plain_max_loop _, put v hP⟩
    | succ j =>
      obtain ⟨vb, rfl, hPb⟩ := hB
      show wpAny _ A.in1 (tryCatch (holding [v, v] (richCompare .Gt v vb >>= _)) _ >>= _) _ _ _
      refine wpAny_bind (wpAny_tryCatch (wpAny_holding (wpAny_bind (hcmp (j + 1) (argBest bt j) v vb _ _ _ hP hPb ?_))))
      refine wpAny_bind (wpAny_holding (wpAny_truthy_bool ?_))
      refine wpAny_bind (wpAny_letGo (wpAny_pure ?_))
      cases hb : bt (j + 1) (argBest bt j) with
      | true =>
        simp only [if_true]
        refine wpAny_bind ?_
        refine wpAny_updateSeq hS' rfl (wpAny_bind (wpAny_letGo ?_))
        rw [max_nm]
        exact wpAny_pure ⟨plainId_quiet F.plain_max_loop _, put v (by simp only [argBest, hb, if_true]; exact hP)⟩
      | false =>
        simp only [Bool.false_eq_true, if_false]
        refine wpAny_bind (wpAny_letGo ?_)
        rw [max_nm]
        refine wpAny_pure ⟨plainId_quiet F.plain_max_loop _, ih (j + 2) _ [vb, vb] c (by omega) hlt hst' ⟨vb, rfl, by simp only [argBest, hb, Bool.false_eq_true, if_false]; exact hPb⟩ hS' fun v' h'' tk'' h0 hP' hk'' => ?_⟩
        exact hR v' h'' tk'' h0 hP' fun b o hbw hbS e => hk'' b o hbw hbS (hk' b o hbw e)
end
section
variable {prog : Program} {w : World} {A : Around} {E : Value → Shared → Prop} {s : Shared}
theorem max_df_raw {l : Addr} {its : List Value} {ns : List Int} {d : Value} {Q : Value → Shared → Prop} (hh : A.handled = none) (hl : s.heap.IsList l its.toArray) (hi : IntsAre its ns)
    (h : ∀ h' tk v, (∀ b o, s.heap.get? b = some o → h'.get? b = some o) → (ns = [] → v = d) → (0 < ns.length → ∃ M t', v = .int M t' ∧ M ∈ ns ∧ (∀ a, a ∈ ns → a ≤ M)) → Q v { s with heap := h', toks := tk }) : wpAny (model prog w) A (call (.builtin "max") [.ref l] [("default", d)]) Q E s := by
  obtain ⟨xs, e⟩ := hi.allInts.items
  have hn : numsOf (intItems xs).toList = ns := by rw [← e]; exact hi.numsOf
  rw [nums_intItems] at hn
  subst hn
  rw [e] at hl
  refine fn_tree_kw F.kind_max F.plain_max F.entry_max (args_max_df _ _) ?_
  show wpAny _ A.in1 (Builtin.Builtins.bindParams "max" ["key", "default"] 0 ⟨[], [("default", d)]⟩ >>= _) _ _ s
  refine wpAny_bind (wpAny_of_eq (show Builtin.Builtins.bindParams "max" ["key", "default"] 0 ⟨[], [("default", d)]⟩ = pure [none, some d] from rfl) ?_)
  refine wpAny_bind (wpAny_pure ?_)
  refine wpAny_bind (iter_intList hl fun s₂ e st hfp hlI => ?_)
  refine wpAny_bind (wpAny_newObj_type ?_)
  have W := Walks.list (prog := prog) (w := w) (A := A.in1) hh _ l hlI (intItems xs)
  have hSf : s₂.heap.objs.size ∉ [s.heap.objs.size, l] := fun hm => Nat.lt_irrefl _ (hfp _ hm)
  rw [max_nm]
  refine wpAny_pure ⟨plainId_quiet F.plain_max_loop _, max_loop_df W _ (CmpOf.ints_gt (numAt xs) (fun _ _ => intItems_at)) s₂.heap.objs.size hSf _ 0 _ [] _ rfl (Nat.zero_le _) (W.frame _ _ _ st fun b _ o e => Heap.get?_push_of_some _ e) rfl (Heap.get?_push_size _ rfl) fun v h' tk h0 hP hk => ?_⟩
  subst e
  have key := old_kept (h' := h') (fun b o hbw (e : _ = some o) => hk b o hbw (Nat.ne_of_lt (Heap.lt_size e)) (Heap.get?_push_of_some _ e))
  refine h h' tk v key (fun z => h0 ?_) (fun z => ?_)
  · have := congrArg List.length z
    simpa [intItems] using this
  · have hsz : 0 < xs.size := by simpa using z
    have hv := hP (by simpa [intItems] using hsz)
    obtain ⟨t, rfl⟩ := intItems_at hv
    obtain ⟨h1, h2⟩ := argBest_gt (numAt xs) (xs.size - 1)
    have hz' : (intItems xs).size = xs.size := by simp [intItems]
    rw [hz']
    refine ⟨_, t, rfl, ?_, fun a ha => ?_⟩
    · rw [numAt_eq]; exact PySem.getD_mem (by rw [List.length_map, Array.length_toList]; omega)
    · obtain ⟨j, hj, rfl⟩ := mem_getD ha
      rw [List.length_map, Array.length_toList] at hj
      rw [← numAt_eq]; exact h2 j (by omega)
end
section
variable {X : Cx}
def topI (d : Int) (ns : List Int) : Int := match ns with
  | [] => d
  | n :: r => r.foldl max n
def rMaxDf (K : PySem.W.Frag) : List V → List V → Hp → VK → Prop := fun xs zs H Q => ∃ (a : Addr) (ns : List Int) (d : Int), xs = [V.ref a] ∧ zs = [V.int d] ∧ SqL K H a (ns.map V.int) ∧ (ns = [] → Q (.int d) H) ∧ (∀ m, m ∈ ns → (∀ y, y ∈ ns → y ≤ m) → Q (.int m) H)
theorem cr_max_df (hc : X.calm = true) : CallRK X (.builtin "max") ["default"] (rMaxDf X.K) := by
  intro pins s σ H xs zs us ws Q I r rz h
  obtain ⟨a, ns, d, rfl, rfl, hs, q0, q⟩ := h
  obtain ⟨its, rv, hl, _⟩ := I.list hs
  rw [Vals.ref1 r]
  obtain ⟨dv, rfl, t, rfl⟩ : ∃ dv, ws = [dv] ∧ ∃ t, dv = .int d t := by
    cases rz with
    | cons h t => cases t; exact ⟨_, rfl, h⟩
  refine max_df_raw (I.ok.hd hc) hl.isList rv.ints fun h' tk v hk e0 e1 => ?_
  cases ns with
  | nil => exact ⟨.int d, H, I.kept hk, ⟨t, e0 rfl⟩, q0 rfl⟩
  | cons n ns =>
    obtain ⟨M, t', rfl, h1, h2⟩ := e1 (by simp)
    exact ⟨.int M, H, I.kept hk, ⟨_, rfl⟩, q M h1 h2⟩
end
end Lf
set_option maxHeartbeats 4000000
/-! d.update(e) -/
namespace Lf
open PySem PySem.Spec PyProof.Rows L2 Evl
theorem putK_len (kvs : List (Key × V)) (k : Key) (v : V) : (putK kvs k v).length ≤ kvs.length + 1 := by
  unfold putK
  split <;> simp
theorem mergeK_len (more : List (Key × V)) : ∀ kvs : List (Key × V), (mergeK kvs more).length ≤ kvs.length + more.length := by
  induction more with
  | nil => intro kvs; exact Nat.le_refl _
  | cons a t ih =>
    intro kvs
    have := ih (putK kvs a.1 a.2)
    have h2 := putK_len kvs a.1 a.2
    show (mergeK (putK kvs a.1 a.2) t).length ≤ _
    rw [List.length_cons]
    omega
def rDUpd : V → List V → Hp → VK → Prop := fun x vs H Q => ∃ (a b : Addr) (kvs more : List (Key × V)), x = .ref a ∧ vs = [.ref b] ∧ a ≠ b ∧ H a = some (.dK kvs) ∧ H b = some (.dK more) ∧ kvs.length + more.length ≤ sizeLine ∧ Q .non (upd H a (.dK (mergeK kvs more)))
theorem mtd_update {X : Cx} : MtR X "dict.update" rDUpd := by
  intro pins s σ H x vs v us Q I rx rv h
  obtain ⟨a, b, kvs, more, rfl, rfl, hab, ea, eb, hz, q⟩ := h
  obtain rfl : v = Value.ref a := rx
  rw [Vals.ref1 rv]
  obtain ⟨z, hd, vs, rel, dd⟩ := dk_of I.hok ea
  obtain ⟨z2, hd2, vs2, rel2, dd2⟩ := dk_of I.hok eb
  refine call_meetsIn PySem.F.slot_dict_update dd.typeIs PySem.F.entry_dict_update (PySem.F.args_dict_update_2 _ _) (meets_dict_update (mixKind X.prog X.w) a b hab hd2) ⟨vs, vs2, dd, dd2, by rw [← rel.length, ← rel2.length]; exact hz, fun h' dd' _ hs => ?_⟩
  have he : ∃ q, h'.get? a = some q := let ⟨q, _, _, hq, _⟩ := dd'; ⟨q, hq⟩
  exact ⟨.non, _, d_write (t' := s.toks) I (by rw [ea]; exact True.intro) hs he (dk_new (Nat.le_trans (mergeK_len _ _) hz) hd (KV.merge rel2 rel) dd'), rfl, q⟩
section
variable {X : Cx} {o e : Expr} {es : List Expr} {to : TE} {t : TA} {apos cpos : Pos}
theorem pe_dupdate (ho : PE X o to) (ha : PA X (e :: es) t) (hbase : attributeBase o "update" X.env (eval o X.env) = eval o X.env := by rfl)
    (hfew : ((backTo cpos (starEach (e :: es) X.env)).all (fun x => !x.1) && (backToKw cpos (keywordEach [] X.env)).all (fun x => x.1.isSome)
      && decide ((e :: es).length + ([] : List Keyword).length + (if ([] : List Keyword).isEmpty then 0 else 1) < 30)) = true := by rfl)
    (hline : (apos.endLine == cpos.line) = true := by rfl) (hs : starEach (e :: es) X.env = (false, eval e X.env) :: starEach es X.env := by rfl) (hplain : (backTo cpos (starEach es X.env)).any (·.1) = false := by rfl) :
    PE X (.Call (.Attribute o "update" apos) (e :: es) [] cpos) (tBM X.K "dict" rDUpd to t) :=
  pe_bm PySem.F.plainAttrs_dict PySem.F.slot_dict_update PySem.F.type_dict_update mtd_update ho ha hbase hfew hline hs hplain
end
end Lf
set_option maxHeartbeats 4000000
/-! enumerate(tuple) -/
namespace Lf
open PySem PySem.Spec PyProof.Rows L2 Evl
theorem draws_tuple {prog : Program} {w : World} {A : Around} (hh : A.handled = none) (it l : Addr) (hne : l ≠ it) (items : Array Value) :
    Draws prog w A it [it, l] items.size (fun i v => items[i]? = some v) (fun i h => h.IsTupleIter it l i ∧ h.IsTuple l items) where
  live := fun _ _ st => let ⟨o, ho, _⟩ := st.1; ⟨o, ho⟩
  frame := fun _ _ _ st hk => ⟨st.1.at fun o e => hk it (by simp) o e, let ⟨o, ho, r⟩ := st.2; ⟨o, hk l (by simp) o ho, r⟩⟩
  item := fun i s Q E hi st hQ => by
    refine RZ.nextOf_tuple_item st.1 st.2 (x := items[i]) (by simp [hi]) fun h' hit' hs' => ?_
    exact hQ _ h' s.toks (by simp [hi]) ⟨hit', let ⟨o, ho, r⟩ := st.2; ⟨o, (hs'.2 l hne).trans ho, r⟩⟩ hs'
  done := fun s Q E st hE => RZ.nextOf_tuple_end hh st.1 st.2 (by simp) hE
open AutoSeq1 (wpAny_loadPart') in
theorem enum_newT (l : Addr) (items : Array Value) (o : Obj) (hc : o.cls = .type "tuple") (hd : ∃ n, o.data = .seq items n) :
    Meets (Builtin.«enumerate.__new__» ⟨[.type "enumerate", .ref l], []⟩) (fun _ R s => s.heap.get? l = some o ∧
      R (.ok (.ret (.ref (s.heap.push { cls := .type "tuple_iterator", data := .fields #[.ref l, .int 0 0] }).objs.size)))
        { s with heap := (s.heap.push { cls := .type "tuple_iterator", data := .fields #[.ref l, .int 0 0] }).push { cls := .type "enumerate", data := .fields #[.none, .bool false, .ref s.heap.objs.size, rawInt 0, .none, .none] } }) :=
  .of_wp fun prog w A R s h => by
    obtain ⟨hp, g, d, tk, os⟩ := s; obtain ⟨hl, h⟩ := h
    have hsub := sub_enumerate
    have hL : Heap.IsTuple (Shared.heap ⟨hp, g, d, tk, os⟩) l items := ⟨o, hl, hc, hd⟩
    wp_walk using wpAny_loadPart' hl
    refine wpAny_stack_any fun st => wpAny_pure ?_
    split
    · rename_i c _ _ _ _ _
      cases (c == Value.type "enumerate")
      · wp_walk using wpAny_loadPart' hl, wpAny_pyIter_tuple hL
        exact ⟨_, rfl, h⟩
      · wp_walk using wpAny_loadPart' hl, wpAny_pyIter_tuple hL
        exact ⟨_, rfl, h⟩
    · wp_walk using wpAny_loadPart' hl, wpAny_pyIter_tuple hL
      exact ⟨_, rfl, h⟩
section
variable {prog : Program} {w : World} {A : Around} {E : Value → Shared → Prop} {s : Shared}
theorem call_enum_tuple {l : Addr} {items : Array Value} {Q : Value → Shared → Prop} (hL : s.heap.IsTuple l items)
    (h : ∀ h', IsEnum h' (s.heap.objs.size + 1) s.heap.objs.size 0 .none → h'.IsTupleIter s.heap.objs.size l 0 → h'.objs.size = s.heap.objs.size + 2 →
      (∀ b o, s.heap.get? b = some o → h'.get? b = some o) → Q (.ref (s.heap.objs.size + 1)) { s with heap := h' }) :
    wpAny (model prog w) A (call (.type "enumerate") [.ref l]) Q E s := by
  obtain ⟨o, hl, hc, hd⟩ := hL
  refine callType_new F.called_enumerate (by decide) (F.typeCall_enumerate_1 _) (F.newCall_enumerate_1 _) (fun obj => F.args_object_init_2 obj _) F.entry_enumerate_new
    (enum_newT l items o hc hd) ⟨hl, ?_⟩
  have hz : (s.heap.push { cls := .type "tuple_iterator", data := .fields #[.ref l, .int 0 0] }).objs.size = s.heap.objs.size + 1 := Heap.size_push ..
  show _ ∧ _
  rw [hz]
  have he : IsEnum ((s.heap.push { cls := .type "tuple_iterator", data := .fields #[.ref l, .int 0 0] }).push
      { cls := .type "enumerate", data := .fields #[.none, .bool false, .ref s.heap.objs.size, rawInt 0, .none, .none] }) (s.heap.objs.size + 1) s.heap.objs.size 0 .none := by
    have := Heap.get?_push_size (s.heap.push { cls := .type "tuple_iterator", data := .fields #[.ref l, .int 0 0] })
      (o := { cls := .type "enumerate", data := .fields #[.none, .bool false, .ref s.heap.objs.size, rawInt 0, .none, .none] }) rfl
    rw [hz] at this; exact this
  exact ⟨⟨_, he, rfl⟩, h _ he ⟨_, Heap.get?_push_of_some _ (Heap.get?_push_size _ rfl), rfl, rfl⟩ (by rw [Heap.size_push, hz]) fun b o x => Heap.get?_push_of_some _ (Heap.get?_push_of_some _ x)⟩
end
/-- the tuple at a, each item in a new pair -/
def IteT (K : PySem.W.Frag) (a : Addr) : It :=
  ⟨fun i H => ∃ (xs : List V) (x : V), SqT K H a xs ∧ xs[i]? = some x, fun i H v H' => ∃ T x, v = .ref T ∧ H T = none ∧ H' = upd H T (.tup [.int (i : Nat), x]) ∧ ∀ xs, SqT K H a xs → xs[i]? = some x, fun i H => ∃ xs : List V, SqT K H a xs ∧ xs.length = i⟩
theorem tup_apart {h : Heap} {a b : Addr} {items : Array Value} {o : Obj} {c : String} (ha : h.IsTuple a items) (hb : h.get? b = some o) (hc : o.cls = .type c) (hn : c ≠ "tuple") : a ≠ b := fun z => by
  obtain ⟨o', e, hc', _⟩ := ha
  rw [z, hb] at e
  cases e
  rw [hc] at hc'
  cases hc'
  exact hn rfl
theorem turn_enumT {P : Program} {w : World} {K : PySem.W.Frag} {elts : List Expr} {kk : Nat} {tpos : Pos} (a e it : Addr) :
    Turn P w K (.Tuple elts kk tpos) (IteT K a) [e, it] e (fun i h => (∃ old, IsEnum h e it ((i : Nat) : Int) old) ∧ h.IsTupleIter it a i ∧ e ≠ it) where
  mem := by simp
  obj := fun i h st b hb => by
    obtain ⟨⟨old, he⟩, ⟨o, ho, hc, hd⟩, _⟩ := st
    have e' : b = e ∨ b = it := by simpa using hb
    rcases e' with z | z
    · rw [z]; exact ⟨_, he, fun v q => nomatch q⟩
    · rw [z]; exact ⟨o, ho, fun v q => by rw [hd] at q; cases q⟩
  keep := fun i h h' st k => let ⟨⟨old, he⟩, hi, hne⟩ := st; ⟨⟨old, k e (by simp) _ he⟩, hi.at fun o q => k it (by simp) o q, hne⟩
  item := by
    intro X hP hw hK hc i pins s σ H E I hf st hg
    subst hP hw hK
    obtain ⟨⟨old, he⟩, hit, hne⟩ := st
    obtain ⟨xs, x, hq, hx⟩ := hg
    obtain ⟨its, rv, p, hz⟩ := I.tuple hq
    have p : s.heap.IsTuple a its.toArray := p
    obtain ⟨u, hu, ru⟩ := rv.get hx
    have hel : e < s.heap.objs.size := Heap.lt_size he
    have hil : it < s.heap.objs.size := by obtain ⟨_, q, _⟩ := hit; exact Heap.lt_size q
    have hae : a ≠ e := tup_apart p he rfl (by decide)
    have hai : a ≠ it := by obtain ⟨oi, hoi, hci, _⟩ := hit; exact tup_apart p hoi hci (by decide)
    have hlt : i < its.toArray.size := by
      have := (List.getElem?_eq_some_iff.mp hu).1
      simpa using this
    refine wpAny_pyNext_enum_itemD (draws_tuple (A := X.A.in1) (I.ok.hd hc) it a hai its.toArray) he ⟨hit, p⟩ hlt hne (by simp [hne, Ne.symm hae]) fun y h' tk hP ho hst' hT hsz hk => ?_
    obtain rfl : u = y := by
      have : its[i]? = some y := by simpa using hP
      rw [hu] at this
      exact Option.some.inj this
    refine ⟨_, rfl, wpAny_letOwnedTupleGo_enum (s := { s with heap := h', toks := tk + 1 }) ho fun h'' he' sb => ?_⟩
    have hT2 : h''.get? s.heap.objs.size = some { cls := .type "tuple", data := .seq #[.int i tk, u] } := (sb.2 _ (Nat.ne_of_gt hel)).trans hT
    have new : ObjOk X.prog X.w (upd H s.heap.objs.size (.tup [.int (i : Nat), x])) h'' s.heap.objs.size (.tup [.int (i : Nat), x]) :=
      ⟨by show 2 ≤ sizeLine; decide, [.int i tk, u], .cons ⟨_, rfl⟩ (.cons ru .nil), ⟨_, hT2, rfl, _, rfl⟩⟩
    have I1 : Inv X pins σ (upd H s.heap.objs.size (.tup [.int (i : Nat), x])) { s with heap := h'', toks := tk + 1 } :=
      I.turnedNew (ch := [e, it]) (fun b ob hb q => (sb.2 b (fun z => hb (by simp [z]))).trans (hk b ob (fun z => hb (by simp [z])) (fun z => hb (by simp [z])) q)) hf (Nat.le_refl _) new
    refine ⟨.ref s.heap.objs.size, _, I1, rfl, ⟨_, x, rfl, I.hok.fresh (Nat.le_refl _), rfl, fun ys hy => by rw [I.tuple_inj hy hq]; exact hx⟩, ⟨⟨u, ?_⟩, hst'.1.at fun o q => (sb.2 it (Ne.symm hne)).trans q, hne⟩, fun b hb => ?_⟩
    · have e1 : ((i + 1 : Nat) : Int) = (i : Int) + 1 := by omega
      rw [e1]; exact he'
    · have hb' : b < s.heap.objs.size := by
        have e' : b = e ∨ b = it := by simpa using hb
        rcases e' with z | z
        · rw [z]; exact hel
        · rw [z]; exact hil
      rw [upd_ne (Nat.ne_of_lt hb')]
      exact (hf b hb).1
  done := by
    intro X hP hw hK hc i pins s σ H E I hf st hg
    subst hP hw hK
    obtain ⟨⟨old, he⟩, hit, hne⟩ := st
    obtain ⟨xs, hq, hx⟩ := hg
    obtain ⟨its, rv, p, hz⟩ := I.tuple hq
    have p : s.heap.IsTuple a its.toArray := p
    obtain ⟨f0, f1, f2, f3, f4, f5⟩ := hf it (by simp)
    have hl := rv.length
    have hai : a ≠ it := by obtain ⟨oi, hoi, hci, _⟩ := hit; exact tup_apart p hoi hci (by decide)
    have hn : its.toArray.size = i := by simp; omega
    exact wpAny_pyNext_enum_endD (draws_tuple (A := X.A.in1) (I.ok.hd hc) it a hai its.toArray) he ⟨by rw [hn]; exact hit, p⟩ fun h' eb => ⟨rfl, I.turned (t' := s.toks) (fun b o hb q => eb b o hb q) f0 f1 f3 f4 f5⟩
  self := fun A i s Q E st h => let ⟨⟨_, he⟩, _⟩ := st; wpAny_pyIter_enum he h
def iEnumT (K : PySem.W.Frag) (ta : TA) : TI := fun σ H R => ta σ H fun vs H1 => ∃ a xs, vs = [.ref a] ∧ SqT K H1 a xs ∧ R (IteT K a) H1
theorem pi_enumT {X : Cx} {e : Expr} {ta : TA} {p pos tpos : Pos} {elts : List Expr} {kk : Nat} (hg : Gl X "enumerate") (hm : X.mg "enumerate" = none) (ha : PA X [e] ta) (hs : starEach [e] X.env = [(false, eval e X.env)] := by rfl) :
    PI X (.Tuple elts kk tpos) (.Call (.Name "enumerate" p) [e] [] pos) (iEnumT X.K ta) := by
  refine ⟨fun pins s σ H R I h => ?_⟩
  refine Call_ (ld_blt I hg hm boot_enumerate (PyProof.Rows.callWith_type1 (thn (ha.run pos pins s σ H _ I h) fun us s1 ⟨vs, H1, I1, r1, q1⟩ => ?_) hs rfl))
  obtain ⟨a, xs, ex, hq, q⟩ := q1
  subst ex
  cases r1 with
  | cons r rr =>
    cases rr
    cases r
    obtain ⟨its, rv, p', hz⟩ := I1.tuple hq
    refine call_enum_tuple (show s1.heap.IsTuple a its.toArray from p') fun h' he hit hsz hk => wpAny_pyIter_enum he ?_
    have I2 : Inv X pins σ H1 { s1 with heap := h' } := I1.kept (t' := s1.toks) hk
    refine ⟨s1.heap.objs.size + 1, [s1.heap.objs.size + 1, s1.heap.objs.size], _, _, H1, rfl, I2, turn_enumT a (s1.heap.objs.size + 1) s1.heap.objs.size, ⟨⟨.none, he⟩, hit, Nat.succ_ne_self _⟩, fun b hb => ?_, q⟩
    have e' : b = s1.heap.objs.size + 1 ∨ b = s1.heap.objs.size := by simpa using hb
    have hle : s1.heap.objs.size ≤ b := by
      rcases e' with z | z
      · rw [z]; exact Nat.le_add_right _ _
      · rw [z]; exact Nat.le_refl _
    exact I1.fpOk hle (I1.hok.fresh hle)
end Lf
set_option maxHeartbeats 4000000
/-! [e for x, y in zip(s, t)] of tuples of data; texts: ' '.join(l), t.split(' '); [*l, ..] -/
namespace Lf
open PySem L2 Evl
theorem walk_zipT {K : PySem.W.Frag} {a b : Addr} {xs ys : List V} {n : Nat} (hn : n = min xs.length ys.length) : Walk (RZ.ItzT K a b) n (fun H => SqT K H a xs ∧ SqT K H b ys) (YPair (fun i => xs[i]?) (fun i => ys[i]?)) := by
  subst hn
  refine ⟨fun i _ hi q => ?_, fun _ q => ⟨xs, ys, q.1, q.2, by omega⟩, fun i H v H' _ q y => ?_⟩
  · have h1 : i < xs.length := by omega
    have h2 : i < ys.length := by omega
    exact ⟨xs, ys, xs[i], ys[i], q.1, q.2, by simp [h1], by simp [h2]⟩
  · obtain ⟨T, x, z, h1, h2, h3, h4, h5⟩ := y
    exact ⟨T, x, z, h1, h2, h3, h4 xs q.1, h5 ys q.2⟩
theorem LcI.up {G1 H1 H' H2 : Hp} {D : Addr} {ds : List PyData} (I : LcI G1 H1 D H' ds) (x : Ex H' H2) : LcI G1 H1 D H2 ds := by
  obtain ⟨⟨G', ys, r, h1, h2, h3⟩, fr⟩ := I
  exact ⟨⟨G', ys, r.trans (Gr.keep r.s x), h1, x _ _ h2, h3⟩, fr⟩
section
variable {K : PySem.W.Frag} {σ : L2.St} {G : Hp} {ta tb te : TE} {ds es : List PyData}
theorem evd_lcZ {i j : Nat} {vs : List Nat} (f : PyData → PyData → PyData) (ha : EvD ta σ G (.tuple ds)) (hb : EvD tb σ G (.tuple es)) (hz : ds.length ≤ 50000) (hw : ∀ x y, wipe (((wipe σ vs).set i (some x)).set j (some y)) vs = wipe σ vs)
    (he : ∀ p ∈ ds.zip es, ∀ x y G1, Ex G G1 → Da G1 x p.1 → Da G1 y p.2 → EvD te (((wipe σ vs).set i (some x)).set j (some y)) G1 (f p.1 p.2)) :
    EvD (tLc (RZ.iZipA K (tCons ta (tCons tb tNil))) (gTup K 2 (gCons (gName i) (gCons (gName j) gNil))) tYes te vs) σ G (.list ((ds.zip es).map fun p => f p.1 p.2)) := fun G0 H0 x0 s0 Q q => ha G0 H0 x0 s0 _ fun v0 G1 H1 r1 hd1 => hb G1 H1 (x0.trans r1.g) r1.s _ fun v2 G2 H2 r2 hd2 => by
  obtain ⟨a, xs, rfl, ea, hs⟩ := (hd1.up r2.g).tup_
  obtain ⟨b, ys, rfl, eb, ht⟩ := hd2.tup_
  have r := r1.trans r2
  have hmin : (ds.zip es).length = min xs.length ys.length := by rw [List.length_zip, hs.len, ht.len]
  refine ⟨a, b, xs, ys, rfl, .inr ⟨SqT.of (r.s _ _ ea), SqT.of (r.s _ _ eb), fun D hD => lc_it (walk_zipT (n := (ds.zip es).length) hmin) (fun k H' => LcI G2 H2 D H' ((((ds.zip es).take k).filter fun _ => true).map fun p => f p.1 p.2)) (LcI.start r.s hD) (fun k H' _ I => ⟨SqT.of (I.sub _ _ ea), SqT.of (I.sub _ _ eb)⟩) ?_ ?_⟩⟩
  · rintro k x H' H'' hk I ⟨T, x1, y1, rfl, hT, rfl, e1, e2⟩
    obtain ⟨d1, hi1, hv1⟩ := hs.at e1
    obtain ⟨d2, hi2, hv2⟩ := ht.at e2
    have hp : (ds.zip es)[k]? = some (d1, d2) := by rw [List.getElem?_zip_eq_some]; exact ⟨hi1, hi2⟩
    have xT : Ex H' (upd H' T (.tup [x1, y1])) := Ex.new hT
    have I2 := I.up xT
    refine ⟨T, [x1, y1], rfl, SqT.of upd_same, rfl, x1, [y1], rfl, y1, [], rfl, rfl, hw x1 y1, ?_⟩
    exact I2.turn hp (by rw [List.length_zip]; omega) (et_yes (b := true)) (fun _ => he _ (List.mem_of_getElem? hp) x1 y1 G2 (x0.trans r.g) hv1 hv2) fun H3 I3 => I3
  · rintro H' I
    rw [List.take_length, List.filter_eq_self.mpr (fun _ _ => rfl)] at I
    obtain ⟨G3, r3, h3⟩ := I.done
    exact q (.ref D) G3 H' (r.trans r3) h3
end
end Lf
set_option maxHeartbeats 4000000
/-! (*t, ..), [*l, ..] of data; [e for x in t for y in l] -/
namespace Lf
open PySem L2 Evl StX
section
variable {K : PySem.W.Frag} {σ : L2.St} {G : Hp} {ta tb te tl t1 : TE} {tr : TA} {ds es : List PyData}
theorem evd_starT (h : EvD te σ G (.tuple ds)) (hr : EvDs tr σ G es) : EvDs (tStar K te tr) σ G (ds ++ es) := fun G1 H1 x s Q q => h G1 H1 x s _ fun v G2 H2 r hd => by
  obtain ⟨a, xs, rfl, e, hs⟩ := hd.tup_
  exact ⟨a, xs, rfl, .inl (SqT.of (r.s _ _ e)), hr G2 H2 (x.trans r.g) r.s _ fun vs G3 H3 r3 hds => q (xs ++ vs) G3 H3 (r.trans r3) ((hs.up r3.g).app hds)⟩
theorem evd_starL (h : EvD te σ G (.list ds)) (hr : EvDs tr σ G es) : EvDs (tStar K te tr) σ G (ds ++ es) := fun G1 H1 x s Q q => h G1 H1 x s _ fun v G2 H2 r hd => by
  obtain ⟨a, xs, rfl, e, hs⟩ := hd.lst_
  exact ⟨a, xs, rfl, .inr (SqL.of (r.s _ _ e)), hr G2 H2 (x.trans r.g) r.s _ fun vs G3 H3 r3 hds => q (xs ++ vs) G3 H3 (r.trans r3) ((hs.up r3.g).app hds)⟩
/-- what a comprehension of two clauses has made, while the inner one walks a list known in G2 -/
structure LcJ (G1 H1 G2 : Hp) (D : Addr) (H' : Hp) (ds : List PyData) : Prop where
  w : ∃ G' ys, Gr G1 H1 G' H' ∧ Ex G2 G' ∧ G' D = none ∧ H' D = some (.lst ys) ∧ DaAll G' ys ds
theorem evd_lc2 {i j : Nat} {vs vs1 : List Nat} (ess : PyData → List PyData) (f : PyData → PyData → PyData) (h : EvD tl σ G (.tuple ds)) (hz : (ds.flatMap ess).length ≤ 50000) (hw : ∀ x, wipe ((wipe σ vs).set i (some x)) vs = wipe σ vs)
    (h1 : ∀ d ∈ ds, ∀ v G1, Ex G G1 → Da G1 v d → EvD t1 ((wipe σ vs).set i (some v)) G1 (.list (ess d))) (hw1 : ∀ v y, wipe ((wipe ((wipe σ vs).set i (some v)) vs1).set j (some y)) vs1 = wipe ((wipe σ vs).set i (some v)) vs1)
    (he : ∀ d ∈ ds, ∀ e ∈ ess d, ∀ v y G1, Ex G G1 → Da G1 v d → Da G1 y e → EvD te ((wipe ((wipe σ vs).set i (some v)) vs1).set j (some y)) G1 (f d e)) :
    EvD (tLc2 (iTup K tl) (gName i) tYes (iList K t1) (gName j) tYes te vs vs1) σ G (.list (ds.flatMap fun d => (ess d).map (f d))) := fun G0 H0 x0 s0 Q q => h G0 H0 x0 s0 _ fun v0 G1 H1 r1 hd => by
  obtain ⟨a, xs, rfl, ea, hs⟩ := hd.tup_
  refine ⟨a, rfl, ⟨xs, SqT.of (r1.s _ _ ea)⟩, fun D hD => ⟨fun k m H' => m = xs.length - k ∧ k ≤ xs.length ∧ LcI G1 H1 D H' ((ds.take k).flatMap fun d => (ess d).map (f d)), ⟨xs.length, by simp, Nat.zero_le _, LcI.start r1.s hD⟩, ?_⟩⟩
  rintro k m H' ⟨rfl, hk, I⟩
  by_cases hlt : k < xs.length
  · obtain ⟨x, hx⟩ : ∃ x, xs[k]? = some x := ⟨_, List.getElem?_eq_getElem hlt⟩
    obtain ⟨d, hdi, hdv⟩ := hs.at hx
    have mem := List.mem_of_getElem? hdi
    have etake : ds.take (k + 1) = ds.take k ++ [d] := take_da hdi
    have hsum : ((ds.take k).flatMap ess).length + (ess d).length ≤ 50000 := by
      have : (ds.flatMap ess).length = ((ds.take (k + 1)).flatMap ess).length + ((ds.drop (k + 1)).flatMap ess).length := by
        rw [← List.length_append, ← List.flatMap_append, List.take_append_drop]
      rw [etake, List.flatMap_append, List.length_append] at this
      have e1 : ([d].flatMap ess).length = (ess d).length := by simp
      omega
    have lenM : ∀ l : List PyData, (l.flatMap fun d => (ess d).map (f d)).length = (l.flatMap ess).length := fun l => by
      induction l with
      | nil => rfl
      | cons b l ih => rw [List.flatMap_cons, List.flatMap_cons, List.length_append, List.length_append, ih, List.length_map]
    refine .inr ⟨⟨xs, x, SqT.of (I.sub _ _ ea), hx⟩, fun H3 => LcI G1 H1 D H3 ((ds.take (k + 1)).flatMap fun d => (ess d).map (f d)), fun H3 I3 => ⟨xs.length - (k + 1), by omega, rfl, hlt, I3⟩, ?_⟩
    rintro x' H3 ⟨rfl, hx'⟩
    have ex : x' = x := Option.some.inj ((hx' xs (SqT.of (I.sub _ _ ea))).symm.trans hx)
    subst ex
    refine ⟨hw x', ?_⟩
    dsimp only [tYes]
    rw [if_pos rfl]
    obtain ⟨G', ys, r, g1, g2, g3⟩ := I.w
    refine h1 d mem x' G' ((x0.trans r1.g).trans r.g) (hdv.up r.g) G' H3 (Ex.refl _) r.s _ fun v1 G2 H4 r2 hd1 => ?_
    obtain ⟨b, zs, rfl, eb, hzs⟩ := hd1.lst_
    refine ⟨b, rfl, ⟨zs, SqL.of (r2.s _ _ eb)⟩, fun j' m' H5 => m' = zs.length - j' ∧ j' ≤ zs.length ∧ LcJ G1 H1 G2 D H5 (((ds.take k).flatMap fun d => (ess d).map (f d)) ++ ((ess d).take j').map (f d)), ⟨zs.length, by simp, Nat.zero_le _, ⟨G2, ys, r.trans r2, Ex.refl _, r2.n D (by rw [g2]; simp) g1, r2.h _ _ g2, by simpa using g3.up r2.g⟩⟩, ?_⟩
    rintro j' m' H5 ⟨rfl, hj, J⟩
    obtain ⟨G5, ys5, r5, x5, n5, d5, a5⟩ := J.w
    by_cases hlt2 : j' < zs.length
    · obtain ⟨z, hzj⟩ : ∃ z, zs[j']? = some z := ⟨_, List.getElem?_eq_getElem hlt2⟩
      obtain ⟨e, hei, hev⟩ := hzs.at hzj
      refine .inr ⟨⟨zs, z, SqL.of (r5.s _ _ (x5 _ _ eb)), hzj⟩, fun H6 => LcJ G1 H1 G2 D H6 (((ds.take k).flatMap fun d => (ess d).map (f d)) ++ ((ess d).take (j' + 1)).map (f d)), fun H6 J6 => ⟨zs.length - (j' + 1), by omega, rfl, hlt2, J6⟩, ?_⟩
      rintro z' H6 ⟨rfl, hz'⟩
      have ez : z' = z := Option.some.inj ((hz' zs (SqL.of (r5.s _ _ (x5 _ _ eb)))).symm.trans hzj)
      subst ez
      refine ⟨hw1 x' z', ?_⟩
      dsimp only [tYes]
      rw [if_pos rfl]
      refine he d mem e (List.mem_of_getElem? hei) x' z' G5 ((x0.trans r1.g).trans r5.g) (hdv.up r5.g) (hev.up x5) G5 H6 (Ex.refl _) r5.s _ fun v6 G6 H7 r6 hd6 => ⟨ys5, r6.h _ _ d5, ?_, ⟨G6, ys5 ++ [v6], ?_, x5.trans r6.g, r6.n D (by rw [d5]; simp) n5, upd_same, ?_⟩⟩
      · rw [a5.len, List.length_append, lenM, List.length_map, List.length_take]
        have hje : j' < (ess d).length := by rw [← hzs.len]; exact hlt2
        exact Nat.lt_of_le_of_lt (by omega : _ ≤ 50000) (by decide)
      · have nD : G6 D = none := r6.n D (by rw [d5]; simp) n5
        have r7 := r5.trans r6
        exact ⟨Ex.mut r7.h I.fr, r7.g, fun a o h => by rw [upd_ne (fun e => by rw [e, nD] at h; cases h)]; exact r7.s _ _ h, r7.n, r7.t⟩
      · rw [take_da hei, List.map_append, ← List.append_assoc]
        exact (a5.up r6.g).app (.cons hd6 .nil)
    · have ej : j' = zs.length := by omega
      subst ej
      refine .inl ⟨⟨zs, SqL.of (r5.s _ _ (x5 _ _ eb)), Nat.le_refl _⟩, ⟨⟨G5, ys5, r5, n5, d5, ?_⟩, I.fr⟩⟩
      rw [hzs.len, List.take_length] at a5
      rw [etake, List.flatMap_append]
      simpa using a5
  · have ek : k = xs.length := by omega
    subst ek
    rw [hs.len, List.take_length] at I
    obtain ⟨G3, r3, h3⟩ := I.done
    exact .inl ⟨⟨xs, SqT.of (I.sub _ _ ea), Nat.le_refl _⟩, q (.ref D) G3 H' (r1.trans r3) h3⟩
end
end Lf
set_option maxHeartbeats 4000000
/-! {k: v, **e}: e a dict with other keys -/
namespace Lf
open PySem PySem.Spec PyProof.Rows L2 Evl
section
variable {prog : Program} {w : World} {K : Type} [DecidableEq K] {knd : KeyKind prog w K} {A : Around} {E : Value → Shared → Prop} {s : Shared} {d o : Addr} {kvs more : List (K × Value)}
/-- a key that is not there is put at the end -/
theorem put_fresh {k : K} {key v : Value} {Q : Unit → Shared → Prop} (is : knd.is k key = true) (D : s.heap.DictOf knd d kvs) (new : k ∉ kvs.map (·.1)) (few : kvs.length ≤ sizeLine)
    (q : ∀ h', h'.DictOf knd d (kvs ++ [(k, v)]) → Heap.SameBut d s.heap h' → Q () { s with heap := h' }) : wpAny (model prog w) A (dictPut d (knd.hash k) key v) Q E s := by
  obtain ⟨ob, es, ep, e1, e2, e3, e4, e5, e6⟩ := D
  have sz : es.size ≤ sizeLine := by
    have z := e5.length
    rw [← Array.length_toList, z]
    exact few
  have f0 : (es.findIdx? fun e => knd.is k e.key) = none := by
    have z : (es.findIdx? fun e => knd.is k e.key) = kvs.findIdx? fun kv => decide (kv.1 = k) := by
      rw [← e5.findIdx k]
      obtain ⟨l⟩ := es
      simp
    rw [z, List.findIdx?_eq_none_iff]
    exact fun x hx => decide_eq_false fun e => new (List.mem_map.mpr ⟨x, hx, e⟩)
  unfold dictPut
  refine wpAny_bind (wpAny_dictFind_of is e1 e3 e4 ?_)
  rw [f0]
  have app : Pairs knd (es.push ⟨knd.hash k, key, v⟩).toList (kvs ++ [(k, v)]) := by
    have z := e5.append is (knd.hash k) v
    obtain ⟨l⟩ := es
    simpa using z
  have nd : ((kvs ++ [(k, v)]).map (·.1)).Nodup := by
    rw [List.map_append, List.nodup_append]
    exact ⟨e6, by simp, fun a ha b hb => by
      simp only [List.map_cons, List.map_nil, List.mem_singleton] at hb
      rw [hb]
      exact fun z => new (z ▸ ha)⟩
  exact wpAny_updateDictKeys (hz := sz) e1 e3 (q _ ⟨_, _, ep + 1, Heap.get?_update_self _ e1 (Obj.isFreed_of_dict (Obj.data_mapDictKeys e3 _)), e2.mapDictKeys _, Obj.data_mapDictKeys e3 _, e4.push is _, app, nd⟩ (Heap.SameBut.update ..))
/-- d takes over the entries of o, whose keys are other ones -/
theorem merge_fresh {Q : Unit → Shared → Prop} (ne : d ≠ o) (ns : (o == sysModules) = false) (k0 : kvs ≠ []) (D : s.heap.DictOf knd d kvs) (O : s.heap.DictOf knd o more) (nd : ((kvs ++ more).map (·.1)).Nodup) (few : kvs.length + more.length ≤ sizeLine)
    (q : ∀ h', h'.DictOf knd d (kvs ++ more) → Heap.SameBut d s.heap h' → Q () { s with heap := h' }) : wpAny (model prog w) A (mergeMapping d (.ref o) false) Q E s := by
  obtain ⟨oo, eo, po, u1, u2, u3, u4, u5, u6⟩ := id O
  obtain ⟨od, ed, pd, v1, v2, v3, v4, v5, v6⟩ := id D
  have len : more.length = eo.size := by rw [← u5.length, Array.length_toList]
  unfold mergeMapping
  refine wpAny_bind (wpAny_isInstance O.typeIs isSubtype_dict_dict ?_)
  rw [if_pos rfl]
  refine wpAny_bind (wpAny_specialOf O.typeIs F.slot_dict_iter.lookup ?_)
  rw [beq_self_eq_true]
  dsimp only
  refine wpAny_bind (wpAny_pure ?_)
  dsimp only
  rw [if_neg (by rw [ns]; exact Bool.false_ne_true)]
  refine wpAny_bind (wpAny_dictEntries v1 v3 ?_)
  have ne0 : ed.isEmpty = false := by
    have z := v5.length
    cases h : ed.isEmpty with
    | false => rfl
    | true =>
      rw [Array.isEmpty_iff.mp h] at z
      exact absurd (List.length_eq_zero_iff.mp z.symm) k0
  rw [if_neg (by rw [ne0]; exact Bool.false_ne_true)]
  refine wpAny_bind (wpAny_dictEntries u1 u3 ?_)
  refine wpAny_bind (wpAny_dictEpoch u1 u3 ?_)
  refine wpAny_bind (wpAny_forIn_list _ (fun rest _ s' => ∃ h' i, s' = { s with heap := h' } ∧ rest = (List.range eo.size).drop i ∧ i ≤ eo.size ∧ h'.DictOf knd d (kvs ++ more.take i) ∧ h'.get? o = some oo ∧ Heap.SameBut d s.heap h') _ ?_ ?_ _ _
    ⟨s.heap, 0, rfl, rfl, Nat.zero_le _, by rw [List.take_zero, List.append_nil]; exact D, u1, Heap.SameBut.refl _ _⟩)
  · rintro x rest b s' ⟨h', i, rfl, er, hi, Di, uo, sm⟩
    have lt : i < eo.size := by
      apply Nat.lt_of_not_le
      intro z
      rw [List.drop_of_length_le (by rw [List.length_range]; exact z)] at er
      cases er
    have e1 : x :: rest = i :: (List.range eo.size).drop (i + 1) := by
      rw [er, List.drop_eq_getElem_cons (by rw [List.length_range]; exact lt), List.getElem_range]
    obtain ⟨rfl, rfl⟩ : x = i ∧ rest = (List.range eo.size).drop (i + 1) := ⟨(List.cons.inj e1).1, (List.cons.inj e1).2⟩
    refine wpAny_bind (wpAny_dictEntries uo u3 ?_)
    rw [Array.getElem?_eq_getElem lt]
    have mx : more[x]? = some more[x] := List.getElem?_eq_getElem (by rw [len]; exact lt)
    generalize more[x] = kv at mx
    obtain ⟨k, v⟩ := kv
    obtain ⟨y1, y2⟩ := u5.get? (e := eo[x]) (by simp [lt]) mx
    obtain ⟨k', y3, y4⟩ := u4 eo[x] (Array.getElem_mem lt)
    obtain rfl : k' = k := knd.inj _ _ _ y3 y1
    have tk : more.take (x + 1) = more.take x ++ [(k', v)] := by rw [List.take_add_one, mx]; rfl
    have fresh : k' ∉ (kvs ++ more.take x).map (·.1) := fun z => by
      have n2 : ((kvs ++ more.take (x + 1)).map (·.1)).Nodup := by
        refine List.Sublist.nodup (List.Sublist.map _ ?_) nd
        exact List.Sublist.append (List.Sublist.refl _) (List.take_sublist _ _)
      rw [tk, ← List.append_assoc, List.map_append, List.nodup_append] at n2
      exact n2.2.2 k' z k' (by simp) rfl
    dsimp only
    rw [y4, y2, if_neg Bool.false_ne_true]
    refine wpAny_bind (wpAny_holding (put_fresh y3 Di fresh ?_ fun h2 D2 s2 => ?_))
    · rw [List.length_append, List.length_take]
      omega
    · have o2 : h2.get? o = some oo := (s2.2 o (Ne.symm ne)).trans uo
      refine wpAny_bind (wpAny_dictEpoch o2 u3 ?_)
      rw [if_neg (by simp)]
      exact wpAny_pure ⟨h2, x + 1, rfl, rfl, lt, by rw [tk, ← List.append_assoc]; exact D2, o2, sm.trans s2⟩
  · rintro b s' ⟨h', i, rfl, er, hi, Di, uo, sm⟩
    have : i = eo.size := by
      apply Nat.le_antisymm hi
      have z := congrArg List.length er
      rw [List.length_drop, List.length_range, List.length_nil] at z
      omega
    subst this
    rw [← len, List.take_length] at Di
    exact wpAny_pure (q h' Di sm)
end
section
variable {prog : Program} {w : World} {A : Around} {E : Value → Shared → Prop} {s : Shared}
/-- one pair, then a mapping -/
theorem disp_one {tk tv te : Sem Value} {Q : Value → Shared → Prop}
    (h : wpAny (model prog w) A (subDict [(tk, tv)]) (fun d s1 => wpAny (model prog w) A te (fun m s2 => wpAny (model prog w) A (mergeMapping d m false) (fun _ s3 => Q (.ref d) s3) (fun _ _ => False) s2) E s1) E s) :
    wpAny (model prog w) A (dictDisplay [(some tk, tv), (none, te)]) Q E s := by
  unfold dictDisplay
  refine wpAny_bind ?_
  rw [List.forIn_cons]
  dsimp only [List.nil_append, List.length_cons, List.length_nil]
  rw [if_neg (by decide)]
  refine wpAny_bind (wpAny_pure ?_)
  dsimp only
  rw [List.forIn_cons]
  dsimp only
  refine wpAny_bind (wpAny_bind ?_)
  rw [if_neg (by simp)]
  refine wpAny_bind (wpAny_mono h (fun d s1 h1 => ?_) fun _ _ z => z)
  refine wpAny_pure ?_
  dsimp only
  refine wpAny_bind (wpAny_pure (wpAny_bind (wpAny_holding (wpAny_mono h1 (fun m s2 h2 => ?_) fun _ _ z => z))))
  refine wpAny_bind (wpAny_onRaise (wpAny_tryCatch (wpAny_onRaise (wpAny_holding (wpAny_mono h2 (fun _ s3 h3 => ?_) fun _ _ z => z.elim)))))
  refine wpAny_pure (wpAny_pure ?_)
  dsimp only
  exact wpAny_bind (wpAny_pure (wpAny_pure h3))
end
/-- {k: v, **e} -/
def tDisp1 (tk tv te : TE) : TE := fun σ H Q => ∀ p, H p = none → tPairs [(tk, tv)] σ (upd H p (.dK [])) fun ps H2 => ∃ (key : Key) (y : V), ps = [(kV key, y)] ∧ H2 p = some (.dK []) ∧
  te σ (upd H2 p (.dK [(key, y)])) fun z H3 => ∃ (o : Addr) (more : List (Key × V)), z = .ref o ∧ H3 p = some (.dK [(key, y)]) ∧ H3 o = some (.dK more) ∧ (((key, y) :: more).map Prod.fst).Nodup ∧ 1 + more.length ≤ sizeLine ∧ Q (.ref p) (upd H3 p (.dK ((key, y) :: more)))
theorem pe_disp1 {X : Cx} {k v e : Expr} {tk tv te : TE} {pos : Pos} (hk : PE X k tk) (hv : PE X v tv) (he : PE X e te) : PE X (.Dict [some k, none] [v, e] pos) (tDisp1 tk tv te) := by
  refine ⟨fun pins s σ H Q I q => ?_⟩
  have fr := I.hok.fresh (Nat.le_refl s.heap.objs.size)
  have I1 := I.laid (a := s.heap.objs.size) (o := .dK []) (h' := s.heap.push { cls := .type "dict", data := .dict #[] }) (t' := s.toks) (fun _ _ q => Heap.get?_push_of_some _ q) (Nat.le_refl _) (dk_empty s.heap I.big)
  have one : PPs X pos [some k] [v] [(tk, tv)] := pps_cons hk hv pps_nil
  rw [arm_eval_Dict]
  refine wpAny_bind (wpAny_standAt ?_)
  refine disp_one (wpAny_subDict (knd := mixKind X.prog X.w) (by show 1 ≤ 15; decide) ?_)
  refine thn (one.run pins _ σ _ _ I1 (q _ fr)) ?_
  · rintro ws s2 ⟨ps, H2, I2, rel, key, y, rfl, e2, q2⟩
    obtain ⟨rs, c, rk⟩ := carries_of (P := X.prog) (w := X.w) (kvs := [(key, y)]) rel
    obtain ⟨z, hd, vs0, r0, dd⟩ := dk_of I2.hok e2
    cases r0
    refine ⟨rs, c, dd, fun h' dd' hs => ?_⟩
    have hx : ∃ q, h'.get? s.heap.objs.size = some q := let ⟨q, _, _, hq, _⟩ := dd'; ⟨q, hq⟩
    have I3 := d_write (t' := s2.toks + ws.length) I2 (by rw [e2]; exact True.intro) hs hx (dk_new (kvs := [(key, y)]) (show 1 ≤ sizeLine by decide) hd (rk.merge .nil) dd')
    dsimp only
    refine wpAny_bind (thn (he.run pins _ σ _ _ I3 q2) ?_)
    rintro u s4 ⟨zz, H4, I4, rz, o, more, rfl, e3, e4, nd, few, q4⟩
    obtain rfl : u = Value.ref o := rz
    have ne : s.heap.objs.size ≠ o := fun t => by
      rw [← t, e3] at e4
      have e4 : [(key, y)] = more := by cases e4; rfl
      rw [← e4] at nd
      simp at nd
    obtain ⟨z1, hd1, vs1, r1, dd1⟩ := dk_of I4.hok e3
    obtain ⟨z2, hd2, vs2, r2, dd2⟩ := dk_of I4.hok e4
    have rr : KV ((key, y) :: more) (vs1 ++ vs2) := by
      cases r1 with
      | cons h t => cases t; exact .cons h r2
    have len1 := r1.length
    have len2 := r2.length
    have ks : vs1.map (·.1) = [key] := by
      have z := r1.keys
      rw [← z]; rfl
    have ks2 : vs2.map (·.1) = more.map Prod.fst := r2.keys.symm
    refine wpAny_bind (wpAny_standAt (wpAny_pure ?_))
    refine merge_fresh (knd := mixKind X.prog X.w) ne hd2 (fun t => by rw [t] at ks; cases ks) dd1 dd2 (by rw [List.map_append, ks, ks2]; exact nd) (by rw [← len1, ← len2]; exact few) (fun h5 d5 s5 => ?_)
    refine ⟨.ref s.heap.objs.size, _, ?_, rfl, q4⟩
    have h5x : ∃ q, h5.get? s.heap.objs.size = some q := let ⟨q, _, _, hq, _⟩ := d5; ⟨q, hq⟩
    exact d_write (t' := s4.toks) I4 (by rw [e3]; exact True.intro) s5 h5x (dk_new (kvs := (key, y) :: more) (by rw [List.length_cons]; omega) hd1 rr d5)
end Lf
set_option maxHeartbeats 4000000
/-! More of what evaluates to data -/
namespace Lf
open PySem PySem.Spec L2 Evl
section
variable {K : PySem.W.Frag} {Lm : List V → Prop} {L : Addr} {σ : L2.St} {G : Hp} {to ta tb tc te : TE} {t u : TT} {d : PyData} {ds : List PyData} {ws : List Str} {z x0 : Str} {R : List PyData → Prop}
theorem ev_eqI {i j : Int} (ha : Ev ta σ G (.int i)) (hb : Ev tb σ G (.int j)) : Ev (tOp rEq ta tb) σ G (.bl (decide (i = j))) := by
  have h := ev_op ha hb (rv_eq (x := V.int i) (y := V.int j) rfl)
  have : decide (V.int i = V.int j) = decide (i = j) := by rw [decide_eq_decide]; simp
  rwa [this] at h
theorem ev_neI {i j : Int} (ha : Ev ta σ G (.int i)) (hb : Ev tb σ G (.int j)) : Ev (tOp rNe ta tb) σ G (.bl (!decide (i = j))) := by
  have h := ev_op ha hb (rv_ne (x := V.int i) (y := V.int j) rfl)
  have : decide (V.int i = V.int j) = decide (i = j) := by rw [decide_eq_decide]; simp
  rwa [this] at h
theorem et_orT (h1 : EvT t σ G true) : EvT (tOr t u) σ G true := et_or (b := false) h1 fun z => by cases z
theorem et_andF (h1 : EvT t σ G false) : EvT (tAnd t u) σ G false := et_and (b := true) h1 fun z => by cases z
theorem ev_is {v w : V} (h : Ev te σ G v) (e : v = w) : Ev te σ G w := e ▸ h
theorem ev_sumD {is : List Int} (h : EvD te σ G (.list (is.map PyData.int))) : Ev (tCB (rSum K) (tCons te tNil)) σ G (.int is.sum) := fun H1 x Q q => h G H1 (Ex.refl _) x _ fun v G2 H2 r hd => by
  obtain ⟨a, xs, rfl, e, hs⟩ := hd.lst_
  cases da_ints hs
  exact ⟨a, is, rfl, SqL.of (r.s _ _ e), q H2 r.h⟩
theorem ev_eqET (ha : EvD ta σ G (.tuple ds)) : Ev (tOp (rEqE K) ta (tTup tNil)) σ G (.bl ds.isEmpty) := fun H1 x Q q => ha G H1 (Ex.refl _) x _ fun v G2 H2 r hd => ⟨by decide, fun p hp => by
  obtain ⟨a, xs, rfl, e, hs⟩ := hd.tup_
  have x3 : Ex H2 (upd H2 p (.tup [])) := Ex.new hp
  refine ⟨a, p, xs, rfl, rfl, SqT.of (x3 _ _ (r.s _ _ e)), SqT.of upd_same, ?_⟩
  have : xs.isEmpty = ds.isEmpty := by cases hs <;> rfl
  rw [this]
  exact q _ (r.h.trans x3)⟩
theorem ev_intB {b : Bool} (h : Ev te σ G (.bl b)) : Ev (tCB (fun xs H Q => (∃ i, xs = [V.int i] ∧ Q (.int i) H) ∨ ∃ k, xs = [V.bl k] ∧ Q (.int (if k then 1 else 0)) H) (tCons te tNil)) σ G (.int (if b then 1 else 0)) := fun H1 x Q q => h H1 x _ fun H2 x2 => .inr ⟨b, rfl, q H2 x2⟩
theorem ev_eqSS {x y : Str} (ha : Ev ta σ G (.str x)) (hb : Ev tb σ G (.str y)) : Ev (tOp rEq ta tb) σ G (.bl (decide (x = y))) := by
  have h := ev_op ha hb (rv_eq (x := V.str x) (y := V.str y) rfl)
  have : decide (V.str x = V.str y) = decide (x = y) := by rw [decide_eq_decide]; simp
  rwa [this] at h
theorem ev_neSS {x y : Str} (ha : Ev ta σ G (.str x)) (hb : Ev tb σ G (.str y)) : Ev (tOp rNe ta tb) σ G (.bl (!decide (x = y))) := by
  have h := ev_op ha hb (rv_ne (x := V.str x) (y := V.str y) rfl)
  have : decide (V.str x = V.str y) = decide (x = y) := by rw [decide_eq_decide]; simp
  rwa [this] at h
theorem da_strs {H : Hp} {vs : List V} {ws : List Str} (h : DaAll H vs (ws.map PyData.str)) : vs = ws.map V.str ∧ ∀ x ∈ ws, x.length ≤ 1000 := by
  induction ws generalizing vs with
  | nil => cases h; exact ⟨rfl, fun x hx => by cases hx⟩
  | cons b bs ih =>
    cases h with
    | cons h t =>
      obtain ⟨rfl, hl⟩ := h.str_
      obtain ⟨rfl, hb⟩ := ih t
      refine ⟨rfl, fun x hx => ?_⟩
      rcases List.mem_cons.mp hx with rfl | hx
      · exact hl
      · exact hb x hx
theorem sum_lens {ws : List Str} (h : ∀ x ∈ ws, x.length ≤ 1000) : (ws.map (·.length)).sum ≤ ws.length * 1000 := by
  induction ws with
  | nil => exact Nat.zero_le _
  | cons b bs ih =>
    rw [List.map_cons, List.sum_cons, List.length_cons, Nat.succ_mul]
    have := h b (List.mem_cons_self ..)
    have := ih fun x hx => h x (List.mem_cons_of_mem _ hx)
    omega
theorem ev_join (ho : Ev to σ G (.str z)) (h : EvD te σ G (.list (ws.map PyData.str))) (hl : ws.length ≤ 5000) (hz : z.length ≤ 10) :
    Ev (tM1 (fun x xs H Q => ∃ a p, ∃ ys : List Str, x = .str a ∧ xs = [.ref p] ∧ (SqL K H p (ys.map V.str) ∨ SqT K H p (ys.map V.str)) ∧ (ys.map (·.length)).sum + ys.length * a.length ≤ 16777216 ∧ Q (.str (Txt.join a ys)) H) to te) σ G (.str (Txt.join z ws)) := fun H1 x Q q => ho H1 x _ fun H2 x2 => ⟨⟨z, rfl⟩, h G H2 (Ex.refl _) (x.trans x2) _ fun v G2 H3 r hd => by
  obtain ⟨a, xs, rfl, e, hs⟩ := hd.lst_
  obtain ⟨rfl, hb⟩ := da_strs hs
  refine ⟨z, a, ws, rfl, rfl, .inl (SqL.of (r.s _ _ e)), ?_, q H3 (x2.trans r.h)⟩
  have h1 := sum_lens hb
  have h2 : ws.length * 1000 ≤ 5000 * 1000 := Nat.mul_le_mul_right _ hl
  have h3 : ws.length * z.length ≤ 5000 * 10 := Nat.mul_le_mul hl hz
  omega⟩
theorem evd_slL {tl : TE} {tlo thi : TO} {lo hi : Option Int} {ds : List PyData} (h : EvD tl σ G (.list ds)) (h1 : EvO tlo σ G lo) (h2 : EvO thi σ G hi) : EvD (tSl (rSlL K) tl tlo thi) σ G (.list (cutD ds lo hi)) := fun G1 H1 x s Q q =>
  h G1 H1 x s _ fun v G2 H2 r hd => h1 H2 ((x.trans r.g).trans r.s) _ fun H3 x3 => h2 H3 (((x.trans r.g).trans r.s).trans x3) _ fun H4 x4 => by
    obtain ⟨a, xs, rfl, e, hs⟩ := hd.lst_
    have r4 := r.trans (Gr.keep r.s (x3.trans x4))
    refine ⟨a, xs, rfl, SqL.of (r4.s _ _ e), fun p hp => ?_⟩
    have n := Gr.new (o := .lst (cutV xs lo hi)) r4.s hp rfl
    exact q (.ref p) _ _ (r4.trans n) (.lst upd_same ((cut_da hs lo hi).up n.g))
theorem dr_tupleOf (h : Dr Lm L te σ G (fun d => ∃ ds, d = .list ds ∧ R ds)) : Dr Lm L (tCB (fun xs H Q => ∃ p ys, xs = [V.ref p] ∧ ((SqL K H p ys ∧ ∀ l, H l = none → Q (.ref l) (upd H l (.tup ys))) ∨ (SqT K H p ys ∧ Q (.ref p) H))) (tCons te tNil)) σ G (fun d => ∃ ds, d = .tuple ds ∧ R ds) := fun G1 H1 x w Q q => h G1 H1 x w _ fun v d G2 H2 r ⟨ds, e, hR⟩ hd => by
  subst e
  obtain ⟨a, xs, rfl, e, hs⟩ := hd.lst_
  refine ⟨a, xs, rfl, .inl ⟨SqL.of (r.s _ _ e), fun l hl => ?_⟩⟩
  have n := Gr.new (o := .tup xs) r.s hl rfl
  exact q (.ref l) _ _ _ (r.gr n) ⟨ds, rfl, hR⟩ (.tup upd_same (hs.up n.g))
theorem evd_listOf (h : EvD te σ G (.tuple ds)) : EvD (tCB (fun xs H Q => ∃ p ys, xs = [V.ref p] ∧ (SqL K H p ys ∨ SqT K H p ys) ∧ ∀ l, H l = none → Q (.ref l) (upd H l (.lst ys))) (tCons te tNil)) σ G (.list ds) := fun G1 H1 x s Q q => h G1 H1 x s _ fun v G2 H2 r hd => by
  obtain ⟨a, xs, rfl, e, hs⟩ := hd.tup_
  refine ⟨a, xs, rfl, .inr (SqT.of (r.s _ _ e)), fun l hl => ?_⟩
  have n := Gr.new (o := .lst xs) r.s hl rfl
  exact q (.ref l) _ _ (r.trans n) (.lst upd_same (hs.up n.g))
theorem evd_listOfL (h : EvD te σ G (.list ds)) : EvD (tCB (fun xs H Q => ∃ p ys, xs = [V.ref p] ∧ (SqL K H p ys ∨ SqT K H p ys) ∧ ∀ l, H l = none → Q (.ref l) (upd H l (.lst ys))) (tCons te tNil)) σ G (.list ds) := fun G1 H1 x s Q q => h G1 H1 x s _ fun v G2 H2 r hd => by
  obtain ⟨a, xs, rfl, e, hs⟩ := hd.lst_
  refine ⟨a, xs, rfl, .inl (SqL.of (r.s _ _ e)), fun l hl => ?_⟩
  have n := Gr.new (o := .lst xs) r.s hl rfl
  exact q (.ref l) _ _ (r.trans n) (.lst upd_same (hs.up n.g))
theorem ev_neR {x y : Str} (ha : Ev ta σ G (.str x)) (hb : Ev tb σ G (.str y)) (e : x = y) : Ev (tOp rNe ta tb) σ G (.bl false) := by
  have h := ev_op ha hb (rv_ne (x := V.str x) (y := V.str y) rfl)
  rw [e, decide_eq_true rfl] at h
  exact h
theorem evd_catS {A B : List Str} (ha : EvD ta σ G (.list (A.map PyData.str))) (hb : EvD tb σ G (.list (B.map PyData.str))) (hl : A.length + B.length ≤ 100000) : EvD (tOp rCat ta tb) σ G (.list ((A ++ B).map PyData.str)) := by
  rw [List.map_append]
  exact evd_catL ha hb (by rw [List.length_map, List.length_map]; exact hl)
theorem evd_takeS {A : List Str} {n : Nat} (ha : EvD ta σ G (.list (A.map PyData.str))) (hb : Ev tb σ G (.int (n : Int))) : EvD (tSl (rSlL K) ta tNoPart (tPart tb)) σ G (.list ((A.take n).map PyData.str)) := by
  rw [List.map_take, ← cutD_to]
  exact evd_slL ha EvO.none_ (EvO.some_ hb)
theorem evd_dropS {A : List Str} {n : Nat} (ha : EvD ta σ G (.list (A.map PyData.str))) (hb : Ev tb σ G (.int (n : Int))) : EvD (tSl (rSlL K) ta (tPart tb) tNoPart) σ G (.list ((A.drop n).map PyData.str)) := by
  rw [List.map_drop, ← cutD_from]
  exact evd_slL ha (EvO.some_ hb) EvO.none_
end
section
variable {K : PySem.W.Frag} {σ : L2.St} {G : Hp} {to te : TE} {z t : Str}
theorem evd_split (ho : Ev to σ G (.str t)) (h : Ev te σ G (.str z)) (hz : (z.length == 0) = false) (ht : t.length + 2 ≤ sizeLine) (hw : ∀ x ∈ Txt.split t z, x.length ≤ 1000) :
    EvD (tM1 (fun x xs H Q => ∃ a b, x = .str a ∧ xs = [.str b] ∧ (b.length == 0) = false ∧ a.length + 2 ≤ sizeLine ∧ rNewStrs (Txt.split a b) H Q) to te) σ G (.list ((Txt.split t z).map PyData.str)) := fun G1 H1 x s Q q => ho H1 (x.trans s) _ fun H2 x2 => ⟨⟨t, rfl⟩, h H2 ((x.trans s).trans x2) _ fun H3 x3 => ⟨t, z, rfl, rfl, hz, ht, fun p hp => by
  have s3 := s.trans (x2.trans x3)
  have n := Gr.new (o := .lst ((Txt.split t z).map V.str)) s3 hp rfl
  refine q (.ref p) _ _ ((Gr.keep s (x2.trans x3)).trans n) (.lst upd_same ?_)
  have : ∀ l : List Str, (∀ x ∈ l, x.length ≤ 1000) → DaAll (upd G1 p (.lst ((Txt.split t z).map V.str))) (l.map V.str) (l.map PyData.str) := fun l => by
    induction l with
    | nil => intro _; exact .nil
    | cons b l ih => intro hl; exact .cons (.str _ (hl b (List.mem_cons_self ..))) (ih fun x hx => hl x (List.mem_cons_of_mem _ hx))
  exact this _ hw⟩⟩
end
theorem spF_len {F : List PyData → Option PyData} {n : Nat} (hF : ∀ ds d, F ds = some d → ds.length = n) {vs : List V} {H : Hp} {Q : VK} {E : XK} (h : spF F vs H Q E) : vs.length = n := by
  obtain ⟨G, ds, d, _, h2, h3, _⟩ := h
  rw [h2.len, hF ds d h3]
/-! partial promises of one and of two values -/
def spO (f : PyData → Option PyData) : Sp := spF fun ds => match ds with
  | [d] => f d
  | _ => none
theorem spO_len {f : PyData → Option PyData} {vs : List V} {H : Hp} {Q : VK} {E : XK} (h : spO f vs H Q E) : vs.length = 1 := by
  refine spF_len (fun ds d e => ?_) h
  split at e
  · rfl
  · cases e
theorem spO_of {f : PyData → Option PyData} {vs : List V} {H : Hp} {Q : VK} {E : XK} (h : spO f vs H Q E) : ∃ G v d e, vs = [v] ∧ Ex G H ∧ Da G v d ∧ f d = some e ∧ ∀ v' G' H', Gr G H G' H' → Da G' v' e → Q v' H' := by
  obtain ⟨G, ds, d, s, h2, h3, k⟩ := h
  dsimp only at h3
  split at h3
  · cases h2 with
    | cons h t =>
      cases t
      exact ⟨G, _, _, d, rfl, s, h, h3, k⟩
  · cases h3
theorem evd_callO {f : PyData → Option PyData} {σ : L2.St} {G : Hp} {te : TE} {d e : PyData} {E : XK} (h : EvD te σ G d) (hf : f d = some e) : EvD (tCallD (spO f) E (tCons te tNil)) σ G e := evd_call (evd_cons h evd_nil) hf
def sp2 (f : PyData → PyData → Option PyData) : Sp := spF fun ds => match ds with
  | [d, e] => f d e
  | _ => none
theorem sp2_len {f : PyData → PyData → Option PyData} {vs : List V} {H : Hp} {Q : VK} {E : XK} (h : sp2 f vs H Q E) : vs.length = 2 := by
  refine spF_len (fun ds d e => ?_) h
  split at e
  · rfl
  · cases e
theorem sp2_of {f : PyData → PyData → Option PyData} {vs : List V} {H : Hp} {Q : VK} {E : XK} (h : sp2 f vs H Q E) : ∃ G v v2 d d2 e, vs = [v, v2] ∧ Ex G H ∧ Da G v d ∧ Da G v2 d2 ∧ f d d2 = some e ∧ ∀ v' G' H', Gr G H G' H' → Da G' v' e → Q v' H' := by
  obtain ⟨G, ds, d, s, h2, h3, k⟩ := h
  dsimp only at h3
  split at h3
  · cases h2 with
    | cons h t =>
      cases t with
      | cons h' t =>
        cases t
        exact ⟨G, _, _, _, _, d, rfl, s, h, h', h3, k⟩
  · cases h3
theorem evd_call2 {f : PyData → PyData → Option PyData} {σ : L2.St} {G : Hp} {ta tb : TE} {d d2 e : PyData} {E : XK} (h : EvD ta σ G d) (h2 : EvD tb σ G d2) (hf : f d d2 = some e) : EvD (tCallD (sp2 f) E (tCons ta (tCons tb tNil))) σ G e := evd_call (evd_cons h (evd_cons h2 evd_nil)) hf
theorem atI_get {ds : List PyData} {i : Nat} (h : i < ds.length) : atI ds ((i : Nat) : Int) = some (ds.getD i .none) := atI_nat (by rw [List.getD_eq_getElem?_getD, List.getElem?_eq_getElem h]; rfl)
theorem walk_enumT {K : PySem.W.Frag} {a : Addr} {xs : List V} : Walk (IteT K a) xs.length (fun H => SqT K H a xs) (YPair (fun i => some (.int (i : Nat))) (fun i => xs[i]?)) := by
  refine ⟨fun i _ hi q => ⟨xs, xs[i], q, by simp [hi]⟩, fun _ q => ⟨xs, q, rfl⟩, fun i H v H' _ q y => ?_⟩
  obtain ⟨T, x, h1, h2, h3, h4⟩ := y
  exact ⟨T, .int (i : Nat), x, h1, h2, h3, rfl, h4 xs q⟩
theorem none_of_ex {H H' : Hp} {p : Addr} (x : Ex H H') (h : H' p = none) : H p = none := fresh_back x h
theorem gr_add {G H G' H' : Hp} {q : Addr} {o : HO} (r : Gr G H G' H') (hq : H q = none) (hg : G' q = none) (hh : H' q = some o) (ho : dataO o = true) : Gr G H (upd G' q o) H' := by
  refine ⟨r.h, r.g.trans (Ex.new hg), fun a u h => ?_, fun a e1 e2 => ?_, fun a u h => ?_⟩
  · by_cases e : a = q
    · subst e
      rw [upd_same] at h
      cases h
      exact hh
    · rw [upd_ne e] at h
      exact r.s _ _ h
  · rw [upd_ne (fun e => e1 (by rw [e]; exact hq))]
    exact r.n a e1 e2
  · by_cases e : a = q
    · subst e
      rw [upd_same] at h
      cases h
      exact .inr ho
    · rw [upd_ne e] at h
      exact r.t a u h
theorem gr_mut {G H G' H' : Hp} {q : Addr} {o : HO} (r : Gr G H G' H') (hq : H q = none) (hg : G' q = none) : Gr G H G' (upd H' q o) :=
  ⟨Ex.mut r.h hq, r.g, fun c u h => by rw [upd_ne (fun e => by rw [e, hg] at h; cases h)]; exact r.s _ _ h, r.n, r.t⟩
theorem evd_tupleOfL {K : PySem.W.Frag} {σ : L2.St} {G : Hp} {te : TE} {ds : List PyData} (h : EvD te σ G (.list ds)) : EvD (tCB (fun xs H Q => ∃ p ys, xs = [V.ref p] ∧ ((SqL K H p ys ∧ ∀ l, H l = none → Q (.ref l) (upd H l (.tup ys))) ∨ (SqT K H p ys ∧ Q (.ref p) H))) (tCons te tNil)) σ G (.tuple ds) := fun G1 H1 x s Q q => h G1 H1 x s _ fun v G2 H2 r hd => by
  obtain ⟨a, xs, rfl, e, hs⟩ := hd.lst_
  refine ⟨a, xs, rfl, .inl ⟨SqL.of (r.s _ _ e), fun l hl => ?_⟩⟩
  have n := Gr.new (o := .tup xs) r.s hl rfl
  exact q (.ref l) _ _ (r.trans n) (.tup upd_same (hs.up n.g))
theorem log_lt {i : Int} {n : Nat} (h0 : 0 ≤ i) (h : i < 2 ^ n) (hn : 0 < n) : i.natAbs.log2 < n := PySem.Flt.log2_lt_of hn (by
  have : ((i.natAbs : Nat) : Int) < ((2 ^ n : Nat) : Int) := by
    rw [Int.natAbs_of_nonneg h0]
    push_cast
    exact h
  exact_mod_cast this)
theorem log_small {i : Int} (h0 : 0 ≤ i) (h : i < 4294967296) : i.natAbs.log2 < 5000 := by
  by_cases z : i.natAbs = 0
  · rw [z]; decide
  · have h2 : i.natAbs < 2 ^ 5000 := Nat.lt_of_lt_of_le (show i.natAbs < 2 ^ 32 by rw [show (2:Nat) ^ 32 = 4294967296 from rfl]; omega) (Nat.pow_le_pow_right (by decide) (by decide))
    exact (Nat.log2_lt z).mpr h2
theorem ev_in2 {K : PySem.W.Frag} {σ : L2.St} {G : Hp} {te : TE} {x a b : Str} (h : Ev te σ G (.str x)) : Ev (tOp (rIn K false) te (tTup (tCons (tC (.str a)) (tCons (tC (.str b)) tNil)))) σ G (.bl (inV (.str x) [.str a, .str b])) := fun H1 e Q q => h H1 e _ fun H2 x2 =>
  ⟨show 2 ≤ sizeLine by decide, fun p hp => ⟨p, [.str a, .str b], rfl, .inr (SqT.of upd_same), rfl, rfl, q _ (x2.trans (Ex.new hp))⟩⟩
theorem ev_cat2 {σ : L2.St} {G : Hp} {ta tb : TE} {x y : Str} (ha : Ev ta σ G (.str x)) (hb : Ev tb σ G (.str y)) (hl : x.length + y.length ≤ sizeLine) : Ev (tOp (fun x y H Q => ∃ i j, x = V.str i ∧ y = V.str j ∧ i.length + j.length ≤ sizeLine ∧ Q (V.str (i ++ j)) H) ta tb) σ G (.str (x ++ y)) := fun H1 e Q q => ha H1 e _ fun H2 x2 => hb H2 (e.trans x2) _ fun H3 x3 => ⟨x, y, rfl, rfl, hl, q H3 (x2.trans x3)⟩
abbrev rCat2 : R2 := fun x y H Q => ∃ i j, x = V.str i ∧ y = V.str j ∧ i.length + j.length ≤ sizeLine ∧ Q (V.str (i ++ j)) H
theorem ev_strI {σ : L2.St} {G : Hp} {te : TE} {i : Int} (h : Ev te σ G (.int i)) (hl : i.natAbs.log2 < 1920) : Ev (tCB (fun xs H Q => ∃ i, xs = [V.int i] ∧ i.natAbs.log2 < 1920 ∧ Q (V.str (Str.ofString (toString i))) H) (tCons te tNil)) σ G (.str (Str.ofString (toString i))) := fun H1 e Q q => h H1 e _ fun H2 x2 => ⟨i, rfl, hl, q H2 x2⟩
theorem q_asgC {sp : Sp} {E : XK} {tA : TA} {σ : L2.St} {G H : Hp} {ds : List PyData} {tz : TS} {D : Ends} {i : Nat} (s : Ex G H) (h : EvDs tA σ G ds) (k : ∀ vs G1 H1, Gr G H G1 H1 → DaAll G1 vs ds → sp vs H1 (fun v H2 => tz D (σ.set i (some v)) H2) E) : tSeq (tAsg (tCallD sp E tA) (gName i)) tz D σ H := h G H (Ex.refl _) s _ k
theorem dr_catL {Lm : List V → Prop} {L : Addr} {σ : L2.St} {G : Hp} {ta tb : TE} {ds : List PyData} {R : List PyData → Prop} (ha : Dr Lm L ta σ G (fun d => d = .list ds)) (hb : Dr Lm L tb σ G (fun d => ∃ es, d = .list es ∧ R es)) (hl : ∀ es, R es → ds.length + es.length ≤ 100000) : Dr Lm L (tOp rCat ta tb) σ G (fun d => ∃ es, d = .list (ds ++ es) ∧ R es) := fun G1 H1 x w Q q =>
  ha G1 H1 x w _ fun v d G2 H2 r e1 hd => hb G2 H2 (x.trans r.g) r.w _ fun w' d' G3 H3 r2 ⟨es, e2, p2⟩ he => by
    subst e1
    subst e2
    obtain ⟨a, xs, rfl, e1, h1⟩ := (hd.up r2.g).lst_
    obtain ⟨b, ys, rfl, e2, h2⟩ := he.lst_
    have r3 := r.trans r2
    refine ⟨a, b, xs, ys, rfl, rfl, r3.s _ _ e1, r3.s _ _ e2, by rw [h1.len, h2.len]; exact sz_of (hl _ p2), fun p hp => ?_⟩
    have n := Gr.new (o := .lst (xs ++ ys)) r3.s hp rfl
    exact q (.ref p) _ _ _ (r3.gr n) ⟨es, rfl, p2⟩ (.lst upd_same ((h1.app h2).up n.g))
theorem valV_none {kvs : List (Key × V)} {k : Key} (h : k ∉ kvs.map Prod.fst) : valV kvs k = none := by
  cases e : valV kvs k with
  | none => rfl
  | some v => exact absurd (valV_in e) h
theorem nodup_inr {l : List Str} (h : l.Nodup) : (l.map (Sum.inr : Str → Key)).Nodup := by
  refine List.Pairwise.map _ (fun a b hab => ?_) h
  intro z
  cases z
  exact hab rfl
theorem evd_dnew {σ : L2.St} {G : Hp} : EvD tDNewK σ G (.dict []) := fun G1 H1 x s Q q => fun p hp => have n := Gr.new (o := .dK []) s hp rfl; q (.ref p) _ _ n (.dic upd_same)
end Lf
set_option maxHeartbeats 4000000
/-! Trees and statements, plain -/
namespace Tr
open PySem Lf
def letters : Str := "abcdefghijklmnopqrstuvwxyz"
def isS (s : Str) : PyData → Bool
  | .str x => decide (x = s)
  | _ => false
def lets (x : Str) : Bool := x.cps.toList.all fun c => decide (c ∈ letters.cps.toList)
def isNm : PyData → Bool
  | .str x => decide (1 ≤ x.length) && decide (x.length ≤ 8) && lets x
  | _ => false
def isNu : PyData → Bool
  | .int _ => true
  | _ => false
def isIn : PyData → Bool
  | .int i => decide (-lim < i) && decide (i < lim)
  | _ => false
def within (a b : Int) : PyData → Bool
  | .int i => (decide (-lim < i) && decide (i < lim)) && (decide (a ≤ i) && decide (i ≤ b))
  | _ => false
/-- the tree of at most n levels -/
def isTr : Nat → PyData → Bool
  | 0, _ => false
  | n + 1, .tuple ds => match ds with
    | w :: nm :: ts =>
      if ts.length = 1 ∧ isS "at" w = true then isNm nm && within 0 3 (ts.getD 0 .none)
      else if ts.length = 2 ∧ isS "load" w = true then isNm nm && (isIn (ts.getD 0 .none) && isIn (ts.getD 1 .none))
      else if isS "op" w = true then isNm nm && (decide (ts.length ≤ 3) && ts.all fun t => isTr n t)
      else false
    | _ => false
  | _ + 1, _ => false
theorem isTr_cons (n : Nat) (w nm : PyData) (ts : List PyData) : isTr (n + 1) (.tuple (w :: nm :: ts)) =
    (if ts.length = 1 ∧ isS "at" w = true then isNm nm && within 0 3 (ts.getD 0 .none)
      else if ts.length = 2 ∧ isS "load" w = true then isNm nm && (isIn (ts.getD 0 .none) && isIn (ts.getD 1 .none))
      else if isS "op" w = true then isNm nm && (decide (ts.length ≤ 3) && ts.all fun t => isTr n t)
      else false) := by rw [isTr]
def hd0 : PyData → PyData
  | .tuple (d :: _) => d
  | _ => .none
def isZ : PyData → Bool
  | .int i => decide (i = 0)
  | _ => false
/-- the statement -/
def isSt : PyData → Bool
  | .tuple ds =>
    if ds.length = 3 ∧ isS "set" (ds.getD 0 .none) = true then isNm (ds.getD 1 .none) && (isTr 4 (ds.getD 2 .none) && !isS "at" (hd0 (ds.getD 2 .none)))
    else if ds.length = 6 ∧ isS "store" (ds.getD 0 .none) = true then
      isNm (ds.getD 1 .none) && (isNm (ds.getD 2 .none) && (isIn (ds.getD 3 .none) && (isIn (ds.getD 4 .none) && (!isZ (ds.getD 3 .none) && isTr 4 (ds.getD 5 .none)))))
    else false
  | _ => false
theorem isTr_tup {n : Nat} {d : PyData} (h : isTr n d = true) : ∃ w nm ts, d = .tuple (w :: nm :: ts) := by
  cases n with
  | zero => cases h
  | succ n =>
    cases d with
    | tuple ds =>
      match ds, h with
      | w :: nm :: ts, _ => exact ⟨w, nm, ts, rfl⟩
    | _ => cases h
theorem isIn_int {d : PyData} (h : isIn d = true) : ∃ i, d = .int i := by
  cases d with
  | int i => exact ⟨i, rfl⟩
  | _ => cases h
theorem isS_eq {s : Str} {d : PyData} (h : isS s d = true) : d = .str s := by
  cases d with
  | str x => rw [of_decide_eq_true (show decide (x = s) = true from h)]
  | _ => cases h
def subs : List PyData → List PyData
  | w :: r => if isS "op" w = true then r.drop 1 else []
  | [] => []
theorem isTr_sub {n : Nat} {w nm : PyData} {ts : List PyData} (h : isTr (n + 1) (.tuple (w :: nm :: ts)) = true) : (subs (w :: nm :: ts)).length ≤ 3 ∧ ∀ t ∈ subs (w :: nm :: ts), isTr n t = true := by
  have e0 : subs (w :: nm :: ts) = if isS "op" w = true then ts else [] := rfl
  rw [e0]
  by_cases c : isS "op" w = true
  · rw [if_pos c]
    have e := isS_eq c
    subst e
    rw [isTr_cons, if_neg (fun z => absurd z.2 (by decide)), if_neg (fun z => absurd z.2 (by decide)), if_pos c] at h
    simp at h
    exact ⟨h.2.1, fun t ht => h.2.2 t ht⟩
  · rw [if_neg c]
    exact ⟨Nat.zero_le _, fun t ht => by cases ht⟩
/-- the greatest, none below 0 -/
def mx (ns : List Int) : Int := ns.foldl max 0
theorem foldl_max_ge (ns : List Int) : ∀ a : Int, a ≤ ns.foldl max a ∧ (∀ y ∈ ns, y ≤ ns.foldl max a) ∧ (ns.foldl max a = a ∨ ns.foldl max a ∈ ns) := by
  induction ns with
  | nil => intro a; exact ⟨Int.le_refl _, (fun y h => by cases h), .inl rfl⟩
  | cons n ns ih =>
    intro a
    obtain ⟨h1, h2, h3⟩ := ih (max a n)
    rw [List.foldl_cons]
    refine ⟨by omega, fun y hy => ?_, ?_⟩
    · rcases List.mem_cons.mp hy with rfl | hy
      · omega
      · exact h2 y hy
    · rcases h3 with h3 | h3
      · rw [h3]
        by_cases c : a ≤ n
        · rw [Int.max_eq_right c]; exact .inr (List.mem_cons_self ..)
        · rw [Int.max_eq_left (by omega)]; exact .inl rfl
      · exact .inr (List.mem_cons_of_mem _ h3)
theorem mx_ge (ns : List Int) : 0 ≤ mx ns := (foldl_max_ge ns 0).1
theorem mx_zero {ns : List Int} {m : Int} (hm : m ∈ (0 : Int) :: ns) (h : ∀ y ∈ (0 : Int) :: ns, y ≤ m) : m = mx ns := by
  obtain ⟨h1, h2, h3⟩ := foldl_max_ge ns 0
  have a : mx ns ≤ m := by
    rcases h3 with h3 | h3
    · show ns.foldl max 0 ≤ m
      rw [h3]; exact h 0 (List.mem_cons_self ..)
    · exact h _ (List.mem_cons_of_mem _ h3)
  have b : m ≤ mx ns := by
    rcases List.mem_cons.mp hm with rfl | hm
    · exact h1
    · exact h2 m hm
  omega
theorem mx_of {ns : List Int} {m : Int} (h0 : ∀ y ∈ ns, 0 ≤ y) (hm : m ∈ ns) (h : ∀ y ∈ ns, y ≤ m) : m = mx ns :=
  mx_zero (List.mem_cons_of_mem _ hm) fun y hy => by
    rcases List.mem_cons.mp hy with rfl | hy
    · exact h0 m hm
    · exact h y hy
/-- how many levels -/
def lvl : Nat → PyData → Int
  | n + 1, .tuple ds => 1 + mx ((subs ds).map fun t => lvl n t)
  | _, _ => 0
theorem lvl_ge (n : Nat) (d : PyData) : 0 ≤ lvl n d := by
  cases n with
  | zero => exact Int.le_refl _
  | succ n =>
    cases d with
    | tuple ds =>
      have := mx_ge ((subs ds).map fun t => lvl n t)
      rw [lvl]
      omega
    | _ => exact Int.le_refl _
end Tr
set_option maxHeartbeats 4000000
namespace My
open PySem L2 Lf Evl Tr
def top (i : Nat) : Stmt := PySem.Challenge.pw_loopfoundry_k00_errors_and_numbers.main.body.getD i (.Pass ⟨0, 0, 0, 0⟩)
structure Txt (P : Program) (K : PySem.W.Frag) (mg : Str → Option Value) (CN fI : Addr) : Prop where
  n_isinstance : mg "isinstance" = none
  n_int : mg "int" = none
  n_bool : mg "bool" = none
  n_str : mg "str" = none
  n_tuple : mg "tuple" = none
  n_len : mg "len" = none
  n_abs : mg "abs" = none
  n_max : mg "max" = none
  n_min : mg "min" = none
  n_list : mg "list" = none
  n_range : mg "range" = none
  n_all : mg "all" = none
  n_repr : mg "repr" = none
  n_ord : mg "ord" = none
  n_ValueError : mg "ValueError" = none
  n_KeyError : mg "KeyError" = none
  n_RuntimeError : mg "RuntimeError" = none
  n_OverflowError : mg "OverflowError" = none
  n_IndexError : mg "IndexError" = none
  n_ArithmeticError : mg "ArithmeticError" = none
  g_MAX_NAME : ∃ t, mg "MAX_NAME" = some (.int 8 t)
  g_LIMIT : ∃ t, mg "LIMIT" = some (.int lim t)
  g_MAX_INTERVAL : ∃ t, mg "MAX_INTERVAL" = some (.int 32 t)
  g_MAX_TICKS : ∃ t, mg "MAX_TICKS" = some (.int 4 t)
  g_LETTERS : ∃ t, mg "LETTERS" = some (.str letters t)
  num : PySem.LfX.XTxt P K mg "InvalidNumber" "value" "RuntimeError" "RuntimeError.__init__" "RuntimeError.__new__" [.type "RuntimeError", .type "Exception", .type "BaseException", .type "object"] CN fI
abbrev s_is_name : Stmt := top 22
theorem sc_is_name : FnScope ["value", "letter"] ["value"] (defScope s_is_name) := ⟨rfl, rfl, rfl, by decide +kernel, rfl, by decide +kernel, by decide +kernel⟩
abbrev s_is_number : Stmt := top 23
theorem sc_is_number : FnScope ["value"] ["value"] (defScope s_is_number) := ⟨rfl, rfl, rfl, by decide +kernel, rfl, by decide +kernel, by decide +kernel⟩
abbrev s_is_integer : Stmt := top 24
theorem sc_is_integer : FnScope ["value"] ["value"] (defScope s_is_integer) := ⟨rfl, rfl, rfl, by decide +kernel, rfl, by decide +kernel, by decide +kernel⟩
abbrev s_is_within : Stmt := top 25
theorem sc_is_within : FnScope ["value", "low", "high"] ["value", "low", "high"] (defScope s_is_within) := ⟨rfl, rfl, rfl, by decide +kernel, rfl, by decide +kernel, by decide +kernel⟩
/-! ### more of what evaluates -/
section
variable {K : PySem.W.Frag} {σ : L2.St} {G : Hp} {ta tb tc te : TE} {t u : TT} {d : PyData}
theorem da_isS {H : Hp} {v : V} {z : Str} (h : Da H v d) : decide (v = .str z) = isS z d := by
  cases h <;> simp [isS]
theorem ev_eqS {z : Str} (ha : EvD ta σ G d) (hb : Ev tb σ G (.str z)) : Ev (tOp rEqS ta tb) σ G (.bl (isS z d)) := fun H1 x Q q => ha G H1 (Ex.refl _) x _ fun v G2 H2 r hd => hb H2 (r.g.trans r.s) _ fun H3 x3 =>
  ⟨_, z, rfl, (hd.up (r.s.trans x3)).kd, by rw [da_isS hd]; exact q H3 (r.h.trans x3)⟩
theorem ev_neS {z : Str} (ha : EvD ta σ G d) (hb : Ev tb σ G (.str z)) : Ev (tOp rNeS ta tb) σ G (.bl (!isS z d)) := fun H1 x Q q => ha G H1 (Ex.refl _) x _ fun v G2 H2 r hd => hb H2 (r.g.trans r.s) _ fun H3 x3 =>
  ⟨_, z, rfl, (hd.up (r.s.trans x3)).kd, by rw [da_isS hd]; exact q H3 (r.h.trans x3)⟩
theorem ev_chain {f g : Int → Int → Bool} {a b c : Int} (ha : Ev ta σ G (.int a)) (hb : Ev tb σ G (.int b)) (hc : Ev tc σ G (.int c)) : Ev (tChain (rI0 fun i j => .bl (f i j)) (rI0 fun i j => .bl (g i j)) ta tb tc) σ G (.bl (f a b && g b c)) := fun H1 x Q q =>
  ha H1 x _ fun H2 x2 => hb H2 (x.trans x2) _ fun H3 x3 => ⟨a, b, rfl, rfl, f a b, rfl, by
    have q3 : ∀ H4, Ex H3 H4 → Q (.bl (f a b && g b c)) H4 := fun H4 x4 => q H4 ((x2.trans x3).trans x4)
    generalize f a b = fb at *
    cases fb with
    | false => exact if_no rfl (q3 H3 (Ex.refl _))
    | true => exact if_so rfl (hc H3 ((x.trans x2).trans x3) _ fun H4 x4 => ⟨b, c, rfl, rfl, q3 H4 x4⟩)⟩
end
def f1 (f : PyData → PyData) : List PyData → Option PyData
  | [d] => some (f d)
  | _ => none
def spB (f : PyData → Bool) : Sp := spF (f1 fun d => .bool (f d))
def spW : Sp := spF fun ds => match ds with
  | [d, .int a, .int b] => some (.bool (within a b d))
  | _ => none
theorem f1_len {f : PyData → PyData} (ds : List PyData) (d : PyData) (h : f1 f ds = some d) : ds.length = 1 := by
  unfold f1 at h
  split at h
  · rfl
  · cases h
theorem spB_of {f : PyData → Bool} {vs : List V} {H : Hp} {Q : VK} {E : XK} (h : spB f vs H Q E) : ∃ G v d, vs = [v] ∧ Ex G H ∧ Da G v d ∧ ∀ H', Ex H H' → Q (.bl (f d)) H' := by
  obtain ⟨G, ds, d, s, h2, h3, k⟩ := h
  unfold f1 at h3
  split at h3
  · rename_i d'
    cases h3
    cases h2 with
    | cons h t =>
      cases t
      exact ⟨G, _, d', rfl, s, h, fun H' x => k _ G H' (Gr.keep s x) (.bl _)⟩
  · cases h3
theorem isNm_str (x : Str) : isNm (.str x) = (decide (1 ≤ x.length) && decide (x.length ≤ 8) && lets x) := rfl
theorem filter_yes {α : Type} (l : List α) : l.filter (fun _ => true) = l := List.filter_eq_self.mpr fun _ _ => rfl
theorem kd_str {d : PyData} (h : kd d = "str") : ∃ x, d = .str x := by
  cases d with
  | str x => exact ⟨x, rfl⟩
  | none => exact absurd h (by decide)
  | bool b => exact absurd h (show ¬ "bool" = "str" by decide)
  | int b => exact absurd h (show ¬ "int" = "str" by decide)
  | list b => exact absurd h (show ¬ "list" = "str" by decide)
  | tuple b => exact absurd h (show ¬ "tuple" = "str" by decide)
  | dict b => exact absurd h (show ¬ "dict" = "str" by decide)
section
variable {K : PySem.W.Frag} {σ : L2.St} {G H : Hp} {te : TE} {d : PyData} {D : Ends} {v : V} {f : PyData → Bool} {E : XK}
theorem ev_lenS {z : Str} (h : EvD te σ G (.str z)) : Ev (tCB (fun xs H Q => ∃ z : Str, xs = [V.str z] ∧ z.length ≤ sizeLine ∧ Q (.int z.length) H) (tCons te tNil)) σ G (.int (z.length : Int)) := fun H1 x Q q => h G H1 (Ex.refl _) x _ fun v G2 H2 r hd => by
  obtain ⟨rfl, hl⟩ := hd.str_
  exact ⟨z, rfl, Nat.le_trans hl (by decide), q H2 r.h⟩
theorem ev_callB (h : EvD te σ G d) : Ev (tCallD (spB f) E (tCons te tNil)) σ G (.bl (f d)) := EvD.bl_ (evd_call (evd_cons h evd_nil) rfl)
theorem Ev.ret (s : Ex G H) (h : Ev te σ G v) (k : ∀ H1, Ex H H1 → D.rt v H1) : tRet te D σ H := h H s _ k
end
section
variable {P : Program} {w : World} {K : PySem.W.Frag} {mg : Str → Option Value} {base : Heap} {CN fI : Addr}
theorem ok_is_name (T : Txt P K mg CN fI) (D : Df K mg "is_name" s_is_name) : DefOk P w K mg base CX0 1 "is_name" ["value"] (spB isNm) := by
  refine D.ok sc_is_name (fun _ _ _ _ _ _ us hl => match us, hl with | [_], _ => rfl) (fun vs H Q E h => spF_len f1_len h) (fun f cdv A outer s H vs Q E hr h => ?_)
  obtain ⟨G, v, d, rfl, s, hd, k⟩ := spB_of h
  refine ⟨_, (pss_cons (ps_if (PW.pt (pw_or (pt_not (pt_val (pe_callB call_isi (by rfl) T.n_isinstance (by decide +kernel) (pa_cons (pv 0) (pa_cons (pe_bltn (v := .ty "str") (by rfl) T.n_str (by decide +kernel) rfl) pa_nil))))) (pw_or1 (pt_not (pt_chain op_le op_le pe_int (pe_callB call_len_str (by rfl) T.n_len (by decide +kernel) (pa_cons (pv 0) pa_nil)) (pe_gInt (by rfl) T.g_MAX_NAME))))))
 (pss_one (ps_ret pe_bl))
 pss_nil)
 (pss_one (ps_ret (pe_callB (cr_all rfl) (by rfl) T.n_all (by decide +kernel) (pa_cons (pe_lc (own := [("letter", 1)]) (by rfl) sc_is_name.nd (pi_str (pv 0)) (blkOk_by (own := [("letter", 1)]) (N := ["value", "letter"]) (sc := defScope s_is_name) (by decide +kernel)) (fun _ _ _ _ _ => (pg_name (i := 1) sc_is_name.nd rfl (Or.inl rfl))) (fun _ _ _ _ _ => pts_nil) (fun _ _ _ _ _ => (pe_cmpR op_in_sign (pv 1) (pe_gStr (by rfl) T.g_LETTERS) (by rfl)))) pa_nil))))), ?_⟩
  by_cases c : kd d = "str"
  · obtain ⟨x, rfl⟩ := kd_str c
    obtain ⟨rfl, hl⟩ := hd.str_
    refine q_ifD s (et_or (et_not (et_B (ev_isStr (evd_var rfl hd)))) (fun _ => et_not (et_test (ev_chain ev_c (ev_lenS (evd_var rfl hd)) ev_c)))) (fun hb H1 x1 => ?_) (fun hb H1 x1 => ?_)
    · have : isNm (.str x) = false := by
        simp [kd] at hb
        rw [isNm_str]
        rcases hb with hb | hb
        · rw [decide_eq_false (by omega : ¬ 1 ≤ x.length)]
          rfl
        · rw [decide_eq_false (by omega : ¬ x.length ≤ 8)]
          simp
      rw [this] at k
      exact k H1 x1
    · simp [kd] at hb
      have a1 : 1 ≤ x.length ∧ x.length ≤ 8 := by omega
      have e2 : isNm (.str x) = ((x.cps.toList.map fun c => decide (c ∈ letters.cps.toList)).all id) := by
        rw [isNm_str]
        unfold lets
        rw [decide_eq_true a1.1, decide_eq_true a1.2, List.all_map]
        rfl
      rw [e2] at k
      refine s_ret (ev_allD (K := K) (EvD.is (evd_lcS (fun _ => true) (fun c => .bool (decide (c ∈ letters.cps.toList))) (evd_var rfl (hd.up (s.trans x1))) (fun _ => rfl) (fun c _ => et_yes (b := true)) (fun c _ _ => evd_bl (fun H2 x2 Q' q' => ⟨_, rfl, c, letters, rfl, rfl, q' H2 (Ex.refl _)⟩))) ?_)) (fun H2 x2 => k H2 (x1.trans x2))
      rw [filter_yes, List.map_map]
      rfl
  · have nm : isNm d = false := by cases d <;> (first | rfl | exact absurd rfl c)
    rw [nm] at k
    refine q_ifD s (b := true) (fun H1 x1 Q' q' => (ev_isStr (evd_var rfl hd)) H1 x1 _ fun H2 x2 => ⟨_, rfl, ?_⟩) (fun _ H1 x1 => k H1 x1) (fun z => by cases z)
    rw [beq_eq_false_iff_ne.mpr c]
    exact q' H2 x2
theorem ok_is_number (T : Txt P K mg CN fI) (D : Df K mg "is_number" s_is_number) : DefOk P w K mg base CX0 1 "is_number" ["value"] (spB isNu) := by
  refine D.ok sc_is_number (fun _ _ _ _ _ _ us hl => match us, hl with | [_], _ => rfl) (fun vs H Q E h => spF_len f1_len h) (fun f cdv A outer s H vs Q E hr h => ?_)
  obtain ⟨G, v, d, rfl, s, hd, k⟩ := spB_of h
  refine ⟨_, (pss_one (ps_ret (pe_and (pe_callB call_isi (by rfl) T.n_isinstance (by decide +kernel) (pa_cons (pv 0) (pa_cons (pe_bltn (v := .ty "int") (by rfl) T.n_int (by decide +kernel) rfl) pa_nil))) (pe_one (pe_not (pe_callB call_isi (by rfl) T.n_isinstance (by decide +kernel) (pa_cons (pv 0) (pa_cons (pe_bltn (v := .ty "bool") (by rfl) T.n_bool (by decide +kernel) rfl) pa_nil)))))))), ?_⟩
  have e : isNu d = ((kd d == "int" || kd d == "bool") && !(kd d == "bool")) := by cases d <;> rfl
  rw [e] at k
  exact Ev.ret s (ev_andV (ev_isInt (evd_var rfl hd)) fun _ => ev_notV (ev_isBool (evd_var rfl hd))) k
theorem ok_is_integer (T : Txt P K mg CN fI) (D : Df K mg "is_integer" s_is_integer) (D_is_number : DefOk P w K mg base CX0 1 "is_number" ["value"] (spB isNu)) : DefOk P w K mg base CX0 2 "is_integer" ["value"] (spB isIn) := by
  refine D.ok sc_is_integer (fun _ _ _ _ _ _ us hl => match us, hl with | [_], _ => rfl) (fun vs H Q E h => spF_len f1_len h) (fun f cdv A outer s H vs Q E hr h => ?_)
  obtain ⟨G, v, d, rfl, s, hd, k⟩ := spB_of h
  refine ⟨_, (pss_one (ps_ret (pe_and (pe_callD D_is_number (hr.mono (by decide)) pass0 (pa_cons (pv 0) pa_nil)) (pe_one (pe_chain op_lt op_lt (pe_un un_neg (pe_gInt (by rfl) T.g_LIMIT)) (pv 0) (pe_gInt (by rfl) T.g_LIMIT)))))), ?_⟩
  have e : isIn d = (isNu d && isIn d) := by cases d <;> rfl
  rw [e] at k
  refine Ev.ret s (ev_andV (ev_callB (evd_var rfl hd)) fun hb => ?_) k
  cases d with
  | int i => rw [hd.int_]; exact ev_chain (ev_un ev_c ru_neg) (ev_var rfl) ev_c
  | _ => cases hb
theorem ok_is_within (T : Txt P K mg CN fI) (D : Df K mg "is_within" s_is_within) (D_is_integer : DefOk P w K mg base CX0 2 "is_integer" ["value"] (spB isIn)) : DefOk P w K mg base CX0 3 "is_within" ["value", "low", "high"] spW := by
  refine D.ok sc_is_within (fun _ _ _ _ _ _ us hl => match us, hl with | [_, _, _], _ => rfl) (fun vs H Q E h => spF_len (fun ds d e => ?_) h) (fun f cdv A outer s H vs Q E hr h => ?_)
  · split at e
    · rfl
    · cases e
  obtain ⟨G, ds, d0, s, h2, h3, k⟩ := h
  dsimp only at h3
  split at h3
  · rename_i d a b
    cases h3
    cases h2 with
    | cons hd t =>
      cases t with
      | cons ha t =>
        cases t with
        | cons hb t =>
          cases t
          refine ⟨_, (pss_one (ps_ret (pe_and (pe_callD D_is_integer (hr.mono (by decide)) pass0 (pa_cons (pv 0) pa_nil)) (pe_one (pe_chain op_le op_le (pv 1) (pv 0) (pv 2)))))), ?_⟩
          have e : within a b d = (isIn d && within a b d) := by
            cases d with
            | int i =>
              show ((decide (-lim < i) && decide (i < lim)) && _) = ((decide (-lim < i) && decide (i < lim)) && ((decide (-lim < i) && decide (i < lim)) && _))
              cases (decide (-lim < i) && decide (i < lim)) <;> rfl
            | _ => rfl
          rw [e] at k
          refine Ev.ret s (ev_andV (ev_callB (evd_var rfl hd)) fun hb2 => ?_) (fun H1 x1 => k _ G H1 (Gr.keep s x1) (.bl _))
          cases d with
          | int i =>
            rw [hd.int_, ha.int_, hb.int_]
            have e2 : within a b (.int i) = (decide (a ≤ i) && decide (i ≤ b)) := by
              show ((decide (-lim < i) && decide (i < lim)) && _) = _
              rw [show (decide (-lim < i) && decide (i < lim)) = true from hb2]
              rfl
            rw [e2]
            exact ev_chain (ev_var rfl) (ev_var rfl) (ev_var rfl)
          | _ => cases hb2
  · cases h3
end
end My
set_option maxHeartbeats 4000000
/-! The end of a law with one table of code objects (a def with lambdas), where no repr is under way. law_callT1 follows the library's law_callTs, for one table and with the premise of LfGuard. -/
namespace LfT
open PySem PySem.Spec PyProof.Rows L2 LamX
/-- what may be tracked at the law's own call: the script and the table -/
def H0 (a T : Addr) (o : Obj) (xs : List V) : Hp := fun b => if b = T then some (.tbl #[]) else if b = a then some (.frz o (.lst xs)) else none
section
variable {P : Program} {w : World} {K : PySem.W.Frag} {mg mb : Str → Option Value} {CX : CXT} {k : Nat} {fa a c T : Addr} {fd : FuncData} {x : Str} {sp : Sp} {s₁ : Shared} {vs : List Value} {ns : List Int}
theorem law_core {H : Hp} (KX : K.In s₁.heap) (hns : s₁.heap.Ns mainGlobals mg) (hb : s₁.heap.Ns builtinsNs mb) (hbb : ∀ x : Str, x ≠ "__name__" → mb x = bootBuiltins x) (hlim : s₁.heap.NoLimit) (hg : s₁.gens = #[])
    (hT : s₁.heap.get? T = some { cls := .none, data := .fields #[] }) (nT : K.lookup T = none) (C : PySem.W.CodeHd s₁.heap c T)
    (hbm : ∃ (bm : Addr) (ob : Obj), mg "__builtins__" = some (.ref bm) ∧ bm ≠ builtinsNs ∧ s₁.heap.get? bm = some ob ∧ ob.cls = .type "module" ∧ ob.dict = some builtinsNs ∧ ob.data = .plain)
    (ha : s₁.heap.get? a = some { cls := .type "list", data := .seq vs.toArray }) (hr : Room k callerA)
    (F : ∀ base : Heap, K.In base → base.Ns mainGlobals mg → TabB base mg c T → FnOkG P w K mg base CX k fa fd [x] sp) (hbind : ∀ (s : Shared) (u : Value), BindsTo s fd ⟨[u], []⟩ [(x, u)])
    (hsp : sp [.ref a] H (fun v _ => v = .bl true) fun _ _ _ => False) (hCX : ∀ H e s', CX [] H s₁ (fun _ _ _ => False) e s' → False)
    (hH : H T = some (.tbl #[])) (hO : ∀ b u, H b = some u → b = T ∨ (b = a ∧ K.lookup a = none ∧ ∃ o xs, u = .frz o (.lst xs))) (hok : HOk P w H s₁.heap) :
    codeAny (model P w) callerA (.call (.ref fa) ⟨[.ref a], []⟩) (fun r s' => r = .ok (.ret (.bool true)) ∧ OldK s₁.heap s'.heap ∧ s'.os = s₁.os ∧ AllBare s'.gens) s₁ := by
  have free : ∀ {b : Addr} {o : Obj}, s₁.heap.get? b = some o → (∀ us n, o.data ≠ .seq us n) → o.data ≠ .fields #[] → H b = none := fun {b o} e n1 n2 => by
    cases q : H b with
    | none => rfl
    | some u =>
      rcases hO b u q with z | ⟨z, _⟩
      · rw [z, hT] at e; cases e; exact (n2 rfl).elim
      · rw [z, ha] at e; cases e; exact (n1 _ _ rfl).elim
  have put : ∀ {b : Addr} {o : Obj}, s₁.heap.get? b = some o → H b = none → (hidT s₁.heap H).get? b = some o := fun e n => hidT_get e n
  have nsK : ∀ {b : Addr} {m : Str → Option Value}, s₁.heap.Ns b m → (hidT s₁.heap H).Ns b m := fun {b m} ⟨o, es, ep, e, d, r⟩ =>
    ⟨o, es, ep, put e (free e (fun us n z => by rw [d] at z; cases z) fun z => by rw [d] at z; cases z), d, r⟩
  have inB : K.In (hidT s₁.heap H) := fun b o e => put (KX b o e) (by
    cases q : H b with
    | none => rfl
    | some u =>
      rcases hO b u q with z | ⟨z, z2, _⟩
      · rw [z, nT] at e; cases e
      · rw [z, z2] at e; cases e)
  have TB : TabB (hidT s₁.heap H) mg c T := by
    refine ⟨?_, ?_, fun z => ?_⟩
    · obtain ⟨o, us, f, tf, fl, tg, inF, tx, tt, e1, r1, r2, r3, r4⟩ := C
      exact ⟨o, us, f, tf, fl, tg, inF, tx, tt, put e1 (free e1 (fun us n z => by rw [r2] at z; cases z) fun z => by rw [r2] at z; cases z; simp at r3), r1, r2, r3, r4⟩
    · obtain ⟨bm, ob, b1, b2, b3, b4, b5, b6⟩ := hbm
      refine ⟨bm, ob, b1, b2, fun q => ?_, fun q => ?_, put b3 (free b3 (fun us n z => by rw [b6] at z; cases z) fun z => by rw [b6] at z; cases z), b4, b5, b6⟩
      · obtain ⟨o, es, ep, e, hd, _⟩ := hns
        rw [q, e] at b3; cases b3; rw [hd] at b6; cases b6
      · rw [q, hT] at b3; cases b3; cases b6
    · obtain ⟨o, es, ep, e, hd, _⟩ := hns
      rw [z, hT] at e; cases e; cases hd
  have md : L2.Mod K mg (hidT s₁.heap H) := ⟨inB, nsK hns, ⟨mb, nsK hb, hbb⟩, let ⟨mc, h1, h2⟩ := hlim; ⟨mc, nsK h1, h2⟩⟩
  have e0 : Env0 P w K mg (hidT s₁.heap H) callerA [] s₁ H := ⟨rfl, md, fun b o e => of_hidT e, Nat.le_of_eq (hidT_size _ _), trivial, fun b z => absurd (show b ∈ ([] : List Addr) from z) (by simp), hok, .of_eq hg⟩
  refine codeAny_mono ((F _ inB (nsK hns) TB).run callerA [] s₁ H ⟨[.ref a], []⟩ [.ref a] [.ref a] _ _ rfl hr e0 (hbind s₁ (.ref a)) (.cons rfl .nil) hsp) fun r s' z => ?_
  cases r with
  | error e => exact (hCX H e s' z).elim
  | ok fl =>
    cases fl with
    | next => exact False.elim z
    | brk => exact False.elim z
    | cont => exact False.elim z
    | ret u =>
      obtain ⟨v, H', os, bare, un, hok', r', q⟩ := z
      obtain rfl : v = .bl true := q
      obtain rfl : u = Value.bool true := r'
      have same : ∀ b o, b ≠ T → s₁.heap.get? b = some o → s'.heap.get? b = some o := fun b o nb e => by
        cases q : H b with
        | none => exact un.keep b o e q (by intro z; exact absurd (show b ∈ ([] : List Addr) from z) (by simp)) (by simp)
        | some u =>
          rcases hO b u q with z | ⟨_, _, ob, xs, rfl⟩
          · exact absurd z nb
          · obtain ⟨e1, _⟩ := hok b _ q
            obtain ⟨e2, _⟩ := hok' b _ (un.frzs b ob _ q)
            rw [e] at e1; cases e1
            exact e2
      obtain ⟨more, hm⟩ : ∃ more : Array Value, s'.heap.get? T = some { cls := .none, data := .fields more } := by
        obtain ⟨more, z⟩ := un.tbls T #[] hH
        exact ⟨_, hok' T _ z⟩
      refine ⟨rfl, ⟨fun b o e => ?_, fun b o e => ?_⟩, os, bare⟩
      · by_cases nb : b = T
        · subst nb
          rw [hT] at e; cases e
          exact .inr (.inl ⟨(C.tab hT).isCodeTable, rfl, #[], more, rfl, by rw [Array.empty_append]; exact hm⟩)
        · exact .inl (same b o nb e)
      · by_cases nb : b = T
        · subst nb
          exact ⟨_, hm⟩
        · exact ⟨o, same b o nb e⟩
theorem law_callT1 (KX : K.In s₁.heap) (hns : s₁.heap.Ns mainGlobals mg) (hb : s₁.heap.Ns builtinsNs mb) (hbb : ∀ x : Str, x ≠ "__name__" → mb x = bootBuiltins x) (hlim : s₁.heap.NoLimit) (hg : s₁.gens = #[])
    (hT : s₁.heap.get? T = some { cls := .none, data := .fields #[] }) (nT : K.lookup T = none) (C : PySem.W.CodeHd s₁.heap c T)
    (hbm : ∃ (bm : Addr) (ob : Obj), mg "__builtins__" = some (.ref bm) ∧ bm ≠ builtinsNs ∧ s₁.heap.get? bm = some ob ∧ ob.cls = .type "module" ∧ ob.dict = some builtinsNs ∧ ob.data = .plain)
    (ha : s₁.heap.get? a = some { cls := .type "list", data := .seq vs.toArray }) (hi : IntsAre vs ns) (hl : ns.length ≤ sizeLine) (hr : Room k callerA)
    (F : ∀ base : Heap, K.In base → base.Ns mainGlobals mg → TabB base mg c T → FnOkG P w K mg base CX k fa fd [x] sp) (hbind : ∀ (s : Shared) (u : Value), BindsTo s fd ⟨[u], []⟩ [(x, u)])
    (hsp : ∀ H : Hp, H T = some (.tbl #[]) → SqL K H a (ns.map V.int) → sp [.ref a] H (fun v _ => v = .bl true) fun _ _ _ => False) (hCX : ∀ H e s', CX [] H s₁ (fun _ _ _ => False) e s' → False) :
    codeAny (model P w) callerA (.call (.ref fa) ⟨[.ref a], []⟩) (fun r s' => r = .ok (.ret (.bool true)) ∧ OldK s₁.heap s'.heap ∧ s'.os = s₁.os ∧ AllBare s'.gens) s₁ := by
  have rv := vals_ints hi
  have lenV := hi.length
  have ne : a ≠ T := fun z => by
    rw [z, hT] at ha
    have q : Data.fields #[] = Data.seq vs.toArray _ := congrArg Obj.data (Option.some.inj ha)
    cases q
  cases hk : K.lookup a with
  | some o =>
    have e := KX a o hk
    rw [ha] at e
    cases e
    refine law_core (H := fun b => if b = T then some (.tbl #[]) else none) KX hns hb hbb hlim hg hT nT C hbm ha hr F hbind (hsp _ (if_pos rfl) (.inr ⟨_, vs.toArray, _, hk, rfl, rfl, rfl, by rw [List.size_toArray, lenV]; exact hl, by simpa using rv⟩)) hCX (if_pos rfl) (fun b u z => ?_) (fun b u z => ?_)
    · by_cases q : b = T
      · exact .inl q
      · have z' := (if_neg q).symm.trans z
        cases z'
    · by_cases q : b = T
      · have z' := (if_pos q).symm.trans z
        cases z'
        subst q
        exact hT
      · have z' := (if_neg q).symm.trans z
        cases z'
  | none =>
    refine law_core (H := H0 a T { cls := .type "list", data := .seq vs.toArray } (ns.map V.int)) KX hns hb hbb hlim hg hT nT C hbm ha hr F hbind (hsp _ (if_pos rfl) (.inl (.inr ⟨_, (if_neg ne).trans (if_pos rfl)⟩))) hCX (if_pos rfl) (fun b u z => ?_) (fun b u z => ?_)
    · by_cases q : b = T
      · exact .inl q
      · have z1 := (if_neg q).symm.trans z
        by_cases q2 : b = a
        · have z' := (if_pos q2).symm.trans z1
          cases z'
          exact .inr ⟨q2, hk, _, _, rfl⟩
        · have z' := (if_neg q2).symm.trans z1
          cases z'
    · by_cases q : b = T
      · have z' := (if_pos q).symm.trans z
        cases z'
        subst q
        exact hT
      · have z1 := (if_neg q).symm.trans z
        by_cases q2 : b = a
        · have z' := (if_pos q2).symm.trans z1
          cases z'
          subst q2
          exact ⟨ha, by rw [List.length_map]; exact hl, vs, _, rv, ha⟩
        · have z' := (if_neg q2).symm.trans z1
          cases z'
end
/-- the walk: the def y of the text has the lambdas -/
theorem walk_ofT1 {l : PySem.W.OpenLaw} {n k : Nat} {q : Program} {loose : List Str} {XP : (Str → Option Value) → Heap → Prop} {YP : World → Heap → Prop} {d : DefRec} {K : Params → PySem.W.Frag} {CX : CXT} {sp : PySem.W.Frag → Addr → Sp} {x y : Str} {dy : DefRec}
    (hn : l.most = some n) (hn2 : n ≤ sizeLine) (hdf : d.params.defaults = []) (hr : Room k callerA) (hrec : (recsOf q).find? (fun e => e.name == y) = some dy)
    (hY : ∀ (w : World) (h : Heap), YP w h → (K w.params).In h)
    (F : ∀ (w : World) (mg : Str → Option Value) (fa : Addr) (h : Heap), (K w.params).In h → h.Ns mainGlobals mg → mg d.name = some (.ref fa) →
      ∃ (fd : FuncData) (c T : Addr), PySem.W.tabIn (K w.params) y = some (c, T) ∧ (K w.params).lookup T = none ∧ (∀ (s : Shared) (u : Value), BindsTo s fd ⟨[u], []⟩ [(x, u)]) ∧
        ∀ base : Heap, (K w.params).In base → base.Ns mainGlobals mg → TabB base mg c T → FnOkG l.prog w (K w.params) mg base CX k fa fd [x] (sp (K w.params) T))
    (hsp : ∀ (K : PySem.W.Frag) (H : Hp) (a T : Addr) (ns : List Int), ns.length ≤ n → H T = some (.tbl #[]) → SqL K H a (ns.map V.int) → sp K T [.ref a] H (fun v _ => v = .bl true) fun _ _ _ => False)
    (hCX : ∀ (H : Hp) (s : Shared) (e : Value) (s' : Shared), CX [] H s (fun _ _ _ => False) e s' → False) :
    PySem.W.WalkO q loose XP YP l.row.toRowW d [] (fun f vs => PySem.call f vs) := by
  refine Att.attach_call hn hdf fun w s₀ s₁ mg mb fa o pm cd doc a vs ns G Y ho hd hcd hmg hobj hints hlen hg => ?_
  have KX := hY w _ Y
  obtain ⟨fd, c, T, ht, nT, hb, hF⟩ := F w mg fa _ KX G.T.g hmg
  obtain ⟨C, hT⟩ := PySem.W.tab_of G.T KX hrec ht
  exact law_callT1 KX G.T.g G.T.b G.T.builtins G.T.nolimit hg hT nT C G.T.bmain hobj hints (Nat.le_trans hlen hn2) hr hF hb (fun H hH hS => hsp (K w.params) H a T ns hlen hH hS) fun H e s' => hCX H s₁ e s'
end LfT
set_option maxHeartbeats 4000000
/-! The end of a law with several tables of code objects (defs with lambdas), where no repr is under way: LfTab for a list of tables -/
namespace LfT
open PySem PySem.Spec PyProof.Rows L2 LamX
def HS (a : Addr) (Ts : List Addr) (o : Obj) (xs : List V) : Hp := fun b => if b ∈ Ts then some (.tbl #[]) else if b = a then some (.frz o (.lst xs)) else none
section
variable {P : Program} {w : World} {K : PySem.W.Frag} {mg mb : Str → Option Value} {CX : CXT} {k : Nat} {fa a : Addr} {cs : List (Addr × Addr)} {fd : FuncData} {x : Str} {sp : Sp} {s₁ : Shared} {vs : List Value} {ns : List Int}
theorem law_coreS {H : Hp} (KX : K.In s₁.heap) (hns : s₁.heap.Ns mainGlobals mg) (hb : s₁.heap.Ns builtinsNs mb) (hbb : ∀ x : Str, x ≠ "__name__" → mb x = bootBuiltins x) (hlim : s₁.heap.NoLimit) (hg : s₁.gens = #[])
    (hT : ∀ p ∈ cs, s₁.heap.get? p.2 = some { cls := .none, data := .fields #[] }) (nT : ∀ p ∈ cs, K.lookup p.2 = none) (C : ∀ p ∈ cs, PySem.W.CodeHd s₁.heap p.1 p.2)
    (hbm : ∃ (bm : Addr) (ob : Obj), mg "__builtins__" = some (.ref bm) ∧ bm ≠ builtinsNs ∧ s₁.heap.get? bm = some ob ∧ ob.cls = .type "module" ∧ ob.dict = some builtinsNs ∧ ob.data = .plain)
    (ha : s₁.heap.get? a = some { cls := .type "list", data := .seq vs.toArray }) (hr : Room k callerA)
    (F : ∀ base : Heap, K.In base → base.Ns mainGlobals mg → (∀ p ∈ cs, TabB base mg p.1 p.2) → FnOkG P w K mg base CX k fa fd [x] sp) (hbind : ∀ (s : Shared) (u : Value), BindsTo s fd ⟨[u], []⟩ [(x, u)])
    (hsp : sp [.ref a] H (fun v _ => v = .bl true) fun _ _ _ => False) (hCX : ∀ H e s', CX [] H s₁ (fun _ _ _ => False) e s' → False)
    (hH : ∀ p ∈ cs, H p.2 = some (.tbl #[])) (hO : ∀ b u, H b = some u → b ∈ cs.map (·.2) ∨ (b = a ∧ K.lookup a = none ∧ ∃ o xs, u = .frz o (.lst xs))) (hok : HOk P w H s₁.heap) :
    codeAny (model P w) callerA (.call (.ref fa) ⟨[.ref a], []⟩) (fun r s' => r = .ok (.ret (.bool true)) ∧ OldK s₁.heap s'.heap ∧ s'.os = s₁.os ∧ AllBare s'.gens) s₁ := by
  have isT : ∀ b ∈ cs.map (·.2), s₁.heap.get? b = some { cls := .none, data := .fields #[] } := fun b hb => by
    obtain ⟨p, hp, e⟩ := List.mem_map.mp hb
    rw [← e]
    exact hT p hp
  have free : ∀ {b : Addr} {o : Obj}, s₁.heap.get? b = some o → (∀ us n, o.data ≠ .seq us n) → o.data ≠ .fields #[] → H b = none := fun {b o} e n1 n2 => by
    cases q : H b with
    | none => rfl
    | some u =>
      rcases hO b u q with z | ⟨z, _⟩
      · rw [isT b z] at e; cases e; exact (n2 rfl).elim
      · rw [z, ha] at e; cases e; exact (n1 _ _ rfl).elim
  have put : ∀ {b : Addr} {o : Obj}, s₁.heap.get? b = some o → H b = none → (hidT s₁.heap H).get? b = some o := fun e n => hidT_get e n
  have nsK : ∀ {b : Addr} {m : Str → Option Value}, s₁.heap.Ns b m → (hidT s₁.heap H).Ns b m := fun {b m} ⟨o, es, ep, e, d, r⟩ =>
    ⟨o, es, ep, put e (free e (fun us n z => by rw [d] at z; cases z) fun z => by rw [d] at z; cases z), d, r⟩
  have inB : K.In (hidT s₁.heap H) := fun b o e => put (KX b o e) (by
    cases q : H b with
    | none => rfl
    | some u =>
      rcases hO b u q with z | ⟨z, z2, _⟩
      · obtain ⟨p, hp, ep⟩ := List.mem_map.mp z
        rw [← ep, nT p hp] at e; cases e
      · rw [z, z2] at e; cases e)
  have TB : ∀ p ∈ cs, TabB (hidT s₁.heap H) mg p.1 p.2 := fun p hp => by
    have hTp := hT p hp
    refine ⟨?_, ?_, fun z => ?_⟩
    · obtain ⟨o, us, f, tf, fl, tg, inF, tx, tt, e1, r1, r2, r3, r4⟩ := C p hp
      exact ⟨o, us, f, tf, fl, tg, inF, tx, tt, put e1 (free e1 (fun us n z => by rw [r2] at z; cases z) fun z => by rw [r2] at z; cases z; simp at r3), r1, r2, r3, r4⟩
    · obtain ⟨bm, ob, b1, b2, b3, b4, b5, b6⟩ := hbm
      refine ⟨bm, ob, b1, b2, fun q => ?_, fun q => ?_, put b3 (free b3 (fun us n z => by rw [b6] at z; cases z) fun z => by rw [b6] at z; cases z), b4, b5, b6⟩
      · obtain ⟨o, es, ep, e, hd, _⟩ := hns
        rw [q, e] at b3; cases b3; rw [hd] at b6; cases b6
      · rw [q, hTp] at b3; cases b3; cases b6
    · obtain ⟨o, es, ep, e, hd, _⟩ := hns
      rw [z, hTp] at e; cases e; cases hd
  have md : L2.Mod K mg (hidT s₁.heap H) := ⟨inB, nsK hns, ⟨mb, nsK hb, hbb⟩, let ⟨mc, h1, h2⟩ := hlim; ⟨mc, nsK h1, h2⟩⟩
  have e0 : Env0 P w K mg (hidT s₁.heap H) callerA [] s₁ H := ⟨rfl, md, fun b o e => of_hidT e, Nat.le_of_eq (hidT_size _ _), trivial, fun b z => absurd (show b ∈ ([] : List Addr) from z) (by simp), hok, .of_eq hg⟩
  refine codeAny_mono ((F _ inB (nsK hns) TB).run callerA [] s₁ H ⟨[.ref a], []⟩ [.ref a] [.ref a] _ _ rfl hr e0 (hbind s₁ (.ref a)) (.cons rfl .nil) hsp) fun r s' z => ?_
  cases r with
  | error e => exact (hCX H e s' z).elim
  | ok fl =>
    cases fl with
    | next => exact False.elim z
    | brk => exact False.elim z
    | cont => exact False.elim z
    | ret u =>
      obtain ⟨v, H', os, bare, un, hok', r', q⟩ := z
      obtain rfl : v = .bl true := q
      obtain rfl : u = Value.bool true := r'
      have same : ∀ b o, b ∉ cs.map (·.2) → s₁.heap.get? b = some o → s'.heap.get? b = some o := fun b o nb e => by
        cases q : H b with
        | none => exact un.keep b o e q (by intro z; exact absurd (show b ∈ ([] : List Addr) from z) (by simp)) (by simp)
        | some u =>
          rcases hO b u q with z | ⟨_, _, ob, xs, rfl⟩
          · exact absurd z nb
          · obtain ⟨e1, _⟩ := hok b _ q
            obtain ⟨e2, _⟩ := hok' b _ (un.frzs b ob _ q)
            rw [e] at e1; cases e1
            exact e2
      have grown : ∀ p ∈ cs, ∃ more : Array Value, s'.heap.get? p.2 = some { cls := .none, data := .fields more } := fun p hp => by
        obtain ⟨more, z⟩ := un.tbls p.2 #[] (hH p hp)
        exact ⟨_, hok' p.2 _ z⟩
      refine ⟨rfl, ⟨fun b o e => ?_, fun b o e => ?_⟩, os, bare⟩
      · by_cases nb : b ∈ cs.map (·.2)
        · obtain ⟨p, hp, ep⟩ := List.mem_map.mp nb
          obtain ⟨more, hm⟩ := grown p hp
          rw [← ep] at e ⊢
          rw [hT p hp] at e; cases e
          exact .inr (.inl ⟨((C p hp).tab (hT p hp)).isCodeTable, rfl, #[], more, rfl, by rw [Array.empty_append]; exact hm⟩)
        · exact .inl (same b o nb e)
      · by_cases nb : b ∈ cs.map (·.2)
        · obtain ⟨p, hp, ep⟩ := List.mem_map.mp nb
          obtain ⟨more, hm⟩ := grown p hp
          rw [← ep]
          exact ⟨_, hm⟩
        · exact ⟨o, same b o nb e⟩
theorem law_callTG (KX : K.In s₁.heap) (hns : s₁.heap.Ns mainGlobals mg) (hb : s₁.heap.Ns builtinsNs mb) (hbb : ∀ x : Str, x ≠ "__name__" → mb x = bootBuiltins x) (hlim : s₁.heap.NoLimit) (hg : s₁.gens = #[])
    (hT : ∀ p ∈ cs, s₁.heap.get? p.2 = some { cls := .none, data := .fields #[] }) (nT : ∀ p ∈ cs, K.lookup p.2 = none) (C : ∀ p ∈ cs, PySem.W.CodeHd s₁.heap p.1 p.2)
    (hbm : ∃ (bm : Addr) (ob : Obj), mg "__builtins__" = some (.ref bm) ∧ bm ≠ builtinsNs ∧ s₁.heap.get? bm = some ob ∧ ob.cls = .type "module" ∧ ob.dict = some builtinsNs ∧ ob.data = .plain)
    (ha : s₁.heap.get? a = some { cls := .type "list", data := .seq vs.toArray }) (hi : IntsAre vs ns) (hl : ns.length ≤ sizeLine) (hr : Room k callerA)
    (F : ∀ base : Heap, K.In base → base.Ns mainGlobals mg → (∀ p ∈ cs, TabB base mg p.1 p.2) → FnOkG P w K mg base CX k fa fd [x] sp) (hbind : ∀ (s : Shared) (u : Value), BindsTo s fd ⟨[u], []⟩ [(x, u)])
    (hsp : ∀ H : Hp, (∀ p ∈ cs, H p.2 = some (.tbl #[])) → SqL K H a (ns.map V.int) → sp [.ref a] H (fun v _ => v = .bl true) fun _ _ _ => False) (hCX : ∀ H e s', CX [] H s₁ (fun _ _ _ => False) e s' → False) :
    codeAny (model P w) callerA (.call (.ref fa) ⟨[.ref a], []⟩) (fun r s' => r = .ok (.ret (.bool true)) ∧ OldK s₁.heap s'.heap ∧ s'.os = s₁.os ∧ AllBare s'.gens) s₁ := by
  have rv := vals_ints hi
  have lenV := hi.length
  have mem : ∀ p ∈ cs, p.2 ∈ cs.map (·.2) := fun p hp => List.mem_map.mpr ⟨p, hp, rfl⟩
  have isT : ∀ b ∈ cs.map (·.2), s₁.heap.get? b = some { cls := .none, data := .fields #[] } := fun b hb => by
    obtain ⟨p, hp, e⟩ := List.mem_map.mp hb
    rw [← e]
    exact hT p hp
  have ne : a ∉ cs.map (·.2) := fun z => by
    rw [isT a z] at ha
    have q : Data.fields #[] = Data.seq vs.toArray _ := congrArg Obj.data (Option.some.inj ha)
    cases q
  cases hk : K.lookup a with
  | some o =>
    have e := KX a o hk
    rw [ha] at e
    cases e
    refine law_coreS (H := fun b => if b ∈ cs.map (·.2) then some (.tbl #[]) else none) KX hns hb hbb hlim hg hT nT C hbm ha hr F hbind (hsp _ (fun p hp => if_pos (mem p hp)) (.inr ⟨_, vs.toArray, _, hk, rfl, rfl, rfl, by rw [List.size_toArray, lenV]; exact hl, by simpa using rv⟩)) hCX (fun p hp => if_pos (mem p hp)) (fun b u z => ?_) (fun b u z => ?_)
    · by_cases q : b ∈ cs.map (·.2)
      · exact .inl q
      · have z' := (if_neg q).symm.trans z
        cases z'
    · by_cases q : b ∈ cs.map (·.2)
      · have z' := (if_pos q).symm.trans z
        cases z'
        exact isT b q
      · have z' := (if_neg q).symm.trans z
        cases z'
  | none =>
    refine law_coreS (H := HS a (cs.map (fun p : Addr × Addr => p.2)) { cls := .type "list", data := .seq vs.toArray } (ns.map V.int)) KX hns hb hbb hlim hg hT nT C hbm ha hr F hbind (hsp _ (fun p hp => if_pos (mem p hp)) (.inl (.inr ⟨_, (if_neg ne).trans (if_pos rfl)⟩))) hCX (fun p hp => if_pos (mem p hp)) (fun b u z => ?_) (fun b u z => ?_)
    · by_cases q : b ∈ cs.map (·.2)
      · exact .inl q
      · have z1 := (if_neg q).symm.trans z
        by_cases q2 : b = a
        · have z' := (if_pos q2).symm.trans z1
          cases z'
          exact .inr ⟨q2, hk, _, _, rfl⟩
        · have z' := (if_neg q2).symm.trans z1
          cases z'
    · by_cases q : b ∈ cs.map (·.2)
      · have z' := (if_pos q).symm.trans z
        cases z'
        exact isT b q
      · have z1 := (if_neg q).symm.trans z
        by_cases q2 : b = a
        · have z' := (if_pos q2).symm.trans z1
          cases z'
          subst q2
          exact ⟨ha, by rw [List.length_map]; exact hl, vs, _, rv, ha⟩
        · have z' := (if_neg q2).symm.trans z1
          cases z'
end
/-- the walk: the defs ys of the text have the lambdas -/
theorem walk_ofTG {l : PySem.W.OpenLaw} {n k : Nat} {q : Program} {loose : List Str} {XP : (Str → Option Value) → Heap → Prop} {YP : World → Heap → Prop} {d : DefRec} {K : Params → PySem.W.Frag} {CX : CXT} {sp : PySem.W.Frag → List (Addr × Addr) → Sp} {x : Str} {ys : List Str}
    (hn : l.most = some n) (hn2 : n ≤ sizeLine) (hdf : d.params.defaults = []) (hr : Room k callerA) (hrec : ∀ y ∈ ys, ∃ dy, (recsOf q).find? (fun e => e.name == y) = some dy)
    (hY : ∀ (w : World) (h : Heap), YP w h → (K w.params).In h)
    (F : ∀ (w : World) (mg : Str → Option Value) (fa : Addr) (h : Heap), (K w.params).In h → h.Ns mainGlobals mg → mg d.name = some (.ref fa) →
      ∃ (fd : FuncData) (cs : List (Addr × Addr)), (∀ p ∈ cs, ∃ y ∈ ys, PySem.W.tabIn (K w.params) y = some p) ∧ (∀ p ∈ cs, (K w.params).lookup p.2 = none) ∧ (∀ (s : Shared) (u : Value), BindsTo s fd ⟨[u], []⟩ [(x, u)]) ∧
        ∀ base : Heap, (K w.params).In base → base.Ns mainGlobals mg → (∀ p ∈ cs, TabB base mg p.1 p.2) → FnOkG l.prog w (K w.params) mg base CX k fa fd [x] (sp (K w.params) cs))
    (hsp : ∀ (K : PySem.W.Frag) (H : Hp) (a : Addr) (cs : List (Addr × Addr)) (ns : List Int), ns.length ≤ n → (∀ p ∈ cs, H p.2 = some (.tbl #[])) → SqL K H a (ns.map V.int) → sp K cs [.ref a] H (fun v _ => v = .bl true) fun _ _ _ => False)
    (hCX : ∀ (H : Hp) (s : Shared) (e : Value) (s' : Shared), CX [] H s (fun _ _ _ => False) e s' → False) :
    PySem.W.WalkO q loose XP YP l.row.toRowW d [] (fun f vs => PySem.call f vs) := by
  refine Att.attach_call hn hdf fun w s₀ s₁ mg mb fa o pm cd doc a vs ns G Y ho hd hcd hmg hobj hints hlen hg => ?_
  have KX := hY w _ Y
  obtain ⟨fd, cs, ht, nT, hb, hF⟩ := F w mg fa _ KX G.T.g hmg
  have both : ∀ p ∈ cs, PySem.W.CodeHd s₁.heap p.1 p.2 ∧ s₁.heap.get? p.2 = some { cls := .none, data := .fields #[] } := fun p hp => by
    obtain ⟨y, hy, e⟩ := ht p hp
    obtain ⟨dy, hd⟩ := hrec y hy
    exact PySem.W.tab_of G.T KX hd e
  exact law_callTG KX G.T.g G.T.b G.T.builtins G.T.nolimit hg (fun p hp => (both p hp).2) nT (fun p hp => (both p hp).1) G.T.bmain hobj hints (Nat.le_trans hlen hn2) hr hF hb (fun H hH hS => hsp (K w.params) H a cs ns hlen hH hS) fun H e s' => hCX H s₁ e s'
end LfT
set_option maxHeartbeats 4000000
/-! x(lambda: e) where x is «def x(a): try: return a() / except E: return 'text'», with few premises; a def whose code object is known -/
namespace LfT
open PySem PySem.Spec PyProof.Rows L2 LamX
def DfC (K : PySem.W.Frag) (mg : Str → Option Value) (x : Str) (st : Stmt) (c : Addr) : Prop := ∃ f fd, Fun K x x st f fd ∧ mg x = some (.ref f) ∧ fd.code = .ref c
section
variable {P : Program} {w : World} {K : PySem.W.Frag} {mg : Str → Option Value} {base : Heap}
theorem DfC.okG {x : Str} {st : Stmt} {c : Addr} {N ps : List Str} {k : Nat} {sp : Sp} (D : DfC K mg x st c) (S : FnScope N ps (defScope st))
    (bd : ∀ (kV doc pm : Value) (an : Option Addr) (cdv ct : Value) (us : List Value), us.length = ps.length → bindArgs (PySem.W.fnOf x x (defArgs st) (defBody st) (defScope st) .none kV doc pm an cdv ct) ⟨us, []⟩ = pure (ps.zip us))
    (len : ∀ vs H Q E, sp vs H Q E → vs.length = ps.length)
    (hbody : ∀ (f : Addr) (A : Around) (outer : List Env) (s : Shared) (H : Hp) (vs : List V) (Q : VK) (E : XK), (A.deeper (envOfC x (defScope st) s.heap.objs.size f (.ref c))).guards = some [] → Room k (A.deeper (envOfC x (defScope st) s.heap.objs.size f (.ref c))) → sp vs H Q E →
      ∃ t, PSs (cxOf CX0 P w K mg base N x (defScope st) f (.ref c) A outer s H E).nox (defBody st) t ∧ t { nx := fun _ H' => Q .non H', rt := Q } (start N vs) H) : DefOkG P w K mg base CX0 (k + 1) x ps sp := by
  obtain ⟨f, fd, F, hm, hc⟩ := D
  refine ⟨f, fd, hm, F.kp, F.binds bd, ?_⟩
  obtain ⟨oc, od, kV, doc, pm, an, cdv, ct, osl, rfl, lk, hcd⟩ := F.ex
  obtain rfl : cdv = .ref c := hc
  refine fn_ofG lk hcd S len fun A outer s H vs Q E hg hr hsp => ?_
  obtain ⟨t, h, q⟩ := hbody f A outer s H vs Q E hg hr hsp
  exact ⟨t, h.nox, q⟩
end
section
variable {X : Cx}
theorem pe_told {x a e ret : Str} {st : Stmt} {Ng : List Str} {j : Nat} {p1 p2 p3 p4 p5 p6 p7 p8 p lpos pos : Pos} {c P CS : Addr} {k : Nat} {params : Arguments} {body : Expr} {scope : Scope} {t : XK → TE} (D : Df X.K X.mg x st)
    (hst : defBody st = [.Try [.Return (some (.Call (.Name a p1) [] [] p2)) p3] [.ExceptHandler (some (.Name e p4)) none [.Return (some (.Constant (.str ret) j p5)) p6] p7] [] [] p8])
    (Sg : FnScope Ng [a] (defScope st)) (hNg : Ng[0]? = some a) (hva : Vis (defScope st) a)
    (bd : ∀ (kV doc pm : Value) (an : Option Addr) (cdv ct : Value) (us : List Value), us.length = [a].length → bindArgs (PySem.W.fnOf x x (defArgs st) (defBody st) (defScope st) .none kV doc pm an cdv ct) ⟨us, []⟩ = pure ([a].zip us))
    (hge : (defScope st).names.lookup e = some .globalImplicit) (hme : X.mg e = some (.ref CS)) (h0 : ∀ f : Addr, (L2.start Ng [V.ref f])[0]? = some (some (V.ref f)))
    (TB : TabB X.base X.mg c P) (hcode : X.env.code = .ref c) (hg : Gl X x) (hr : Room (k + 2) X.A) (L : LamS X.env.scope scope) (hdef : defaultsOf params X.env = ([], []))
    (hbind : ∀ (q : Str) (cl : List (Str × Addr)) (pm cv ctv : Value), bindArgs (PySem.W.kla_fn "<lambda>" q params body scope cl pm cv ctv) ⟨[], []⟩ = pure [])
    (hbody : ∀ (A : Around) (outer : List Env) (s : Shared) (H : Hp) (E : XK) (f c' : Addr), Room k (A.deeper (lamEnv X scope s.heap.objs.size f c')) → PE (lamCx X A outer s H E scope f c') body (t E))
    (hde : (e == ("__debug__" : Str)) = false := by decide) (hdb : (x == ("__debug__" : Str)) = false := by decide) (hd : (a == ("__debug__" : Str)) = false := by decide) (hcd : (a == ("__classdict__" : Str)) = false := by decide) :
    PE X (.Call (.Name x p) [.Lambda params body scope lpos] [] pos) (tLam [(P, X.env.qual ++ "<lambda>")] (TTold X.K CS ret) t) := by
  obtain ⟨g, fd, F, hm⟩ := D
  have hb := F.binds bd
  obtain ⟨oc, od, kV, doc, pm, an, cdv, ct, osl, rfl, lk, hcg⟩ := F.ex
  refine pe_lamcall hg hm F.kp lk hcg hb Sg hNg hva ?_ TB hcode (by simp) (fun p hp _ => by cases List.mem_singleton.mp hp; rfl) hr L hdef hbind hbody hdb hd hcd
  rw [hst]
  exact told_gives hge hme hde h0
end
end LfT
set_option maxHeartbeats 4000000
/-! def __init__(self, *v); C(*e); cls(*e); classmethods as one fact -/
namespace L2
open PySem PySem.Spec PyProof.Rows StX
/-- the promise of a def whose last parameter is *v, told by the tuple -/
def spStar (n : Nat) (sp : Sp) : Sp := fun vs H Q E => ∃ ws rest, vs = ws ++ rest ∧ ws.length = n ∧ rest.length ≤ sizeLine ∧ ∀ p, H p = Option.none → sp (ws ++ [V.ref p]) (upd H p (.tup rest)) Q E
def InitS (P : Program) (w : World) (K : PySem.W.Frag) (mg : Str → Option Value) (base : Heap) (CX : CXT) (k : Nat) (C : Addr) (sp : Sp) : Prop := ∃ f, Mk K C f ∧ FnR P w K mg base CX k f (spStar 1 sp)
/-- the classmethod m of the class at C, by its text -/
def Dc (K : PySem.W.Frag) (C : Addr) (m qual : Str) (st : Stmt) : Prop := ∃ mc p f fd, Fun K m qual st f fd ∧ ClX.CRead K C mc ∧ ClX.CMet K C mc m p f
def CmOk (P : Program) (w : World) (K : PySem.W.Frag) (mg : Str → Option Value) (base : Heap) (CX : CXT) (k : Nat) (C : Addr) (m : Str) (sp : Sp) : Prop :=
  ∃ mc p f, ClX.CRead K C mc ∧ ClX.CMet K C mc m p f ∧ FnR P w K mg base CX k f sp
section
variable {P : Program} {w : World} {K : PySem.W.Frag} {mg : Str → Option Value} {base : Heap} {C f : Addr} {fd : FuncData} {x qual : Str} {st : Stmt} {N ps : List Str} {k : Nat} {sp : Sp} {CX : CXT}
theorem Fun.star1 {p1 pv : Str} (F : Fun K x qual st f fd) (S : FnScope N [p1, pv] (defScope st)) (hCX : CXUp CX)
    (h0 : ∀ (kV doc pm : Value) (an : Option Addr) (cdv ct a : Value), bindArgs (PySem.W.fnOf x qual (defArgs st) (defBody st) (defScope st) .none kV doc pm an cdv ct) ⟨[a], []⟩ = (newTuple [] >>= fun t => pure [(p1, a), (pv, t)]))
    (h1 : ∀ (kV doc pm : Value) (an : Option Addr) (cdv ct a r : Value) (rs : List Value), bindArgs (PySem.W.fnOf x qual (defArgs st) (defBody st) (defScope st) .none kV doc pm an cdv ct) ⟨a :: r :: rs, []⟩ = (newTuple (r :: rs) >>= fun t => pure [(p1, a), (pv, t)]))
    (hbody : ∀ (cdv : Value) (A : Around) (outer : List Env) (s : Shared) (H : Hp) (vs : List V) (Q : VK) (E : XK), Room k (A.deeper (envOfC qual (defScope st) s.heap.objs.size f cdv)) → sp vs H Q E →
      ∃ t, PSs (cxOf CX P w K mg base N qual (defScope st) f cdv A outer s H E) (defBody st) t ∧ t { nx := fun _ H' => Q .non H', rt := Q } (start N vs) H) : FnR P w K mg base CX (k + 1) f (spStar 1 sp) := by
  obtain ⟨oc, od, kV, doc, pm, an, cdv, ct, osl, rfl, lk, hcd⟩ := F.ex
  exact fn_star (ps := [p1]) (pv := pv) lk hcd S hCX (bind_star1 (B := fun us => bindArgs (PySem.W.fnOf x qual (defArgs st) (defBody st) (defScope st) .none kV doc pm an cdv ct) ⟨us, []⟩) (h0 kV doc pm an cdv ct) (h1 kV doc pm an cdv ct)) (hbody cdv)
theorem Dm.okX (D : Dm K C x qual st) (S : FnScope N ps (defScope st))
    (bd : ∀ (kV doc pm : Value) (an : Option Addr) (cdv ct : Value) (us : List Value), us.length = ps.length → bindArgs (PySem.W.fnOf x qual (defArgs st) (defBody st) (defScope st) .none kV doc pm an cdv ct) ⟨us, []⟩ = pure (ps.zip us))
    (len : ∀ vs H Q E, sp vs H Q E → vs.length = ps.length)
    (hbody : ∀ (f : Addr) (cdv : Value) (A : Around) (outer : List Env) (s : Shared) (H : Hp) (vs : List V) (Q : VK) (E : XK), Room k (A.deeper (envOfC qual (defScope st) s.heap.objs.size f cdv)) → sp vs H Q E →
      ∃ t, PSs (cxOf (L2.CX P w) P w K mg base N qual (defScope st) f cdv A outer s H E) (defBody st) t ∧ t { nx := fun _ H' => Q .non H', rt := Q } (start N vs) H) : MethOk P w K mg base (L2.CX P w) (k + 1) C x ps sp := by
  obtain ⟨f, fd, F, hm⟩ := D
  exact ⟨f, fd, hm, F.binds bd, F.okX S len (hbody f)⟩
theorem Dc.okX (D : Dc K C x qual st) (S : FnScope N ps (defScope st))
    (bd : ∀ (kV doc pm : Value) (an : Option Addr) (cdv ct : Value) (us : List Value), us.length = ps.length → bindArgs (PySem.W.fnOf x qual (defArgs st) (defBody st) (defScope st) .none kV doc pm an cdv ct) ⟨us, []⟩ = pure (ps.zip us))
    (len : ∀ vs H Q E, sp vs H Q E → vs.length = ps.length)
    (hbody : ∀ (f : Addr) (cdv : Value) (A : Around) (outer : List Env) (s : Shared) (H : Hp) (vs : List V) (Q : VK) (E : XK), Room k (A.deeper (envOfC qual (defScope st) s.heap.objs.size f cdv)) → sp vs H Q E →
      ∃ t, PSs (cxOf (L2.CX P w) P w K mg base N qual (defScope st) f cdv A outer s H E) (defBody st) t ∧ t { nx := fun _ H' => Q .non H', rt := Q } (start N vs) H) : CmOk P w K mg base (L2.CX P w) (k + 1) C x sp := by
  obtain ⟨mc, p, f, fd, F, r, c⟩ := D
  exact ⟨mc, p, f, r, c, ((F.okX S len (hbody f)).raw (F.binds bd) .nil).imp fun vs H Q E h => by rw [List.append_nil]; exact h⟩
end
section
variable {X : Cx} {CX : CXT} {k i : Nat} {C : Addr} {sp : Sp} {E : XK} {x m : Str} {e o : Expr} {es : List Expr} {te ta : TE} {t : TA} {p sp_ pos apos : Pos}
/-- C(*e), C a class -/
def tMakeS (K : PySem.W.Frag) (C : Addr) (sp : Sp) (E : XK) (te : TE) : TE := fun σ H Q => te σ H fun y H1 => ∃ a xs, y = V.ref a ∧ (SqT K H1 a xs ∨ SqL K H1 a xs) ∧ xs.length ≤ sizeLine ∧ ∀ x dx p, H1 x = Option.none → H1 dx = Option.none → H1 p = Option.none → dx ≠ x → p ≠ x → p ≠ dx →
  sp [V.ref x, V.ref p] (upd (upd (upd H1 dx (.own x)) x (.ins C dx [])) p (.tup xs)) (fun v H2 => v = .non ∧ Q (.ref x) H2) E
def tMakeN (C : Addr) (sp : Sp) (E : XK) (t : TA) : TE := fun σ H Q => t σ H fun xs H1 => xs.length ≤ sizeLine ∧ ∀ x dx p, H1 x = Option.none → H1 dx = Option.none → H1 p = Option.none → dx ≠ x → p ≠ x → p ≠ dx →
  sp [V.ref x, V.ref p] (upd (upd (upd H1 dx (.own x)) x (.ins C dx [])) p (.tup xs)) (fun v H2 => v = .non ∧ Q (.ref x) H2) E
theorem star_of {xs : List V} {H1 : Hp} {Q : VK} (hz : xs.length ≤ sizeLine) (h : ∀ x dx p, H1 x = Option.none → H1 dx = Option.none → H1 p = Option.none → dx ≠ x → p ≠ x → p ≠ dx → sp [V.ref x, V.ref p] (upd (upd (upd H1 dx (.own x)) x (.ins C dx [])) p (.tup xs)) (fun v H2 => v = .non ∧ Q (.ref x) H2) E) :
    ∀ x dx, H1 x = Option.none → H1 dx = Option.none → dx ≠ x → spStar 1 sp (V.ref x :: xs) (upd (upd H1 dx (.own x)) x (.ins C dx [])) (fun v H2 => v = .non ∧ Q (.ref x) H2) E := fun x dx h1 h2 ne =>
  ⟨[.ref x], xs, rfl, rfl, hz, fun p hp => by
    have px : p ≠ x := fun z => by rw [z, upd_same] at hp; cases hp
    have pd : p ≠ dx := fun z => by rw [z, upd_ne ne, upd_same] at hp; cases hp
    rw [upd_ne px, upd_ne pd] at hp
    exact h x dx p h1 h2 hp ne px pd⟩
theorem pe_makeS (D : InitS X.prog X.w X.K X.mg X.base CX k C sp) (hr : Room (k + 1) X.A) (hg : Gl X x) (hm : X.mg x = some (.ref C)) (hx : Passes CX X E) (he : PE X e te) (hd : (x == ("__debug__" : Str)) = false := by decide)
    (hst : starEach [.Starred e sp_] X.env = [(true, eval e X.env)] := by rfl) : PE X (.Call (.Name x p) [.Starred e sp_] [] pos) (tMakeS X.K C sp E te) := by
  obtain ⟨f, M, F⟩ := D
  refine ⟨fun pins s σ H Q I h => ?_⟩
  refine wpAny_Call_Name_kw (ld_glob I hg hm ?_ hd)
  refine PySem.W.callWith_S (h₀ := X.base) I.ok.mod.kin M.kp (thn (he.run pins s σ H _ I h) fun v s1 ⟨y, H1, I1, ry, a, xs, ey, hxs, hz, q⟩ => ?_) hst
  subst ey
  obtain rfl : v = Value.ref a := ry
  exact star_any I1 hxs fun us s2 I2 rv => ⟨I2.kIn, run_makeR M F hr hx I2 rv (star_of hz q)⟩
/-- cls(*e), the class in a slot -/
def tMakeL (i : Nat) (K : PySem.W.Frag) (C : Addr) (sp : Sp) (E : XK) (te : TE) : TE := fun σ H Q => σ[i]? = some (some (.ref C)) ∧ tMakeS K C sp E te σ H Q
theorem pe_makeL (D : InitS X.prog X.w X.K X.mg X.base CX k C sp) (hr : Room (k + 1) X.A) (hN : X.N[i]? = some x) (hv : Vis X.env.scope x) (hx : Passes CX X E) (he : PE X e te) (hdb : (x == ("__debug__" : Str)) = false := by decide) (hcd : (x == ("__classdict__" : Str)) = false := by decide)
    (hst : starEach [.Starred e sp_] X.env = [(true, eval e X.env)] := by rfl) : PE X (.Call (.Name x p) [.Starred e sp_] [] pos) (tMakeL i X.K C sp E te) := by
  obtain ⟨f, M, F⟩ := D
  refine ⟨fun pins s σ H Q I h => ?_⟩
  obtain ⟨hs, ht⟩ := h
  refine wpAny_Call_Name_kw (thn ((pe_var (pos := p) hN hv hdb hcd).run pins s σ H (fun v H1 => v = .ref C ∧ H1 = H) I ⟨.ref C, hs, rfl, rfl⟩) fun u s0 ⟨v, H0, I0, r0, q0⟩ => ?_)
  obtain ⟨rfl, rfl⟩ := q0
  cases r0
  refine PySem.W.callWith_S (h₀ := X.base) I.ok.mod.kin M.kp (thn (he.run pins s0 σ _ _ I0 ht) fun v s1 ⟨y, H1, I1, ry, a, xs, ey, hxs, hz, q⟩ => ?_) hst
  subst ey
  obtain rfl : v = Value.ref a := ry
  exact star_any I1 hxs fun us s2 I2 rv => ⟨I2.kIn, run_makeR M F hr hx I2 rv (star_of hz q)⟩
/-- C(a, b, ..) -/
theorem pe_makeN (D : InitS X.prog X.w X.K X.mg X.base CX k C sp) (hr : Room (k + 1) X.A) (hg : Gl X x) (hm : X.mg x = some (.ref C)) (hx : Passes CX X E) (ha : PA X (e :: es) t) (hdb : (x == ("__debug__" : Str)) = false := by decide)
    (he : starEach (e :: es) X.env = (false, eval e X.env) :: starEach es X.env := by rfl) (hpl : (backTo pos (starEach es X.env)).any (·.1) = false := by rfl) : PE X (.Call (.Name x p) (e :: es) [] pos) (tMakeN C sp E t) := by
  obtain ⟨f, M, F⟩ := D
  refine ⟨fun pins s σ H Q I h => ?_⟩
  refine wpAny_Call_Name_kw (ld_glob I hg hm ?_ hdb)
  refine PySem.W.callWith_K (h₀ := X.base) I.ok.mod.kin M.kp (thn (ha.run pos pins s σ H _ I h) fun us s1 ⟨vs, H1, I1, r, hz, q⟩ => ⟨I1.kIn, ?_⟩) he hpl
  exact run_makeR M F hr hx I1 r (star_of hz q)
/-- C.m(e, ..), m a classmethod -/
theorem pe_cmD {pl : Sem Bool} (he : PE X o ta) (D : CmOk X.prog X.w X.K X.mg X.base CX k C m sp) (hr : Room k X.A) (hx : Passes CX X E) (ha : PA X (e :: es) t)
    (hst : starEach (e :: es) X.env = (false, eval e X.env) :: starEach es X.env := by rfl) (hpl : (backTo pos (starEach es X.env)).any (·.1) = false := by rfl)
    (ht : eval (.Call (.Attribute o m apos) (e :: es) [] pos) X.env = (do
      let ov ← eval o X.env
      standAt apos.atName
      let (f, first) ← holding [ov] (getMethod ov m pl)
      callWith pos f first (backTo pos (starEach (e :: es) X.env)) (backToKw pos (keywordEach [] X.env))) := by rfl) :
    PE X (.Call (.Attribute o m apos) (e :: es) [] pos) (ClX.tCMeth C sp E ta t) := by
  obtain ⟨mc, p, f, r, c, F⟩ := D
  exact ClX.pe_cmeth he r c F hr hx ha hst hpl ht
end
end L2
set_option maxHeartbeats 4000000
/-! A small head: what the top leaves, by one kernel run; facts by places -/
namespace LfH
open PySem PySem.Spec PyProof.Rows L2 He LamX He5 StX
/-- a def, by a path to its function object -/
structure DZ where
  adr : PySem.W.Frag → Addr
  name : Str
  qual : Str
  params : Arguments
  body : List Stmt
  scope : Scope
  kwd : List (Str × Dv) := []
  cell : Option (PySem.W.Frag → Addr) := none
abbrev FnZ : Type := Option (Str × Str × Arguments × FuncBody × Scope × Addr × Addr)
def fnZ (K : PySem.W.Frag) (a : Addr) : FnZ := match K.lookup a with
  | some ⟨_, _, .func fd, _⟩ => some (fd.name, fd.qualname, fd.params, fd.body, fd.scope, fd.globals, fd.builtins)
  | _ => none
def DZ.val (d : DZ) : FnZ := some (d.name, d.qual, d.params, .stmts d.body, d.scope, mainGlobals, builtinsNs)
def DZ.kws (K : PySem.W.Frag) (d : DZ) : List (Str × V) := d.kwd.map fun q => (q.1, q.2.v K)
def nonV : Value → Bool
  | .none => true
  | _ => false
theorem nonV_ok {v : Value} (h : nonV v = true) : v = .none := by cases v <;> (first | rfl | cases h)
def cellB (K : PySem.W.Frag) (cl : List (Str × Addr)) (C : Addr) : Bool := match cl with
  | [(n, cc)] => decide (n = "__class__") && (match K.lookup cc with
    | some ⟨_, _, .cell (some v), _⟩ => decide (v = .ref C)
    | _ => false)
  | _ => false
theorem cellB_ok {K : PySem.W.Frag} {cl : List (Str × Addr)} {C : Addr} (h : cellB K cl C = true) : ∃ cc c1 cld csl, cl = [(("__class__" : Str), cc)] ∧ K.lookup cc = some ⟨c1, cld, .cell (some (.ref C)), csl⟩ := by
  unfold cellB at h
  split at h
  · rename_i n cc
    obtain ⟨h1, h2⟩ := ba h
    have e := of_decide_eq_true h1
    subst e
    split at h2
    · rename_i c1 cld v csl e
      have ev := of_decide_eq_true h2
      subst ev
      exact ⟨cc, c1, cld, csl, rfl, e⟩
    · cases h2
  · cases h
def DZ.ok (K : PySem.W.Frag) (d : DZ) : Bool := match K.lookup (d.adr K) with
  | some ⟨_, _, .func fd, _⟩ => PySem.W.codeIn K fd.code d.qual && (nonV fd.defaults && (match d.cell with
    | none => fd.closure.isEmpty && (PySem.W.keepIn K (.ref (d.adr K)) && kwdB K fd.kwdefaults (d.kws K))
    | some C => nonV fd.kwdefaults && cellB K fd.closure (C K)))
  | _ => false
section
variable {K : PySem.W.Frag} {d : DZ}
theorem DZ.fn (e : fnZ K (d.adr K) = d.val) (c : d.ok K = true) (hc : d.cell = none) : ∃ oc od osl kV doc pm an cdv ct, K.lookup (d.adr K) = some ⟨oc, od, .func (PySem.W.fnOf d.name d.qual d.params d.body d.scope .none kV doc pm an cdv ct), osl⟩ ∧ PySem.W.codeIn K cdv d.qual = true ∧ PySem.W.keepIn K (.ref (d.adr K)) = true ∧ KwdV K kV (d.kws K) := by
  unfold DZ.ok at c
  unfold fnZ at e
  rw [hc] at c
  cases q : K.lookup (d.adr K) with
  | none =>
    rw [q] at c
    cases c
  | some o =>
    obtain ⟨oc, od, dt, osl⟩ := o
    rw [q] at c e
    cases dt with
    | func fd =>
      obtain ⟨n1, n2, n3, n4, n5, n6, n7, n8, n9, n10, n11, n12, n13, n14, n15⟩ := fd
      have e2 : (some (n1, n2, n3, n4, n5, n6, n15) : FnZ) = some (d.name, d.qual, d.params, .stmts d.body, d.scope, mainGlobals, builtinsNs) := e
      simp only [Option.some.injEq, Prod.mk.injEq] at e2
      obtain ⟨h1, h2, h3, h4, h5, h6, h9⟩ := e2
      subst h1 h2 h3 h4 h5 h6 h9
      obtain ⟨c1, c2⟩ := ba c
      obtain ⟨c3, c4⟩ := ba c2
      obtain ⟨c5, c6⟩ := ba c4
      obtain ⟨c7, c8⟩ := ba c6
      have e8 : n8 = .none := nonV_ok c3
      subst e8
      have e7 : n7 = [] := List.isEmpty_iff.mp c5
      subst e7
      exact ⟨oc, od, osl, n9, n10, n11, n12, n13, n14, rfl, c1, c7, kwdB_ok c8⟩
    | _ => cases c
theorem DZ.fnC {C : PySem.W.Frag → Addr} (e : fnZ K (d.adr K) = d.val) (c : d.ok K = true) (hc : d.cell = some C) : ∃ oc od osl doc pm an cda ct cc c1 cld csl, K.lookup (d.adr K) = some ⟨oc, od, .func (PySem.W.ksFn d.name d.qual d.params d.body d.scope .none .none doc pm an (.ref cda) ct cc), osl⟩ ∧ PySem.W.codeIn K (.ref cda) d.qual = true ∧
    K.lookup cc = some ⟨c1, cld, .cell (some (.ref (C K))), csl⟩ := by
  unfold DZ.ok at c
  unfold fnZ at e
  rw [hc] at c
  cases q : K.lookup (d.adr K) with
  | none =>
    rw [q] at c
    cases c
  | some o =>
    obtain ⟨oc, od, dt, osl⟩ := o
    rw [q] at c e
    cases dt with
    | func fd =>
      obtain ⟨n1, n2, n3, n4, n5, n6, n7, n8, n9, n10, n11, n12, n13, n14, n15⟩ := fd
      have e2 : (some (n1, n2, n3, n4, n5, n6, n15) : FnZ) = some (d.name, d.qual, d.params, .stmts d.body, d.scope, mainGlobals, builtinsNs) := e
      simp only [Option.some.injEq, Prod.mk.injEq] at e2
      obtain ⟨h1, h2, h3, h4, h5, h6, h9⟩ := e2
      subst h1 h2 h3 h4 h5 h6 h9
      obtain ⟨c1, c2⟩ := ba c
      obtain ⟨c3, c4⟩ := ba c2
      obtain ⟨c5, c6⟩ := ba c4
      have e8 : n8 = .none := nonV_ok c3
      subst e8
      have e9 : n9 = .none := nonV_ok c5
      subst e9
      obtain ⟨cc, k1, cld, csl, e7, lz⟩ := cellB_ok c6
      have e7 : n7 = [(("__class__" : Str), cc)] := e7
      subst e7
      obtain ⟨cda, ec⟩ := codeIn_ref c1
      have ec : n13 = .ref cda := ec
      subst ec
      exact ⟨oc, od, osl, n10, n11, n12, cda, n14, cc, k1, cld, csl, rfl, c1, lz⟩
    | _ => cases c
end
/-- the file of a def's code object -/
def fileB (K : PySem.W.Frag) (f : Addr) (file : Str) : Bool := match K.lookup f with
  | some ⟨_, _, .func fd, _⟩ => (match fd.code with
    | .ref c => (match K.lookup c with
      | some ⟨_, _, .fields vs, _⟩ => (match (vs[2]? : Option Value) with
        | some (.str z _) => file == z
        | _ => false)
      | _ => false)
    | _ => false)
  | _ => false
theorem fileB_ok {K : PySem.W.Frag} {f cda : Addr} {file : Str} {oc : Value} {od : Option Addr} {fd : FuncData} {osl : Array (Option Value)} (h : fileB K f file = true) (l : K.lookup f = some ⟨oc, od, .func fd, osl⟩) (e : fd.code = .ref cda) :
    ∃ ccl cdd vs ccs z tf, K.lookup cda = some ⟨ccl, cdd, .fields vs, ccs⟩ ∧ vs[2]? = some (.str z tf) ∧ (file == z) = true := by
  unfold fileB at h
  rw [l] at h
  dsimp only at h
  rw [e] at h
  dsimp only at h
  split at h
  · rename_i ccl cdd vs ccs q
    split at h
    · rename_i z tf q2
      exact ⟨ccl, cdd, vs, ccs, z, tf, q, q2, h⟩
    · cases h
  · cases h
/-- an own exception class with an __init__ -/
def xobjB (K : PySem.W.Frag) (C : Addr) (mro : List Value) (newId : String) : Bool := match K.lookup C with
  | some ⟨.type "type", _, .cls cd, sl⟩ => (match sl.toList with
    | [_, _, _, _, some (.builtin n), _] => decide (cd.mro = .ref C :: mro) && (n == newId && (!cd.hasDel && cd.hasDict))
    | _ => false)
  | _ => false
theorem xobjB_ok {K : PySem.W.Frag} {C : Addr} {mro : List Value} {newId : String} (h : xobjB K C mro newId = true) : ∃ nm q N bs sn sub ab col dd k0 k1 k2 k3 k5, K.lookup C = some (excClassObj nm q C N bs mro true sn sub ab col dd k0 k1 k2 k3 k5 newId) := by
  unfold xobjB at h
  split at h
  · rename_i dd cd sl ho
    split at h
    · rename_i k0 k1 k2 k3 n k5 hs
      obtain ⟨h1, h2⟩ := ba h
      obtain ⟨h3, h4⟩ := ba h2
      obtain ⟨h5, h6⟩ := ba h4
      have h1 := of_decide_eq_true h1
      have h3 := eq_of_beq h3
      subst h3
      obtain ⟨nm, bs, m, ns, qn, hd, sn, sub, ab, col, del⟩ := cd
      dsimp only at h1 h5 h6
      subst h1 h6
      have h5 : del = false := by simpa using h5
      subst h5
      have hsl : sl = #[k0, k1, k2, k3, some (.builtin n), k5] := by
        obtain ⟨l⟩ := sl
        simp only at hs
        rw [hs]
      subst hsl
      exact ⟨nm, qn, ns, bs, sn, sub, ab, col, dd, k0, k1, k2, k3, k5, ho⟩
    · cases h
  · cases h
/-- the record of a property: its def -/
def pf (K : PySem.W.Frag) (C : Addr) (m : Str) : Addr := match PySem.W.recIn K (ma K C m) "property" with
  | some (.ref f :: _) => f
  | _ => 0
def propB (K : PySem.W.Frag) (C : Addr) (m : Str) : Bool := eqO (PySem.W.findIn K (.ref C) m) (some (some (.ref (ma K C m)))) && (eqO (PySem.W.specialIn K (.ref (ma K C m)) "__get__") (some (some (.builtin "property.__get__"))) && (decide (PySem.W.takesIn K (.ref (ma K C m)) = some true) && (match PySem.W.recIn K (ma K C m) "property" with
    | some (.ref _ :: _) => true
    | _ => false)))
theorem propB_ok {K : PySem.W.Frag} {C : Addr} {m : Str} (h : propB K C m = true) : PropOf K C m (ma K C m) (pf K C m) := by
  obtain ⟨h1, h⟩ := ba h
  obtain ⟨h2, h⟩ := ba h
  obtain ⟨h3, h4⟩ := ba h
  refine ⟨eqO_ok h1, eqO_ok h2, of_decide_eq_true h3, ?_⟩
  unfold pf
  split at h4
  · rename_i f r e
    exact ⟨r, by rw [e]⟩
  · cases h4
def methB (K : PySem.W.Frag) (C : Addr) (m : Str) : Bool := eqO (PySem.W.findIn K (.ref C) m) (some (some (.ref (ma K C m)))) && (PySem.W.isFn K (.ref (ma K C m)) && PySem.W.keepIn K (.ref (ma K C m)))
theorem methB_ok {K : PySem.W.Frag} {C : Addr} {m : Str} (h : methB K C m = true) : Meth K C m (ma K C m) := by
  obtain ⟨h1, h⟩ := ba h
  obtain ⟨h2, h3⟩ := ba h
  exact ⟨eqO_ok h1, h2, h3⟩
def cmetB (K : PySem.W.Frag) (C : Addr) (m : Str) : Bool := wrapB K C "classmethod" "classmethod.__get__" m && PySem.W.fnIn K (wf K C "classmethod" m)
theorem cmetB_ok {K : PySem.W.Frag} {C : Addr} {m : Str} (h : cmetB K C m = true) : ClX.CMet K C (.type "type") m (ma K C m) (wf K C "classmethod" m) := by
  obtain ⟨h1, h2⟩ := ba h
  obtain ⟨h3, h4⟩ := wrapB_ok h1
  exact ⟨h3, h4, h2⟩
/-! ### the Hook -/
abbrev AlZ : Type := Bool × List FnZ
def obsK (fn : List DZ) (tf : List Defn) (ex : PySem.W.Frag → Bool) (g : Addr → Option Obj) (K : PySem.W.Frag) : AlZ := (ex K && ((fn.all fun d => d.ok K) && tabsB g tf K), fn.map fun d => fnZ K (d.adr K))
/-- the module's names first, then all places from behind -/
def down : Nat → List Addr
  | 0 => []
  | n + 1 => n :: down n
def asR (n : Nat) : List Addr := mainGlobals :: down n
def obsZ (n : Nat) (fn : List DZ) (tf : List Defn) (ex : PySem.W.Frag → Bool) (g : Addr → Option Obj) : AlZ := obsK fn tf ex g (frT g (asR n))
def valZ (fn : List DZ) : AlZ := (true, fn.map DZ.val)
structure SaysZ (fn : List DZ) (tf : List Defn) (ex : PySem.W.Frag → Bool) (h : Heap) (K : PySem.W.Frag) : Prop where
  more : ex K = true
  oks : ∀ d ∈ fn, d.ok K = true
  vals : (fn.map fun d => fnZ K (d.adr K)) = fn.map DZ.val
  hd : ∀ p ∈ tf, PySem.W.codeHdIn K (cT K p).1 (cT K p).2 = true
  out : ∀ p ∈ tf, K.lookup (cT K p).2 = none
  empty : ∀ p ∈ tf, h.get? (cT K p).2 = some { cls := .none, data := .fields #[] }
theorem saysZ_of {n : Nat} {fn : List DZ} {tf : List Defn} {ex : PySem.W.Frag → Bool} {h : Heap} (e : obsZ n fn tf ex h.get? = valZ fn) : SaysZ fn tf ex h (frT h.get? (asR n)) := by
  have e1 : (ex (frT h.get? (asR n)) && ((fn.all fun d => d.ok (frT h.get? (asR n))) && tabsB h.get? tf (frT h.get? (asR n)))) = true := congrArg (fun z : AlZ => z.1) e
  have e2 : (fn.map fun d => fnZ (frT h.get? (asR n)) (d.adr (frT h.get? (asR n)))) = fn.map DZ.val := congrArg (fun z : AlZ => z.2) e
  obtain ⟨h1, h2⟩ := ba e1
  obtain ⟨h3, h4⟩ := ba h2
  have key : ∀ p ∈ tf, PySem.W.codeHdIn (frT h.get? (asR n)) (cT (frT h.get? (asR n)) p).1 (cT (frT h.get? (asR n)) p).2 = true ∧ ∃ o, h.get? (cT (frT h.get? (asR n)) p).2 = some o ∧ emptyTab o = true := fun p hp => by
    obtain ⟨h5, h6⟩ := ba (List.all_eq_true.mp h4 p hp)
    refine ⟨h5, ?_⟩
    cases q : h.get? (cT (frT h.get? (asR n)) p).2 with
    | none =>
      rw [q] at h6
      cases h6
    | some o =>
      rw [q] at h6
      exact ⟨o, rfl, h6⟩
  exact ⟨h1, fun d hd => List.all_eq_true.mp h3 d hd, e2, fun p hp => (key p hp).1, fun p hp => by
    obtain ⟨_, o, q, z⟩ := key p hp
    exact frT_none q z, fun p hp => by
    obtain ⟨_, o, q, z⟩ := key p hp
    rw [q, emptyTab_eq z]⟩
def hookZ (n : Nat) (fn : List DZ) (tf : List Defn) (ex : PySem.W.Frag → Bool) : PySem.W.Hook where
  α := AlZ
  obs := fun s => obsZ n fn tf ex s.heap.get?
  val := fun _ => valZ fn
  says := fun _ h => ∃ K : PySem.W.Frag, K.In h ∧ SaysZ fn tf ex h K
  of := fun _ _ e => ⟨_, frT_in, saysZ_of e⟩
  keeps := fun _ _ _ ⟨K, hK, c⟩ k => ⟨K, PySem.W.Frag.In.keeps hK k, ⟨c.more, c.oks, c.vals, c.hd, c.out, fun p hp => k _ _ (c.empty p hp)⟩⟩
theorem obsZ_eq {n : Nat} {fn : List DZ} {tf : List Defn} {ex : PySem.W.Frag → Bool} {g : Addr → Option Obj} {s : Shared} (h : ∀ a, g a = s.heap.get? a) : obsZ n fn tf ex g = (hookZ n fn tf ex).obs s := by
  have e : g = s.heap.get? := funext h
  rw [e] <;> rfl
section
variable {fn : List DZ} {tf : List Defn} {ex : PySem.W.Frag → Bool} {h : Heap} {K : PySem.W.Frag} {d : DZ}
theorem SaysZ.val (c : SaysZ fn tf ex h K) (i : Nat) (e : fn[i]? = some d) : fnZ K (d.adr K) = d.val := by
  have e2 : (fn.map fun d => fnZ K (d.adr K))[i]? = (fn.map DZ.val)[i]? := by rw [c.vals]
  rw [List.getElem?_map, List.getElem?_map, e] at e2
  exact Option.some.inj e2
theorem SaysZ.def_ (c : SaysZ fn tf ex h K) (i : Nat) (e : fn[i]? = some d) (hc : d.cell = none) : ∃ oc od osl kV doc pm an cdv ct, K.lookup (d.adr K) = some ⟨oc, od, .func (PySem.W.fnOf d.name d.qual d.params d.body d.scope .none kV doc pm an cdv ct), osl⟩ ∧ PySem.W.codeIn K cdv d.qual = true ∧ PySem.W.keepIn K (.ref (d.adr K)) = true ∧ KwdV K kV (d.kws K) :=
  DZ.fn (c.val i e) (c.oks d (List.mem_of_getElem? e)) hc
theorem SaysZ.defC {C : PySem.W.Frag → Addr} (c : SaysZ fn tf ex h K) (i : Nat) (e : fn[i]? = some d) (hc : d.cell = some C) : ∃ oc od osl doc pm an cda ct cc c1 cld csl, K.lookup (d.adr K) = some ⟨oc, od, .func (PySem.W.ksFn d.name d.qual d.params d.body d.scope .none .none doc pm an (.ref cda) ct cc), osl⟩ ∧ PySem.W.codeIn K (.ref cda) d.qual = true ∧
    K.lookup cc = some ⟨c1, cld, .cell (some (.ref (C K))), csl⟩ := DZ.fnC (c.val i e) (c.oks d (List.mem_of_getElem? e)) hc
end
/-- a Bool of a list -/
def exA (l : List (PySem.W.Frag → Bool)) (K : PySem.W.Frag) : Bool := l.all fun f => f K
theorem exA_at {l : List (PySem.W.Frag → Bool)} {K : PySem.W.Frag} {f : PySem.W.Frag → Bool} (h : exA l K = true) (i : Nat) (e : l[i]? = some f) : f K = true := List.all_eq_true.mp h f (List.mem_of_getElem? e)
/-- the walk over such a head, with tables, where no repr is under way -/
theorem walk_ofTGE {l : PySem.W.OpenLaw} {n k : Nat} {q : Program} {loose : List Str} {XP : (Str → Option Value) → Heap → Prop} {YP : World → Heap → Prop} {d : DefRec} {CX : CXT} {x : Str}
    (hn : l.most = some n) (hn2 : n ≤ sizeLine) (hdf : d.params.defaults = []) (hr : Room k callerA)
    (F : ∀ (w : World) (mg : Str → Option Value) (fa : Addr) (h : Heap), YP w h → h.Ns mainGlobals mg → mg d.name = some (.ref fa) → ∃ (K : PySem.W.Frag) (fd : FuncData) (cs : List (Addr × Addr)) (sp : Sp), K.In h ∧ (∀ p ∈ cs, h.get? p.2 = some { cls := .none, data := .fields #[] }) ∧ (∀ p ∈ cs, K.lookup p.2 = none) ∧ (∀ p ∈ cs, PySem.W.codeHdIn K p.1 p.2 = true) ∧ (∀ (s : Shared) (u : Value), BindsTo s fd ⟨[u], []⟩ [(x, u)]) ∧
      (∀ (H : Hp) (a : Addr) (ns : List Int), ns.length ≤ n → (∀ p ∈ cs, H p.2 = some (.tbl #[])) → SqL K H a (ns.map V.int) → sp [.ref a] H (fun v _ => v = .bl true) fun _ _ _ => False) ∧
      ∀ base : Heap, K.In base → base.Ns mainGlobals mg → (∀ p ∈ cs, TabB base mg p.1 p.2) → FnOkG l.prog w K mg base CX k fa fd [x] sp)
    (hCX : ∀ (H : Hp) (s : Shared) (e : Value) (s' : Shared), CX [] H s (fun _ _ _ => False) e s' → False) :
    PySem.W.WalkO q loose XP YP l.row.toRowW d [] (fun f vs => PySem.call f vs) := by
  refine Att.attach_call hn hdf fun w s₀ s₁ mg mb fa o pm cd doc a vs ns G Y ho hd hcd hmg hobj hints hlen hg => ?_
  obtain ⟨K, fd, cs, sp, KX, hT, nT, C, hb, hsp, hF⟩ := F w mg fa _ Y G.T.g hmg
  exact LfT.law_callTG KX G.T.g G.T.b G.T.builtins G.T.nolimit hg hT nT (fun p hp => PySem.W.codeHd_of_K KX (C p hp)) G.T.bmain hobj hints (Nat.le_trans hlen hn2) hr hF hb (fun H hH hS => hsp H a ns hlen hH hS) fun H e s' => hCX H s₁ e s'
/-! ### the facts in the words of our texts -/
abbrev topD (x : Str) (st : Stmt) : DZ := { adr := fun K => ga K x, name := x, qual := x, params := defArgs st, body := defBody st, scope := defScope st }
abbrev metD (C m qual : Str) (st : Stmt) : DZ := { adr := fun K => ma K (ga K C) m, name := m, qual := qual, params := defArgs st, body := defBody st, scope := defScope st }
abbrev kwD (C m qual : Str) (st : Stmt) (kwd : List (Str × Dv)) : DZ := { adr := fun K => ma K (ga K C) m, name := m, qual := qual, params := defArgs st, body := defBody st, scope := defScope st, kwd := kwd }
abbrev proD (C m qual : Str) (st : Stmt) : DZ := { adr := fun K => pf K (ga K C) m, name := m, qual := qual, params := defArgs st, body := defBody st, scope := defScope st }
abbrev cmD (C m qual : Str) (st : Stmt) : DZ := { adr := fun K => wf K (ga K C) "classmethod" m, name := m, qual := qual, params := defArgs st, body := defBody st, scope := defScope st }
abbrev excD (C qual : Str) (st : Stmt) : DZ := { adr := fun K => ma K (ga K C) "__init__", name := "__init__", qual := qual, params := defArgs st, body := defBody st, scope := defScope st, cell := some fun K => ga K C }
def gloB (K : PySem.W.Frag) (x : Str) : Bool := eqO (PySem.W.nsIn K mainGlobals x) (some (some (.ref (ga K x))))
section
variable {fn : List DZ} {tf : List Defn} {ex : PySem.W.Frag → Bool} {h h' : Heap} {K : PySem.W.Frag} {mg : Str → Option Value} {x C m qual : Str} {st : Stmt}
theorem glo_of (X : K.In h') (G : h'.Ns mainGlobals mg) (c : gloB K x = true) : mg x = some (.ref (ga K x)) := PySem.W.mg_of X G (eqO_ok c)
theorem free_of (X : K.In h') (G : h'.Ns mainGlobals mg) (c : (Fa.free x).ok K = true) : mg x = none := free_ok X G c
theorem SaysZ.fun_ (c : SaysZ fn tf ex h K) (i : Nat) {a : PySem.W.Frag → Addr} (e : fn[i]? = some { adr := a, name := x, qual := qual, params := defArgs st, body := defBody st, scope := defScope st }) : ∃ fd, Fun K x qual st (a K) fd := by
  obtain ⟨oc, od, osl, kV, doc, pm, an, cdv, ct, l, cd, k, _⟩ := c.def_ i e rfl
  exact ⟨_, fun_mk l cd k⟩
theorem SaysZ.df (c : SaysZ fn tf ex h K) (X : K.In h') (G : h'.Ns mainGlobals mg) (i : Nat) (e : fn[i]? = some (topD x st)) (g : gloB K x = true) : Df K mg x st := by
  obtain ⟨fd, F⟩ := c.fun_ i e
  exact ⟨_, fd, F, glo_of X G g⟩
theorem SaysZ.dfC (c : SaysZ fn tf ex h K) (X : K.In h') (G : h'.Ns mainGlobals mg) (i : Nat) (e : fn[i]? = some (topD x st)) (g : gloB K x = true) : LfT.DfC K mg x st (codeOf K (x, none)) := by
  obtain ⟨oc, od, osl, kV, doc, pm, an, cdv, ct, l, cd, k, _⟩ := c.def_ i e rfl
  obtain ⟨ck, rfl⟩ := codeIn_ref cd
  have ec : codeOf K (x, none) = ck := codeOf_eq l rfl
  subst ec
  exact ⟨_, _, fun_mk l cd k, glo_of X G g, rfl⟩
theorem SaysZ.dm (c : SaysZ fn tf ex h K) (i : Nat) (e : fn[i]? = some (metD C m qual st)) (g : methB K (ga K C) m = true) : Dm K (ga K C) m qual st := by
  obtain ⟨fd, F⟩ := c.fun_ i e
  exact ⟨_, fd, F, methB_ok g⟩
theorem SaysZ.dp (c : SaysZ fn tf ex h K) (i : Nat) (e : fn[i]? = some (proD C m qual st)) (g : propB K (ga K C) m = true) : Dp_ K (ga K C) m qual st := by
  obtain ⟨fd, F⟩ := c.fun_ i e
  exact ⟨_, _, fd, F, propB_ok g⟩
theorem SaysZ.dc (c : SaysZ fn tf ex h K) (i : Nat) (e : fn[i]? = some (cmD C m qual st)) (g : cmetB K (ga K C) m = true) (rd : PySem.W.readsIn K (ga K C) (.type "type") = true) (gg : eqO (PySem.W.specialIn K (.ref (ga K C)) "__getattribute__") (some (some (.builtin "type.__getattribute__"))) = true) : Dc K (ga K C) m qual st := by
  obtain ⟨fd, F⟩ := c.fun_ i e
  exact ⟨.type "type", _, _, fd, F, ⟨rd, eqO_ok gg⟩, cmetB_ok g⟩
theorem SaysZ.kw (c : SaysZ fn tf ex h K) (i : Nat) {kwd : List (Str × Dv)} (e : fn[i]? = some (kwD C m qual st kwd)) : ∃ fd, FunD K m qual (defArgs st) (defBody st) (defScope st) [] (kwd.map fun q => (q.1, q.2.v K)) (ma K (ga K C) m) fd := by
  obtain ⟨oc, od, osl, kV, doc, pm, an, cdv, ct, l, cd, k, kw⟩ := c.def_ i e rfl
  exact ⟨_, ⟨_, _, _, _, _, _, _, _, _, _, rfl, l, cd, .inl ⟨rfl, rfl⟩, kw⟩, k⟩
end
def mkrB (K : PySem.W.Frag) (C : Addr) : Bool := PySem.W.makesIn K C && (eqO (PySem.W.findIn K (.ref C) "__init__") (some (some (.ref (ma K C "__init__")))) && (PySem.W.isFn K (.ref (ma K C "__init__")) && PySem.W.keepIn K (.ref C)))
theorem mkrB_ok {K : PySem.W.Frag} {C : Addr} (c : mkrB K C = true) : Mk K C (ma K C "__init__") := by
  obtain ⟨c1, c⟩ := ba c
  obtain ⟨c2, c⟩ := ba c
  obtain ⟨c3, c4⟩ := ba c
  exact ⟨c1, eqO_ok c2, c3, c4⟩
def clsB (K : PySem.W.Frag) (C : Addr) : Bool := PySem.W.plainGet K C Str.empty && (PySem.W.hasDictIn K C && (PySem.W.plainOver K C && eqO (PySem.W.findIn K (.ref C) "__setattr__") (some (some (.builtin "object.__setattr__")))))
theorem clsB_ok {K : PySem.W.Frag} {C : Addr} (c : clsB K C = true) : Cls K C := by
  obtain ⟨c1, c⟩ := ba c
  obtain ⟨c2, c⟩ := ba c
  obtain ⟨c3, c4⟩ := ba c
  exact ⟨c1, c2, c3, eqO_ok c4⟩
def noB (K : PySem.W.Frag) (C : Addr) (f : Str) : Bool := eqO (PySem.W.findIn K (.ref C) f) (some none)
theorem noB_ok {K : PySem.W.Frag} {C : Addr} {f : Str} (c : noB K C f = true) : NoAttr K C f := eqO_ok c
/-- an own exception without __init__ -/
def excB (K : PySem.W.Frag) (C : Addr) (mro : List Value) (newId : String) : Bool := PySem.W.excIn K C mro newId && (PySem.W.keepIn K (.ref C) && (decide (PySem.W.subIn K (.ref C) (.type "BaseException") = some true) && decide (PySem.W.typeIn K (.ref C) = some (.type "type"))))
theorem excB_ok {K : PySem.W.Frag} {C : Addr} {mro : List Value} {newId : String} (c : excB K C mro newId = true) : PySem.W.excIn K C mro newId = true ∧ PySem.W.keepIn K (.ref C) = true ∧ PySem.W.subIn K (.ref C) (.type "BaseException") = some true ∧ PySem.W.typeIn K (.ref C) = some (.type "type") := by
  obtain ⟨c1, c⟩ := ba c
  obtain ⟨c2, c⟩ := ba c
  obtain ⟨c3, c4⟩ := ba c
  exact ⟨c1, c2, of_decide_eq_true c3, of_decide_eq_true c4⟩
/-- an own exception with __init__(self, v): super().__init__('..'); self.f = v -/
def xB_ (K : PySem.W.Frag) (C : Addr) (mro : List Value) (f file : Str) (Bs is ns : String) : Bool := xobjB K C mro ns && (decide (PySem.W.alongIn K "__init__" mro = some (some (.builtin is))) && (eqO (PySem.W.findIn K (.ref C) "__setattr__") (some (some (.builtin "object.__setattr__"))) && (noB K C f && (eqO (PySem.W.findIn K (.ref C) "__init__") (some (some (.ref (ma K C "__init__")))) &&
  (decide (PySem.W.typeIn K (.ref (ma K C "__init__")) = some (.type "function")) && (PySem.W.keepIn K (.ref C) && (decide (PySem.W.subIn K (.ref C) (.type "BaseException") = some true) && (decide (PySem.W.subIn K (.ref C) (.type Bs) = some true) && (decide (PySem.W.mroIn K C (.ref C) = some true) && (decide (PySem.W.mroIn K C (.type "object") = some true) &&
  (decide (PySem.W.typeIn K (.ref C) = some (.type "type")) && (eqO (PySem.W.nsIn K cStatics "thirdparty.any") (some none) && fileB K (ma K C "__init__") file))))))))))))
/-- what such a check tells -/
structure XFacts (K : PySem.W.Frag) (C fI : Addr) (mro : List Value) (f : Str) (Bs is ns : String) : Prop where
  obj : ∃ nm q N bs sn sub ab col dd k0 k1 k2 k3 k5, K.lookup C = some (excClassObj nm q C N bs mro true sn sub ab col dd k0 k1 k2 k3 k5 ns)
  al : PySem.W.alongIn K "__init__" mro = some (some (.builtin is))
  sa : PySem.W.findIn K (.ref C) "__setattr__" = some (some (.builtin "object.__setattr__"))
  noF : PySem.W.findIn K (.ref C) f = some none
  iC : PySem.W.findIn K (.ref C) "__init__" = some (some (.ref fI))
  tC : PySem.W.typeIn K (.ref fI) = some (.type "function")
  kC : PySem.W.keepIn K (.ref C) = true
  exC : PySem.W.subIn K (.ref C) (.type "BaseException") = some true
  sB : PySem.W.subIn K (.ref C) (.type Bs) = some true
  sD : PySem.W.mroIn K C (.ref C) = some true
  sO : PySem.W.mroIn K C (.type "object") = some true
  tyC : PySem.W.typeIn K (.ref C) = some (.type "type")
  op : PySem.W.nsIn K cStatics "thirdparty.any" = some none
theorem xB_ok {K : PySem.W.Frag} {C : Addr} {mro : List Value} {f file : Str} {Bs is ns : String} (c : xB_ K C mro f file Bs is ns = true) : XFacts K C (ma K C "__init__") mro f Bs is ns ∧ fileB K (ma K C "__init__") file = true := by
  obtain ⟨c1, c⟩ := ba c
  obtain ⟨c2, c⟩ := ba c
  obtain ⟨c3, c⟩ := ba c
  obtain ⟨c4, c⟩ := ba c
  obtain ⟨c5, c⟩ := ba c
  obtain ⟨c6, c⟩ := ba c
  obtain ⟨c7, c⟩ := ba c
  obtain ⟨c8, c⟩ := ba c
  obtain ⟨c9, c⟩ := ba c
  obtain ⟨c10, c⟩ := ba c
  obtain ⟨c11, c⟩ := ba c
  obtain ⟨c12, c⟩ := ba c
  obtain ⟨c13, c14⟩ := ba c
  exact ⟨⟨xobjB_ok c1, of_decide_eq_true c2, eqO_ok c3, noB_ok c4, eqO_ok c5, of_decide_eq_true c6, c7, of_decide_eq_true c8, of_decide_eq_true c9, of_decide_eq_true c10, of_decide_eq_true c11, of_decide_eq_true c12, eqO_ok c13⟩, c14⟩
end LfH
namespace L2
open PySem PySem.Spec PyProof.Rows
/-- what ExcC asks, as a Bool -/
def excCB (K : PySem.W.Frag) (D : Addr) : Bool := decide (PySem.W.findIn K (.ref D) "__getattribute__" = some (some (.builtin "BaseException.__getattribute__"))) && (decide (PySem.W.findIn K (.ref D) "__getattr__" = some none) && (decide (PySem.W.subIn K (.ref D) (.type "BaseException") = some true) && (PySem.W.hasDictIn K D && (decide (PySem.W.findIn K (.ref D) "__class__" = some (some (.builtin "object.__class__"))) &&
  (decide (PySem.W.specialIn K (.builtin "object.__class__") "__get__" = some (some (.builtin "getset_descriptor.__get__"))) && (decide (PySem.W.takesIn K (.builtin "object.__class__") = some true) && decide (PySem.W.mroIn K D (.type "object") = some true)))))))
theorem excCB_ok {K : PySem.W.Frag} {D : Addr} (h : excCB K D = true) : ExcC K D := by
  unfold excCB at h
  obtain ⟨h1, h⟩ := Bool.and_eq_true_iff.mp h
  obtain ⟨h2, h⟩ := Bool.and_eq_true_iff.mp h
  obtain ⟨h3, h⟩ := Bool.and_eq_true_iff.mp h
  obtain ⟨h4, h⟩ := Bool.and_eq_true_iff.mp h
  obtain ⟨h5, h⟩ := Bool.and_eq_true_iff.mp h
  obtain ⟨h6, h⟩ := Bool.and_eq_true_iff.mp h
  obtain ⟨h7, h8⟩ := Bool.and_eq_true_iff.mp h
  exact ⟨of_decide_eq_true h1, of_decide_eq_true h2, of_decide_eq_true h3, h4, of_decide_eq_true h5, of_decide_eq_true h6, of_decide_eq_true h7, of_decide_eq_true h8⟩
end L2
set_option maxHeartbeats 0
namespace My
open PySem L2 Lf Evl Tr
abbrev prog5 : Program := PySem.Challenge.pw_loopfoundry_k00_errors_and_numbers
def fileP : Str := prog5.main.file
abbrev s_xP : Stmt := inClass (top 10) 0
abbrev s_xN : Stmt := inClass (top 12) 0
abbrev s_xM : Stmt := inClass (top 13) 0
abbrev s_xI : Stmt := inClass (top 14) 0
abbrev s_xB : Stmt := inClass (top 15) 0
abbrev s_xU : Stmt := inClass (top 11) 0
def fnL0 : List LfH.DZ := [LfH.topD "is_name" (top 22),
  LfH.topD "is_number" (top 23),
  LfH.topD "is_integer" (top 24),
  LfH.topD "is_within" (top 25),
  LfH.topD "require_integer" (top 26),
  LfH.topD "require_within" (top 27),
  LfH.topD "require_interval" (top 28),
  LfH.topD "slot_in" (top 29),
  LfH.topD "rounded_in" (top 30),
  LfH.topD "slot_of" (top 31),
  LfH.topD "rounded_up" (top 32),
  LfH.topD "_law_loom" (top 34),
  LfH.topD "_law_turn" (top 35),
  LfH.topD "_law_pick" (top 36),
  LfH.topD "_law_is_told" (top 37),
  LfH.topD "_law_families" (top 38),
  LfH.topD "_law_errors_right" (top 39),
  LfH.topD "_law_word" (top 40),
  LfH.topD "_law_names_right" (top 41),
  LfH.topD "_law_slots_right" (top 42),
  LfH.topD "_law_refused_right" (top 43),
  LfH.topD "law" (top 44),
  LfH.excD "ParseError" "ParseError.__init__" s_xP,
  LfH.excD "InvalidNumber" "InvalidNumber.__init__" s_xN,
  LfH.excD "TooMany" "TooMany.__init__" s_xM,
  LfH.excD "NothingToUndo" "NothingToUndo.__init__" s_xI,
  LfH.excD "Broken" "Broken.__init__" s_xB,
  LfH.excD "UnknownName" "UnknownName.__init__" s_xU]
def fnL : List LfH.DZ := fnL0
def exL0 : List (PySem.W.Frag → Bool) := [fun K => LfH.gloB K "is_name",
  fun K => LfH.gloB K "is_number",
  fun K => LfH.gloB K "is_integer",
  fun K => LfH.gloB K "is_within",
  fun K => LfH.gloB K "require_integer",
  fun K => LfH.gloB K "require_within",
  fun K => LfH.gloB K "require_interval",
  fun K => LfH.gloB K "slot_in",
  fun K => LfH.gloB K "rounded_in",
  fun K => LfH.gloB K "slot_of",
  fun K => LfH.gloB K "rounded_up",
  fun K => LfH.gloB K "_law_loom",
  fun K => LfH.gloB K "_law_turn",
  fun K => LfH.gloB K "_law_pick",
  fun K => LfH.gloB K "_law_is_told",
  fun K => LfH.gloB K "_law_families",
  fun K => LfH.gloB K "_law_errors_right",
  fun K => LfH.gloB K "_law_word",
  fun K => LfH.gloB K "_law_names_right",
  fun K => LfH.gloB K "_law_slots_right",
  fun K => LfH.gloB K "_law_refused_right",
  fun K => LfH.gloB K "law",
  fun K => (He.Fa.free "isinstance").ok K,
  fun K => (He.Fa.free "int").ok K,
  fun K => (He.Fa.free "bool").ok K,
  fun K => (He.Fa.free "str").ok K,
  fun K => (He.Fa.free "tuple").ok K,
  fun K => (He.Fa.free "len").ok K,
  fun K => (He.Fa.free "abs").ok K,
  fun K => (He.Fa.free "max").ok K]
def exL1 : List (PySem.W.Frag → Bool) := [fun K => (He.Fa.free "min").ok K,
  fun K => (He.Fa.free "list").ok K,
  fun K => (He.Fa.free "range").ok K,
  fun K => (He.Fa.free "all").ok K,
  fun K => (He.Fa.free "repr").ok K,
  fun K => (He.Fa.free "ord").ok K,
  fun K => (He.Fa.free "ValueError").ok K,
  fun K => (He.Fa.free "KeyError").ok K,
  fun K => (He.Fa.free "RuntimeError").ok K,
  fun K => (He.Fa.free "OverflowError").ok K,
  fun K => (He.Fa.free "IndexError").ok K,
  fun K => (He.Fa.free "ArithmeticError").ok K,
  fun K => (He.Fa.int "MAX_NAME" 8).ok K,
  fun K => (He.Fa.int "LIMIT" lim).ok K,
  fun K => (He.Fa.int "MAX_INTERVAL" 32).ok K,
  fun K => (He.Fa.int "MAX_TICKS" 4).ok K,
  fun K => (He.Fa.str "LETTERS" letters).ok K,
  fun K => LfH.excB K (He.ga K "InvalidTree") [.type "ValueError", .type "Exception", .type "BaseException", .type "object"] "ValueError.__new__",
  fun K => LfH.gloB K "InvalidTree",
  fun K => LfH.excB K (He.ga K "InvalidBody") [.type "ValueError", .type "Exception", .type "BaseException", .type "object"] "ValueError.__new__",
  fun K => LfH.gloB K "InvalidBody",
  fun K => LfH.excB K (He.ga K "InvalidMachine") [.type "ValueError", .type "Exception", .type "BaseException", .type "object"] "ValueError.__new__",
  fun K => LfH.gloB K "InvalidMachine",
  fun K => LfH.excB K (He.ga K "InvalidCover") [.type "ValueError", .type "Exception", .type "BaseException", .type "object"] "ValueError.__new__",
  fun K => LfH.gloB K "InvalidCover",
  fun K => LfH.excB K (He.ga K "InvalidJob") [.type "ValueError", .type "Exception", .type "BaseException", .type "object"] "ValueError.__new__",
  fun K => LfH.gloB K "InvalidJob",
  fun K => LfH.excB K (He.ga K "InvalidLives") [.type "ValueError", .type "Exception", .type "BaseException", .type "object"] "ValueError.__new__",
  fun K => LfH.gloB K "InvalidLives",
  fun K => LfH.excB K (He.ga K "InvalidKernel") [.type "ValueError", .type "Exception", .type "BaseException", .type "object"] "ValueError.__new__"]
def exL2 : List (PySem.W.Frag → Bool) := [fun K => LfH.gloB K "InvalidKernel",
  fun K => LfH.excB K (He.ga K "InvalidArgument") [.type "ValueError", .type "Exception", .type "BaseException", .type "object"] "ValueError.__new__",
  fun K => LfH.gloB K "InvalidArgument",
  fun K => LfH.excB K (He.ga K "FoundryError") [.type "ValueError", .type "Exception", .type "BaseException", .type "object"] "ValueError.__new__",
  fun K => LfH.gloB K "FoundryError",
  fun K => LfH.xB_ K (He.ga K "ParseError") [.ref (He.ga K "FoundryError"), .type "ValueError", .type "Exception", .type "BaseException", .type "object"] "line" fileP "ValueError" "ValueError.__init__" "ValueError.__new__",
  fun K => LfH.gloB K "ParseError",
  fun K => (He.Fa.free "super").ok K,
  fun K => LfH.xB_ K (He.ga K "InvalidNumber") [.type "RuntimeError", .type "Exception", .type "BaseException", .type "object"] "value" fileP "RuntimeError" "RuntimeError.__init__" "RuntimeError.__new__",
  fun K => LfH.gloB K "InvalidNumber",
  fun K => LfH.xB_ K (He.ga K "TooMany") [.type "OverflowError", .type "ArithmeticError", .type "Exception", .type "BaseException", .type "object"] "limit" fileP "OverflowError" "OverflowError.__init__" "OverflowError.__new__",
  fun K => LfH.gloB K "TooMany",
  fun K => LfH.xB_ K (He.ga K "NothingToUndo") [.type "IndexError", .type "LookupError", .type "Exception", .type "BaseException", .type "object"] "many" fileP "IndexError" "IndexError.__init__" "IndexError.__new__",
  fun K => LfH.gloB K "NothingToUndo",
  fun K => LfH.xB_ K (He.ga K "Broken") [.type "ArithmeticError", .type "Exception", .type "BaseException", .type "object"] "kind" fileP "ArithmeticError" "ArithmeticError.__init__" "ArithmeticError.__new__",
  fun K => LfH.gloB K "Broken",
  fun K => LfH.noB K (He.ga K "Broken") "reason",
  fun K => LfH.xB_ K (He.ga K "UnknownName") [.type "KeyError", .type "LookupError", .type "Exception", .type "BaseException", .type "object"] "wanted" fileP "KeyError" "KeyError.__init__" "LookupError.__new__",
  fun K => LfH.gloB K "UnknownName",
  fun K => excCB K (He.ga K "InvalidTree"),
  fun K => excCB K (He.ga K "InvalidBody"),
  fun K => excCB K (He.ga K "InvalidMachine"),
  fun K => excCB K (He.ga K "InvalidCover"),
  fun K => excCB K (He.ga K "InvalidJob"),
  fun K => excCB K (He.ga K "InvalidLives"),
  fun K => excCB K (He.ga K "InvalidKernel"),
  fun K => excCB K (He.ga K "InvalidArgument"),
  fun K => excCB K (He.ga K "ParseError"),
  fun K => excCB K (He.ga K "UnknownName"),
  fun K => excCB K (He.ga K "InvalidNumber")]
def exL3 : List (PySem.W.Frag → Bool) := [fun K => excCB K (He.ga K "TooMany"),
  fun K => excCB K (He.ga K "NothingToUndo"),
  fun K => excCB K (He.ga K "Broken"),
  fun K => decide (([PySem.W.kitOne K (.ref (He.ga K "InvalidTree")) (.type "ValueError"), PySem.W.kitOne K (.ref (He.ga K "InvalidTree")) (.type "KeyError"), PySem.W.kitOne K (.ref (He.ga K "InvalidTree")) (.type "RuntimeError"), PySem.W.kitOne K (.ref (He.ga K "InvalidTree")) (.type "OverflowError"), PySem.W.kitOne K (.ref (He.ga K "InvalidTree")) (.type "IndexError"), PySem.W.kitOne K (.ref (He.ga K "InvalidTree")) (.type "ArithmeticError"), PySem.W.kitOne K (.ref (He.ga K "InvalidTree")) (.ref (He.ga K "FoundryError"))] : List (Option Bool)) = [some true, some false, some false, some false, some false, some false, some true]),
  fun K => decide (([PySem.W.kitOne K (.ref (He.ga K "InvalidBody")) (.type "ValueError"), PySem.W.kitOne K (.ref (He.ga K "InvalidBody")) (.type "KeyError"), PySem.W.kitOne K (.ref (He.ga K "InvalidBody")) (.type "RuntimeError"), PySem.W.kitOne K (.ref (He.ga K "InvalidBody")) (.type "OverflowError"), PySem.W.kitOne K (.ref (He.ga K "InvalidBody")) (.type "IndexError"), PySem.W.kitOne K (.ref (He.ga K "InvalidBody")) (.type "ArithmeticError"), PySem.W.kitOne K (.ref (He.ga K "InvalidBody")) (.ref (He.ga K "FoundryError"))] : List (Option Bool)) = [some true, some false, some false, some false, some false, some false, some true]),
  fun K => decide (([PySem.W.kitOne K (.ref (He.ga K "InvalidMachine")) (.type "ValueError"), PySem.W.kitOne K (.ref (He.ga K "InvalidMachine")) (.type "KeyError"), PySem.W.kitOne K (.ref (He.ga K "InvalidMachine")) (.type "RuntimeError"), PySem.W.kitOne K (.ref (He.ga K "InvalidMachine")) (.type "OverflowError"), PySem.W.kitOne K (.ref (He.ga K "InvalidMachine")) (.type "IndexError"), PySem.W.kitOne K (.ref (He.ga K "InvalidMachine")) (.type "ArithmeticError"), PySem.W.kitOne K (.ref (He.ga K "InvalidMachine")) (.ref (He.ga K "FoundryError"))] : List (Option Bool)) = [some true, some false, some false, some false, some false, some false, some true]),
  fun K => decide (([PySem.W.kitOne K (.ref (He.ga K "InvalidCover")) (.type "ValueError"), PySem.W.kitOne K (.ref (He.ga K "InvalidCover")) (.type "KeyError"), PySem.W.kitOne K (.ref (He.ga K "InvalidCover")) (.type "RuntimeError"), PySem.W.kitOne K (.ref (He.ga K "InvalidCover")) (.type "OverflowError"), PySem.W.kitOne K (.ref (He.ga K "InvalidCover")) (.type "IndexError"), PySem.W.kitOne K (.ref (He.ga K "InvalidCover")) (.type "ArithmeticError"), PySem.W.kitOne K (.ref (He.ga K "InvalidCover")) (.ref (He.ga K "FoundryError"))] : List (Option Bool)) = [some true, some false, some false, some false, some false, some false, some true]),
  fun K => decide (([PySem.W.kitOne K (.ref (He.ga K "InvalidJob")) (.type "ValueError"), PySem.W.kitOne K (.ref (He.ga K "InvalidJob")) (.type "KeyError"), PySem.W.kitOne K (.ref (He.ga K "InvalidJob")) (.type "RuntimeError"), PySem.W.kitOne K (.ref (He.ga K "InvalidJob")) (.type "OverflowError"), PySem.W.kitOne K (.ref (He.ga K "InvalidJob")) (.type "IndexError"), PySem.W.kitOne K (.ref (He.ga K "InvalidJob")) (.type "ArithmeticError"), PySem.W.kitOne K (.ref (He.ga K "InvalidJob")) (.ref (He.ga K "FoundryError"))] : List (Option Bool)) = [some true, some false, some false, some false, some false, some false, some true]),
  fun K => decide (([PySem.W.kitOne K (.ref (He.ga K "InvalidLives")) (.type "ValueError"), PySem.W.kitOne K (.ref (He.ga K "InvalidLives")) (.type "KeyError"), PySem.W.kitOne K (.ref (He.ga K "InvalidLives")) (.type "RuntimeError"), PySem.W.kitOne K (.ref (He.ga K "InvalidLives")) (.type "OverflowError"), PySem.W.kitOne K (.ref (He.ga K "InvalidLives")) (.type "IndexError"), PySem.W.kitOne K (.ref (He.ga K "InvalidLives")) (.type "ArithmeticError"), PySem.W.kitOne K (.ref (He.ga K "InvalidLives")) (.ref (He.ga K "FoundryError"))] : List (Option Bool)) = [some true, some false, some false, some false, some false, some false, some true]),
  fun K => decide (([PySem.W.kitOne K (.ref (He.ga K "InvalidKernel")) (.type "ValueError"), PySem.W.kitOne K (.ref (He.ga K "InvalidKernel")) (.type "KeyError"), PySem.W.kitOne K (.ref (He.ga K "InvalidKernel")) (.type "RuntimeError"), PySem.W.kitOne K (.ref (He.ga K "InvalidKernel")) (.type "OverflowError"), PySem.W.kitOne K (.ref (He.ga K "InvalidKernel")) (.type "IndexError"), PySem.W.kitOne K (.ref (He.ga K "InvalidKernel")) (.type "ArithmeticError"), PySem.W.kitOne K (.ref (He.ga K "InvalidKernel")) (.ref (He.ga K "FoundryError"))] : List (Option Bool)) = [some true, some false, some false, some false, some false, some false, some true]),
  fun K => decide (([PySem.W.kitOne K (.ref (He.ga K "InvalidArgument")) (.type "ValueError"), PySem.W.kitOne K (.ref (He.ga K "InvalidArgument")) (.type "KeyError"), PySem.W.kitOne K (.ref (He.ga K "InvalidArgument")) (.type "RuntimeError"), PySem.W.kitOne K (.ref (He.ga K "InvalidArgument")) (.type "OverflowError"), PySem.W.kitOne K (.ref (He.ga K "InvalidArgument")) (.type "IndexError"), PySem.W.kitOne K (.ref (He.ga K "InvalidArgument")) (.type "ArithmeticError"), PySem.W.kitOne K (.ref (He.ga K "InvalidArgument")) (.ref (He.ga K "FoundryError"))] : List (Option Bool)) = [some true, some false, some false, some false, some false, some false, some true]),
  fun K => decide (([PySem.W.kitOne K (.ref (He.ga K "ParseError")) (.type "ValueError"), PySem.W.kitOne K (.ref (He.ga K "ParseError")) (.type "KeyError"), PySem.W.kitOne K (.ref (He.ga K "ParseError")) (.type "RuntimeError"), PySem.W.kitOne K (.ref (He.ga K "ParseError")) (.type "OverflowError"), PySem.W.kitOne K (.ref (He.ga K "ParseError")) (.type "IndexError"), PySem.W.kitOne K (.ref (He.ga K "ParseError")) (.type "ArithmeticError"), PySem.W.kitOne K (.ref (He.ga K "ParseError")) (.ref (He.ga K "FoundryError"))] : List (Option Bool)) = [some true, some false, some false, some false, some false, some false, some true]),
  fun K => decide (([PySem.W.kitOne K (.ref (He.ga K "UnknownName")) (.type "ValueError"), PySem.W.kitOne K (.ref (He.ga K "UnknownName")) (.type "KeyError"), PySem.W.kitOne K (.ref (He.ga K "UnknownName")) (.type "RuntimeError"), PySem.W.kitOne K (.ref (He.ga K "UnknownName")) (.type "OverflowError"), PySem.W.kitOne K (.ref (He.ga K "UnknownName")) (.type "IndexError"), PySem.W.kitOne K (.ref (He.ga K "UnknownName")) (.type "ArithmeticError"), PySem.W.kitOne K (.ref (He.ga K "UnknownName")) (.ref (He.ga K "FoundryError"))] : List (Option Bool)) = [some false, some true, some false, some false, some false, some false, some false]),
  fun K => decide (([PySem.W.kitOne K (.ref (He.ga K "InvalidNumber")) (.type "ValueError"), PySem.W.kitOne K (.ref (He.ga K "InvalidNumber")) (.type "KeyError"), PySem.W.kitOne K (.ref (He.ga K "InvalidNumber")) (.type "RuntimeError"), PySem.W.kitOne K (.ref (He.ga K "InvalidNumber")) (.type "OverflowError"), PySem.W.kitOne K (.ref (He.ga K "InvalidNumber")) (.type "IndexError"), PySem.W.kitOne K (.ref (He.ga K "InvalidNumber")) (.type "ArithmeticError"), PySem.W.kitOne K (.ref (He.ga K "InvalidNumber")) (.ref (He.ga K "FoundryError"))] : List (Option Bool)) = [some false, some false, some true, some false, some false, some false, some false]),
  fun K => decide (([PySem.W.kitOne K (.ref (He.ga K "TooMany")) (.type "ValueError"), PySem.W.kitOne K (.ref (He.ga K "TooMany")) (.type "KeyError"), PySem.W.kitOne K (.ref (He.ga K "TooMany")) (.type "RuntimeError"), PySem.W.kitOne K (.ref (He.ga K "TooMany")) (.type "OverflowError"), PySem.W.kitOne K (.ref (He.ga K "TooMany")) (.type "IndexError"), PySem.W.kitOne K (.ref (He.ga K "TooMany")) (.type "ArithmeticError"), PySem.W.kitOne K (.ref (He.ga K "TooMany")) (.ref (He.ga K "FoundryError"))] : List (Option Bool)) = [some false, some false, some false, some true, some false, some true, some false]),
  fun K => decide (([PySem.W.kitOne K (.ref (He.ga K "NothingToUndo")) (.type "ValueError"), PySem.W.kitOne K (.ref (He.ga K "NothingToUndo")) (.type "KeyError"), PySem.W.kitOne K (.ref (He.ga K "NothingToUndo")) (.type "RuntimeError"), PySem.W.kitOne K (.ref (He.ga K "NothingToUndo")) (.type "OverflowError"), PySem.W.kitOne K (.ref (He.ga K "NothingToUndo")) (.type "IndexError"), PySem.W.kitOne K (.ref (He.ga K "NothingToUndo")) (.type "ArithmeticError"), PySem.W.kitOne K (.ref (He.ga K "NothingToUndo")) (.ref (He.ga K "FoundryError"))] : List (Option Bool)) = [some false, some false, some false, some false, some true, some false, some false]),
  fun K => decide (([PySem.W.kitOne K (.ref (He.ga K "Broken")) (.type "ValueError"), PySem.W.kitOne K (.ref (He.ga K "Broken")) (.type "KeyError"), PySem.W.kitOne K (.ref (He.ga K "Broken")) (.type "RuntimeError"), PySem.W.kitOne K (.ref (He.ga K "Broken")) (.type "OverflowError"), PySem.W.kitOne K (.ref (He.ga K "Broken")) (.type "IndexError"), PySem.W.kitOne K (.ref (He.ga K "Broken")) (.type "ArithmeticError"), PySem.W.kitOne K (.ref (He.ga K "Broken")) (.ref (He.ga K "FoundryError"))] : List (Option Bool)) = [some false, some false, some false, some false, some false, some true, some false]),
  fun K => decide (([PySem.W.kitOne K (.ref (He.ga K "InvalidTree")) (.ref (He.ga K "InvalidTree")), PySem.W.kitOne K (.ref (He.ga K "InvalidTree")) (.ref (He.ga K "InvalidBody")), PySem.W.kitOne K (.ref (He.ga K "InvalidTree")) (.ref (He.ga K "InvalidMachine")), PySem.W.kitOne K (.ref (He.ga K "InvalidTree")) (.ref (He.ga K "InvalidCover")), PySem.W.kitOne K (.ref (He.ga K "InvalidTree")) (.ref (He.ga K "InvalidJob")), PySem.W.kitOne K (.ref (He.ga K "InvalidTree")) (.ref (He.ga K "InvalidLives")), PySem.W.kitOne K (.ref (He.ga K "InvalidTree")) (.ref (He.ga K "InvalidKernel")), PySem.W.kitOne K (.ref (He.ga K "InvalidTree")) (.ref (He.ga K "InvalidArgument")), PySem.W.kitOne K (.ref (He.ga K "InvalidTree")) (.ref (He.ga K "ParseError"))] : List (Option Bool)) = [some true, some false, some false, some false, some false, some false, some false, some false, some false]),
  fun K => decide (([PySem.W.kitOne K (.ref (He.ga K "InvalidBody")) (.ref (He.ga K "InvalidTree")), PySem.W.kitOne K (.ref (He.ga K "InvalidBody")) (.ref (He.ga K "InvalidBody")), PySem.W.kitOne K (.ref (He.ga K "InvalidBody")) (.ref (He.ga K "InvalidMachine")), PySem.W.kitOne K (.ref (He.ga K "InvalidBody")) (.ref (He.ga K "InvalidCover")), PySem.W.kitOne K (.ref (He.ga K "InvalidBody")) (.ref (He.ga K "InvalidJob")), PySem.W.kitOne K (.ref (He.ga K "InvalidBody")) (.ref (He.ga K "InvalidLives")), PySem.W.kitOne K (.ref (He.ga K "InvalidBody")) (.ref (He.ga K "InvalidKernel")), PySem.W.kitOne K (.ref (He.ga K "InvalidBody")) (.ref (He.ga K "InvalidArgument")), PySem.W.kitOne K (.ref (He.ga K "InvalidBody")) (.ref (He.ga K "ParseError"))] : List (Option Bool)) = [some false, some true, some false, some false, some false, some false, some false, some false, some false]),
  fun K => decide (([PySem.W.kitOne K (.ref (He.ga K "InvalidMachine")) (.ref (He.ga K "InvalidTree")), PySem.W.kitOne K (.ref (He.ga K "InvalidMachine")) (.ref (He.ga K "InvalidBody")), PySem.W.kitOne K (.ref (He.ga K "InvalidMachine")) (.ref (He.ga K "InvalidMachine")), PySem.W.kitOne K (.ref (He.ga K "InvalidMachine")) (.ref (He.ga K "InvalidCover")), PySem.W.kitOne K (.ref (He.ga K "InvalidMachine")) (.ref (He.ga K "InvalidJob")), PySem.W.kitOne K (.ref (He.ga K "InvalidMachine")) (.ref (He.ga K "InvalidLives")), PySem.W.kitOne K (.ref (He.ga K "InvalidMachine")) (.ref (He.ga K "InvalidKernel")), PySem.W.kitOne K (.ref (He.ga K "InvalidMachine")) (.ref (He.ga K "InvalidArgument")), PySem.W.kitOne K (.ref (He.ga K "InvalidMachine")) (.ref (He.ga K "ParseError"))] : List (Option Bool)) = [some false, some false, some true, some false, some false, some false, some false, some false, some false]),
  fun K => decide (([PySem.W.kitOne K (.ref (He.ga K "InvalidCover")) (.ref (He.ga K "InvalidTree")), PySem.W.kitOne K (.ref (He.ga K "InvalidCover")) (.ref (He.ga K "InvalidBody")), PySem.W.kitOne K (.ref (He.ga K "InvalidCover")) (.ref (He.ga K "InvalidMachine")), PySem.W.kitOne K (.ref (He.ga K "InvalidCover")) (.ref (He.ga K "InvalidCover")), PySem.W.kitOne K (.ref (He.ga K "InvalidCover")) (.ref (He.ga K "InvalidJob")), PySem.W.kitOne K (.ref (He.ga K "InvalidCover")) (.ref (He.ga K "InvalidLives")), PySem.W.kitOne K (.ref (He.ga K "InvalidCover")) (.ref (He.ga K "InvalidKernel")), PySem.W.kitOne K (.ref (He.ga K "InvalidCover")) (.ref (He.ga K "InvalidArgument")), PySem.W.kitOne K (.ref (He.ga K "InvalidCover")) (.ref (He.ga K "ParseError"))] : List (Option Bool)) = [some false, some false, some false, some true, some false, some false, some false, some false, some false]),
  fun K => decide (([PySem.W.kitOne K (.ref (He.ga K "InvalidJob")) (.ref (He.ga K "InvalidTree")), PySem.W.kitOne K (.ref (He.ga K "InvalidJob")) (.ref (He.ga K "InvalidBody")), PySem.W.kitOne K (.ref (He.ga K "InvalidJob")) (.ref (He.ga K "InvalidMachine")), PySem.W.kitOne K (.ref (He.ga K "InvalidJob")) (.ref (He.ga K "InvalidCover")), PySem.W.kitOne K (.ref (He.ga K "InvalidJob")) (.ref (He.ga K "InvalidJob")), PySem.W.kitOne K (.ref (He.ga K "InvalidJob")) (.ref (He.ga K "InvalidLives")), PySem.W.kitOne K (.ref (He.ga K "InvalidJob")) (.ref (He.ga K "InvalidKernel")), PySem.W.kitOne K (.ref (He.ga K "InvalidJob")) (.ref (He.ga K "InvalidArgument")), PySem.W.kitOne K (.ref (He.ga K "InvalidJob")) (.ref (He.ga K "ParseError"))] : List (Option Bool)) = [some false, some false, some false, some false, some true, some false, some false, some false, some false]),
  fun K => decide (([PySem.W.kitOne K (.ref (He.ga K "InvalidLives")) (.ref (He.ga K "InvalidTree")), PySem.W.kitOne K (.ref (He.ga K "InvalidLives")) (.ref (He.ga K "InvalidBody")), PySem.W.kitOne K (.ref (He.ga K "InvalidLives")) (.ref (He.ga K "InvalidMachine")), PySem.W.kitOne K (.ref (He.ga K "InvalidLives")) (.ref (He.ga K "InvalidCover")), PySem.W.kitOne K (.ref (He.ga K "InvalidLives")) (.ref (He.ga K "InvalidJob")), PySem.W.kitOne K (.ref (He.ga K "InvalidLives")) (.ref (He.ga K "InvalidLives")), PySem.W.kitOne K (.ref (He.ga K "InvalidLives")) (.ref (He.ga K "InvalidKernel")), PySem.W.kitOne K (.ref (He.ga K "InvalidLives")) (.ref (He.ga K "InvalidArgument")), PySem.W.kitOne K (.ref (He.ga K "InvalidLives")) (.ref (He.ga K "ParseError"))] : List (Option Bool)) = [some false, some false, some false, some false, some false, some true, some false, some false, some false]),
  fun K => decide (([PySem.W.kitOne K (.ref (He.ga K "InvalidKernel")) (.ref (He.ga K "InvalidTree")), PySem.W.kitOne K (.ref (He.ga K "InvalidKernel")) (.ref (He.ga K "InvalidBody")), PySem.W.kitOne K (.ref (He.ga K "InvalidKernel")) (.ref (He.ga K "InvalidMachine")), PySem.W.kitOne K (.ref (He.ga K "InvalidKernel")) (.ref (He.ga K "InvalidCover")), PySem.W.kitOne K (.ref (He.ga K "InvalidKernel")) (.ref (He.ga K "InvalidJob")), PySem.W.kitOne K (.ref (He.ga K "InvalidKernel")) (.ref (He.ga K "InvalidLives")), PySem.W.kitOne K (.ref (He.ga K "InvalidKernel")) (.ref (He.ga K "InvalidKernel")), PySem.W.kitOne K (.ref (He.ga K "InvalidKernel")) (.ref (He.ga K "InvalidArgument")), PySem.W.kitOne K (.ref (He.ga K "InvalidKernel")) (.ref (He.ga K "ParseError"))] : List (Option Bool)) = [some false, some false, some false, some false, some false, some false, some true, some false, some false]),
  fun K => decide (([PySem.W.kitOne K (.ref (He.ga K "InvalidArgument")) (.ref (He.ga K "InvalidTree")), PySem.W.kitOne K (.ref (He.ga K "InvalidArgument")) (.ref (He.ga K "InvalidBody")), PySem.W.kitOne K (.ref (He.ga K "InvalidArgument")) (.ref (He.ga K "InvalidMachine")), PySem.W.kitOne K (.ref (He.ga K "InvalidArgument")) (.ref (He.ga K "InvalidCover")), PySem.W.kitOne K (.ref (He.ga K "InvalidArgument")) (.ref (He.ga K "InvalidJob")), PySem.W.kitOne K (.ref (He.ga K "InvalidArgument")) (.ref (He.ga K "InvalidLives")), PySem.W.kitOne K (.ref (He.ga K "InvalidArgument")) (.ref (He.ga K "InvalidKernel")), PySem.W.kitOne K (.ref (He.ga K "InvalidArgument")) (.ref (He.ga K "InvalidArgument")), PySem.W.kitOne K (.ref (He.ga K "InvalidArgument")) (.ref (He.ga K "ParseError"))] : List (Option Bool)) = [some false, some false, some false, some false, some false, some false, some false, some true, some false]),
  fun K => decide (([PySem.W.kitOne K (.ref (He.ga K "ParseError")) (.ref (He.ga K "InvalidTree")), PySem.W.kitOne K (.ref (He.ga K "ParseError")) (.ref (He.ga K "InvalidBody")), PySem.W.kitOne K (.ref (He.ga K "ParseError")) (.ref (He.ga K "InvalidMachine")), PySem.W.kitOne K (.ref (He.ga K "ParseError")) (.ref (He.ga K "InvalidCover")), PySem.W.kitOne K (.ref (He.ga K "ParseError")) (.ref (He.ga K "InvalidJob")), PySem.W.kitOne K (.ref (He.ga K "ParseError")) (.ref (He.ga K "InvalidLives")), PySem.W.kitOne K (.ref (He.ga K "ParseError")) (.ref (He.ga K "InvalidKernel")), PySem.W.kitOne K (.ref (He.ga K "ParseError")) (.ref (He.ga K "InvalidArgument")), PySem.W.kitOne K (.ref (He.ga K "ParseError")) (.ref (He.ga K "ParseError"))] : List (Option Bool)) = [some false, some false, some false, some false, some false, some false, some false, some false, some true]),
  fun K => xfB K (He.ga K "ParseError"),
  fun K => xfB K (He.ga K "UnknownName"),
  fun K => xfB K (He.ga K "InvalidNumber"),
  fun K => xfB K (He.ga K "TooMany")]
def exL4 : List (PySem.W.Frag → Bool) := [fun K => xfB K (He.ga K "NothingToUndo"),
  fun K => xfB K (He.ga K "Broken"),
  fun K => decide (PySem.W.exmOne K (.ref (He.ga K "InvalidNumber")) (.ref (He.ga K "InvalidNumber")) = some true)]
def exL : List (PySem.W.Frag → Bool) := exL0 ++ (exL1 ++ (exL2 ++ (exL3 ++ (exL4))))
def tfL : List He.Defn := [("_law_refused_right", none)]
abbrev R5 : PySem.W.OpenRow := PySem.W.OpenLaw.row PySem.Challenge.rw_loopfoundry_k00_errors_and_numbers
abbrev hk : PySem.W.Hook := LfH.hookZ 800 fnL tfL (LfH.exA exL)
def ob (s : PySem.W.SharedT) : LfH.AlZ := LfH.obsZ 800 fnL tfL (LfH.exA exL) (HandSHeadRun.getT s)
theorem ob_eq (s : PySem.W.SharedT) : ob s = hk.obs s.abs := LfH.obsZ_eq (HandSHeadRun.getT_eq s)
def loose0 : List Str := ["__name__",
  "FoundryError",
  "InvalidTree",
  "InvalidBody",
  "InvalidMachine",
  "InvalidCover",
  "InvalidJob",
  "InvalidLives",
  "InvalidKernel",
  "InvalidArgument",
  "ParseError",
  "UnknownName",
  "InvalidNumber",
  "TooMany",
  "NothingToUndo",
  "Broken",
  "LETTERS",
  "MAX_NAME",
  "LIMIT",
  "MAX_INTERVAL",
  "MAX_TICKS",
  "is_name",
  "is_number",
  "is_integer",
  "is_within",
  "require_integer",
  "require_within",
  "require_interval",
  "slot_in",
  "rounded_in"]
def loose1 : List Str := ["slot_of",
  "rounded_up",
  "_law_loom",
  "_law_turn",
  "_law_pick",
  "_law_is_told",
  "_law_families",
  "_law_errors_right",
  "_law_word",
  "_law_names_right",
  "_law_slots_right",
  "_law_refused_right"]
def loose : List Str := loose0 ++ (loose1)
theorem run (w : World) : HandSHeadRun.RunEq R5 (PySem.W.view R5.prog [44]) hk ob 9000 loose w := by
  intro os
  kernel_rfl
end My
set_option maxHeartbeats 4000000
namespace My
open PySem L2 Lf Evl Tr StX
abbrev s_law_loom : Stmt := top 34
theorem sc_law_loom : FnScope ["_law_script", "_law_spot", "_law_cell", "_law_great", "_law_blend"] ["_law_script", "_law_spot"] (defScope s_law_loom) := ⟨rfl, rfl, rfl, by decide +kernel, rfl, by decide +kernel, by decide +kernel⟩
abbrev s_law_turn : Stmt := top 35
theorem sc_law_turn : FnScope ["_law_loom_here", "_law_total", "_law_found", "_law_one", "_law_two"] ["_law_loom_here", "_law_total"] (defScope s_law_turn) := ⟨rfl, rfl, rfl, by decide +kernel, rfl, by decide +kernel, by decide +kernel⟩
abbrev s_law_pick : Stmt := top 36
theorem sc_law_pick : FnScope ["_law_loom_here", "_law_items"] ["_law_loom_here", "_law_items"] (defScope s_law_pick) := ⟨rfl, rfl, rfl, by decide +kernel, rfl, by decide +kernel, by decide +kernel⟩
/-- the three ints of a loom -/
def Lm (xs : List V) : Prop := ∃ a b c : Int, xs = [.int a, .int b, .int c] ∧ 0 ≤ b ∧ b < 2305843009213693951
def spLoom (K : PySem.W.Frag) : Sp := fun vs H Q _ => ∃ (a : Addr) (ns : List Int) (i : Nat), vs = [.ref a, .int (i : Int)] ∧ SqL K H a (ns.map V.int) ∧ ∀ p xs, H p = none → Lm xs → Q (.ref p) (upd H p (.lst xs))
def preT (ds : List PyData) : Prop := ∃ m : Int, ds = [.int m] ∧ 0 < m ∧ m < 1073741824
def postT (ds : List PyData) (d : PyData) : Prop := ∃ m r : Int, ds = [.int m] ∧ d = .int r ∧ 0 ≤ r ∧ r < m
def preP (ds : List PyData) : Prop := ∃ xs : List PyData, ds = [.list xs] ∧ 0 < xs.length ∧ xs.length ≤ 1000
def postP (ds : List PyData) (d : PyData) : Prop := ∃ xs : List PyData, ds = [.list xs] ∧ d ∈ xs
def smI (d : PyData) : Prop := ∃ i : Int, d = .int i ∧ i.natAbs < 10 ^ 20
section
variable {K : PySem.W.Frag} {L : Addr} {σ : L2.St} {G : Hp} {ta tb te : TE} {tA : TA} {d : PyData} {ds : List PyData} {R : List PyData → Prop}
theorem dr_turn {i : Nat} {E : XK} {m : Int} (hL : σ[i]? = some (some (.ref L))) (h : Ev te σ G (.int m)) (h0 : 0 < m) (h1 : m < 1073741824) : Dr Lm L (tCallD (spDr Lm preT postT) E (tCons (tVar i) (tCons te tNil))) σ G (isI fun r => 0 ≤ r ∧ r < m) :=
  (dr_call hL (drs_of (evd_cons (evd_int h) evd_nil)) (fun ds e => ⟨m, e, h0, h1⟩)).imp fun d ⟨ds, e, m', r, e2, e3, e4, e5⟩ => by
    rw [e] at e2
    cases e2
    exact ⟨r, e3, e4, e5⟩
theorem dr_pick {i : Nat} {E : XK} (hL : σ[i]? = some (some (.ref L))) (h : EvD te σ G (.list ds)) (h0 : 0 < ds.length) (h1 : ds.length ≤ 1000) : Dr Lm L (tCallD (spDr Lm preP postP) E (tCons (tVar i) (tCons te tNil))) σ G (fun d => d ∈ ds) :=
  (dr_call hL (drs_of (evd_cons h evd_nil)) (fun ds' e => ⟨ds, e, h0, h1⟩)).imp fun d ⟨ds', e, xs, e2, e3⟩ => by
    rw [e] at e2
    cases e2
    exact e3
theorem dr_tupleOf (h : Dr Lm L te σ G (fun d => ∃ ds, d = .list ds ∧ R ds)) : Dr Lm L (tCB (fun xs H Q => ∃ p ys, xs = [V.ref p] ∧ ((SqL K H p ys ∧ ∀ l, H l = none → Q (.ref l) (upd H l (.tup ys))) ∨ (SqT K H p ys ∧ Q (.ref p) H))) (tCons te tNil)) σ G (fun d => ∃ ds, d = .tuple ds ∧ R ds) := fun G1 H1 x w Q q => h G1 H1 x w _ fun v d G2 H2 r ⟨ds, e, hR⟩ hd => by
  subst e
  obtain ⟨a, xs, rfl, e, hs⟩ := hd.lst_
  refine ⟨a, xs, rfl, .inl ⟨SqL.of (r.s _ _ e), fun l hl => ?_⟩⟩
  have n := Gr.new (o := .tup xs) r.s hl rfl
  exact q (.ref l) _ _ _ (r.gr n) ⟨ds, rfl, hR⟩ (.tup upd_same (hs.up n.g))
theorem evd_pow {i j : Int} (h : CPow i j) : EvD (tOp (rI CPow fun i j => .int (i ^ j.toNat)) (tC (.int i)) (tC (.int j))) σ G (.int (i ^ j.toNat)) := evd_int (ev_op ev_c ev_c (rv_I h))
end
theorem cpow (i j : Nat) (h : (j : Int) ≤ 1000000) (hi : i < 2 ^ 64) : CPow (i : Int) (j : Int) := ⟨by omega, h, by rw [Int.natAbs_natCast]; exact hi⟩
/-! ### what is drawn -/
def preE (ds : List PyData) : Prop := ds = []
def postE (ds : List PyData) (d : PyData) : Prop := ∃ a b : Int, d = .tuple [.int a, .int b] ∧ a.natAbs < 10 ^ 20 ∧ b.natAbs < 10 ^ 20
section
variable {P : Program} {w : World} {K : PySem.W.Frag} {mg : Str → Option Value} {base : Heap} {CN fI : Addr}
theorem ok_law_turn (T : Txt P K mg CN fI) (D : Df K mg "_law_turn" s_law_turn) : DefOk P w K mg base CX0 1 "_law_turn" ["_law_loom_here", "_law_total"] (spDr Lm preT postT) := by
  refine D.ok sc_law_turn (fun _ _ _ _ _ _ us hl => match us, hl with | [_, _], _ => rfl) (fun vs H Q E h => spDr_len (n := 1) (fun ds ⟨m, e, _⟩ => by rw [e]; rfl) h) (fun f cdv A outer s H vs Q E hr h => ?_)
  obtain ⟨d, G, us, ds, rfl, w, hds, ⟨m, rfl, m0, m1⟩, q⟩ := h
  cases hds with
  | cons h0 t =>
  cases t
  cases h0.int_
  obtain ⟨_, hd, a, b, c, rfl, hb1, hb2⟩ := w.l
  refine ⟨_, (pss_cons (ps_if (pt_cmpR op_gt (pe_ix ix_list (pv 0) pe_int (fun _ _ => rfl)) pe_int (nomark _))
 (pss_cons (ps_set (i := 2) sc_law_turn.nd rfl (Or.inl rfl) (pe_op op_mod (pe_callTy call_int1 (by rfl) T.n_int (by decide +kernel) (pa_cons (pe_ix ix_list (pv 0) pe_int (fun _ _ => rfl)) pa_nil)) (pv 1)))
 (pss_cons (ps_asg (pe_op op_fdiv (pe_ix ix_list (pv 0) pe_int (fun _ _ => rfl)) (pv 1)) (pg_sub (pv 0) pe_int set_list))
 (pss_one (ps_ret (pv 2)))))
 pss_nil)
 (pss_cons (ps_asg (pe_op op_add (pe_ix ix_list (pv 0) pe_int (fun _ _ => rfl)) pe_int) (pg_sub (pv 0) pe_int set_list))
 (pss_cons (ps_set (i := 3) sc_law_turn.nd rfl (Or.inl rfl) (pe_op op_mod (pe_callTy call_int1 (by rfl) T.n_int (by decide +kernel) (pa_cons (pe_op op_add (pe_op op_mul (pe_ix ix_list (pv 0) pe_int (fun _ _ => rfl)) pe_int) (pe_op op_mul (pe_ix ix_list (pv 0) pe_int (fun _ _ => rfl)) pe_int)) pa_nil)) pe_int))
 (pss_cons (ps_set (i := 4) sc_law_turn.nd rfl (Or.inl rfl) (pe_op op_add (pe_op op_mul (pe_op op_mod (pe_callTy call_int1 (by rfl) T.n_int (by decide +kernel) (pa_cons (pe_op op_mul (pv 3) (pv 3)) pa_nil)) pe_int) (pv 3)) (pe_op op_mul pe_int (pe_ix ix_list (pv 0) pe_int (fun _ _ => rfl)))))
 (pss_one (ps_ret (pe_op op_mod (pe_callTy call_int1 (by rfl) T.n_int (by decide +kernel) (pa_cons (pe_op op_fdiv (pe_op op_mod (pe_callTy call_int1 (by rfl) T.n_int (by decide +kernel) (pa_cons (pe_op op_add (pv 4) (pe_ix ix_list (pv 0) pe_int (fun _ _ => rfl))) pa_nil)) pe_int) pe_int) pa_nil)) (pv 1)))))))), ?_⟩
  refine ⟨_, rfl, _, _, _, _, rfl, rfl, SqL.of hd, rfl, _, _, rfl, rfl, _, rfl, ?_⟩
  have fin : ∀ {xs : List V} {r : Int}, Lm xs → 0 ≤ r → r < m → Q (.int r) (upd H d (.lst xs)) := fun hx r0 r1 => q _ _ G _ (GrB.turn w hx) ⟨m, _, rfl, rfl, r0, r1⟩ (.int _)
  cases ha : decide (0 < a) with
  | true =>
    refine if_so rfl ?_
    refine ⟨_, rfl, _, _, _, _, rfl, rfl, SqL.of hd, rfl, .inl ⟨_, rfl, _, rfl, _, _, rfl, rfl, m0, ?_⟩⟩
    refine ⟨_, rfl, _, _, _, _, rfl, rfl, SqL.of hd, rfl, _, rfl, _, _, rfl, rfl, ⟨m0, m1⟩, _, rfl, _, _, _, _, rfl, rfl, hd, rfl, ?_⟩
    exact ⟨_, rfl, fin ⟨_, _, _, rfl, hb1, hb2⟩ (Int.emod_nonneg _ (by omega)) (Int.emod_lt_of_pos _ m0)⟩
  | false =>
    refine if_no rfl ?_
    refine ⟨_, rfl, _, _, _, _, rfl, rfl, SqL.of hd, rfl, _, _, rfl, rfl, _, rfl, _, _, _, _, rfl, rfl, hd, rfl, ?_⟩
    have hd2 : upd H d (.lst ([V.int a, V.int b, V.int c].set 2 (V.int (c + 1)))) d = some (.lst [.int a, .int b, .int (c + 1)]) := upd_same
    refine ⟨_, rfl, _, _, _, _, rfl, rfl, SqL.of hd2, rfl, _, _, rfl, rfl, .inr ⟨by decide, by decide⟩, _, rfl, _, _, _, _, rfl, rfl, SqL.of hd2, rfl, _, _, rfl, rfl, .inr ⟨by decide, by decide⟩, _, _, rfl, rfl, .inl ⟨_, rfl, _, _, rfl, rfl, show (0 : Int) < 2305843009213693951 by decide, ?_⟩⟩
    have e1 := Int.emod_nonneg (b * 22695477 + (c + 1) * 1597334677) (show (2305843009213693951 : Int) ≠ 0 by decide)
    have e2 := Int.emod_lt_of_pos (b * 22695477 + (c + 1) * 1597334677) (show (0 : Int) < 2305843009213693951 by decide)
    refine ⟨_, rfl, _, rfl, _, _, rfl, rfl, .inl ⟨by omega, by omega⟩, .inl ⟨_, rfl, _, _, rfl, rfl, show (0 : Int) < 1152921504606846577 by decide, ?_⟩⟩
    have e3 := Int.emod_nonneg ((b * 22695477 + (c + 1) * 1597334677) % 2305843009213693951 * ((b * 22695477 + (c + 1) * 1597334677) % 2305843009213693951)) (show (1152921504606846577 : Int) ≠ 0 by decide)
    have e4 := Int.emod_lt_of_pos ((b * 22695477 + (c + 1) * 1597334677) % 2305843009213693951 * ((b * 22695477 + (c + 1) * 1597334677) % 2305843009213693951)) (show (0 : Int) < 1152921504606846577 by decide)
    refine ⟨_, rfl, _, _, rfl, rfl, .inr ⟨by omega, by omega⟩, _, rfl, _, _, _, _, rfl, rfl, SqL.of hd2, rfl, _, _, rfl, rfl, .inl ⟨by decide, by decide⟩, _, _, rfl, rfl, ?_⟩
    refine ⟨_, rfl, _, rfl, _, _, _, _, rfl, rfl, SqL.of hd2, rfl, _, _, rfl, rfl, .inl ⟨_, rfl, _, _, rfl, rfl, show (0 : Int) < 4398046511119 by decide, _, _, rfl, rfl, ⟨by decide, by decide⟩, .inl ⟨_, rfl, _, rfl, _, _, rfl, rfl, m0, ?_⟩⟩⟩
    exact fin ⟨_, _, _, rfl, hb1, hb2⟩ (Int.emod_nonneg _ (by omega)) (Int.emod_lt_of_pos _ m0)
theorem ok_law_pick (T : Txt P K mg CN fI) (D : Df K mg "_law_pick" s_law_pick) (D_law_turn : DefOk P w K mg base CX0 1 "_law_turn" ["_law_loom_here", "_law_total"] (spDr Lm preT postT)) : DefOk P w K mg base CX0 2 "_law_pick" ["_law_loom_here", "_law_items"] (spDr Lm preP postP) := by
  refine D.ok sc_law_pick (fun _ _ _ _ _ _ us hl => match us, hl with | [_, _], _ => rfl) (fun vs H Q E h => spDr_len (n := 1) (fun ds ⟨m, e, _⟩ => by rw [e]; rfl) h) (fun f cdv A outer s H vs Q E hr h => ?_)
  obtain ⟨L, G, us, ds, rfl, w, hds, ⟨xs, rfl, h0, h1⟩, q⟩ := h
  cases hds with
  | cons hv t =>
  cases t
  refine ⟨_, (pss_one (ps_ret (pe_ix ix_list (pv 1) (pe_callD D_law_turn (hr.mono (by decide)) pass0 (pa_cons (pv 0) (pa_cons (pe_callB call_len_seq (by rfl) T.n_len (by decide +kernel) (pa_cons (pv 1) pa_nil)) pa_nil))) (fun _ _ => rfl)))), ?_⟩
  exact s_retR w (dr_ixL (dr_of (evd_var rfl hv)) (dr_turn rfl (ev_lenL (evd_var rfl hv)) (by omega) (by omega)) (fun i h => h)) (fun v d G1 H1 r p hd => q v d G1 H1 r ⟨xs, rfl, p⟩ hd)
theorem ok_law_loom (T : Txt P K mg CN fI) (D : Df K mg "_law_loom" s_law_loom) : DefOk P w K mg base CX0 1 "_law_loom" ["_law_script", "_law_spot"] (spLoom K) := by
  refine D.ok sc_law_loom (fun _ _ _ _ _ _ us hl => match us, hl with | [_, _], _ => rfl) (fun vs H Q E h => ?_) (fun f cdv A outer s H vs Q E hr h => ?_)
  · obtain ⟨_, _, _, rfl, _⟩ := h
    rfl
  obtain ⟨a, ns, i, rfl, hs, q⟩ := h
  refine ⟨_, (pss_cons (ps_set (i := 2) sc_law_loom.nd rfl (Or.inl rfl) (pe_ifExp (pt_cmpR op_lt (pv 1) (pe_callB call_len_seq (by rfl) T.n_len (by decide +kernel) (pa_cons (pv 0) pa_nil)) (nomark _)) (pe_ix ix_list (pv 0) (pv 1) (fun _ _ => rfl)) (pe_op op_add (pe_op op_mul pe_int (pv 1)) pe_int)))
 (pss_cons (ps_set (i := 3) sc_law_loom.nd rfl (Or.inl rfl) (pe_op op_mod (pe_callTy call_int1 (by rfl) T.n_int (by decide +kernel) (pa_cons (pe_callB call_abs (by rfl) T.n_abs (by decide +kernel) (pa_cons (pv 2) pa_nil)) pa_nil)) (pe_op op_powX (pe_op op_powX pe_int pe_int) pe_int)))
 (pss_cons (ps_set (i := 4) sc_law_loom.nd rfl (Or.inl rfl) (pe_op op_add (pe_op op_add (pe_op op_add (pe_op op_mul (pv 3) pe_int) (pe_op op_mul pe_int (pv 1))) (pe_op op_mul pe_int (pe_callTy call_int1 (by rfl) T.n_int (by decide +kernel) (pa_cons (pe_cmpR op_lt (pv 2) pe_int (nomark _)) pa_nil)))) pe_int))
 (pss_one (ps_ret (pe_lst (pa_cons (pe_callB (call_max2 rfl) (by rfl) T.n_max (by decide +kernel) (pa_cons pe_int (pa_cons (pe_op op_sub (pv 3) (pe_op op_powX pe_int pe_int)) pa_nil))) (pa_cons (pe_op op_mod (pe_callTy call_int1 (by rfl) T.n_int (by decide +kernel) (pa_cons (pv 4) pa_nil)) pe_int) (pa_cons pe_int pa_nil))))))))), ?_⟩
  have p1 : CPowX 10 60 := ⟨by decide, by decide +kernel⟩
  have p2 : CPowX ((10 : Int) ^ Int.toNat 60) 10 := ⟨by decide, by decide +kernel⟩
  have p3 : CPowX 10 18 := ⟨by decide, by decide +kernel⟩
  have p4 : 0 < ((10 : Int) ^ Int.toNat 60) ^ Int.toNat 10 := by decide +kernel
  generalize hM : ((10 : Int) ^ Int.toNat 60) ^ Int.toNat 10 = M at p4
  have cell : ∃ c : Int, ∀ Q' : VK, Q' (.int c) H → (tIf (tTest (tOp (rI0 fun i j => .bl (decide (i < j))) (tVar 1) (tCB (fun xs H Q => ∃ p ys, xs = [V.ref p] ∧ (SqL K H p ys ∨ SqT K H p ys) ∧ Q (.int ys.length) H) (tCons (tVar 0) tNil)))) (tOp (rIxL K) (tVar 0) (tVar 1)) (tOp (rI0 fun i j => .int (i + j)) (tOp (rI CMul fun i j => .int (i * j)) (tC (.int 71)) (tVar 1)) (tC (.int 29)))) (start ["_law_script", "_law_spot", "_law_cell", "_law_great", "_law_blend"] [.ref a, .int (i : Int)]) H Q' := by
    by_cases c : i < ns.length
    · refine ⟨ns[i], fun Q' q' => ?_⟩
      refine ⟨_, rfl, _, rfl, _, _, rfl, .inl hs, _, _, rfl, rfl, _, rfl, if_so (decide_eq_true (by rw [List.length_map]; omega)) ?_⟩
      refine ⟨_, rfl, _, rfl, _, _, _, _, rfl, rfl, hs, ?_, q'⟩
      exact atI_nat (by rw [List.getElem?_map, List.getElem?_eq_getElem c]; rfl)
    · refine ⟨71 * (i : Int) + 29, fun Q' q' => ?_⟩
      refine ⟨_, rfl, _, rfl, _, _, rfl, .inl hs, _, _, rfl, rfl, _, rfl, if_no (decide_eq_false (by rw [List.length_map]; omega)) ?_⟩
      exact ⟨_, rfl, _, _, rfl, rfl, .inl ⟨by decide, by decide⟩, _, _, rfl, rfl, q'⟩
  obtain ⟨c, hc⟩ := cell
  refine hc _ ?_
  refine ⟨_, rfl, _, rfl, .inl ⟨_, rfl, _, _, rfl, rfl, p1, _, _, rfl, rfl, p2, _, _, rfl, rfl, ?_⟩⟩
  rw [hM]
  refine ⟨p4, ?_⟩
  refine ⟨_, rfl, _, _, rfl, rfl, .inr ⟨by decide, by decide⟩, _, rfl, _, _, rfl, rfl, .inl ⟨by decide, by decide⟩, _, _, rfl, rfl, _, rfl, _, _, rfl, rfl, .inr ⟨_, rfl, _, _, rfl, rfl, .inl ⟨by decide, by decide⟩, _, _, rfl, rfl, _, _, rfl, rfl, ?_⟩⟩
  refine ⟨_, rfl, _, _, rfl, rfl, p3, _, _, rfl, rfl, _, _, rfl, _, rfl, .inl ⟨_, rfl, _, _, rfl, rfl, show (0 : Int) < 2305843009213693669 by decide, ?_⟩⟩
  refine ⟨show 3 ≤ sizeLine by decide, fun p hp => q p _ hp ⟨_, _, _, rfl, Int.emod_nonneg _ (by decide), Int.lt_trans (Int.emod_lt_of_pos _ (by decide)) (by decide)⟩⟩
end
end My
set_option maxHeartbeats 4000000
/-! Dicts of data, enumerate, f-strings -/
namespace Lf
open PySem PySem.Spec L2 Evl
theorem keyD_inj {a b : Key} (h : keyD a = keyD b) : a = b := by
  cases a <;> cases b <;> cases h <;> rfl
theorem nodup_back {vs : List (Key × V)} (h : (vs.map fun p => keyD p.1).Nodup) : (vs.map Prod.fst).Nodup := by
  have e : (vs.map fun p => keyD p.1) = (vs.map Prod.fst).map keyD := by rw [List.map_map]; rfl
  rw [e] at h
  exact List.Pairwise.of_map keyD (fun a b hab e => hab (congrArg keyD e)) h
theorem nodup_forth {vs : List (Key × V)} (h : (vs.map Prod.fst).Nodup) : (vs.map fun p => keyD p.1).Nodup := by
  have e : (vs.map fun p => keyD p.1) = (vs.map Prod.fst).map keyD := by rw [List.map_map]; rfl
  rw [e]
  exact List.Pairwise.map _ (fun a b hab z => hab (keyD_inj z)) h
theorem mergeK_new : ∀ (more kvs : List (Key × V)), ((kvs ++ more).map Prod.fst).Nodup → mergeK kvs more = kvs ++ more
  | [], kvs, _ => by rw [List.append_nil]; rfl
  | a :: t, kvs, h => by
    have h2 : ((kvs ++ [a]) ++ t).map Prod.fst = (kvs ++ a :: t).map Prod.fst := by simp
    have fr : a.1 ∉ kvs.map Prod.fst := fun z => by
      rw [List.map_append, List.nodup_append] at h
      exact h.2.2 a.1 z a.1 (by simp) rfl
    show mergeK (putK kvs a.1 a.2) t = _
    rw [putK_new a.2 (valV_none fr)]
    show mergeK (kvs ++ [a]) t = _
    rw [mergeK_new t (kvs ++ [a]) (by rw [h2]; exact h), List.append_assoc]
    rfl
theorem DaKvs.app {H : Hp} {ds es : List (PyData × PyData)} {vs us : List (Key × V)} (h : DaKvs H vs ds) (h2 : DaKvs H us es) : DaKvs H (vs ++ us) (ds ++ es) := by
  induction ds generalizing vs with
  | nil => cases h; exact h2
  | cons d ds ih => cases h with | cons h t => exact .cons h (ih t)
theorem DaKvs.get {H : Hp} {ds : List (PyData × PyData)} {vs : List (Key × V)} (h : DaKvs H vs ds) {k : Key} {d : PyData} (hn : (ds.map Prod.fst).Nodup) (hm : (keyD k, d) ∈ ds) : ∃ v, valV vs k = some v ∧ Da H v d := by
  induction ds generalizing vs with
  | nil => cases hm
  | cons e ds ih =>
    cases h with
    | @cons k' v' vs' d' ds' hv t =>
      rw [List.map_cons, List.nodup_cons] at hn
      rcases List.mem_cons.mp hm with z | z
      · cases keyD_inj (Prod.mk.inj z).1
        cases (Prod.mk.inj z).2
        exact ⟨v', by unfold valV; rw [List.find?_cons_of_pos (by simp)]; rfl, hv⟩
      · obtain ⟨v, h1, h2⟩ := ih t hn.2 z
        refine ⟨v, ?_, h2⟩
        unfold valV at h1 ⊢
        rw [List.find?_cons_of_neg (by
          simp only [decide_eq_true_eq]
          rintro rfl
          exact hn.1 (List.mem_map.mpr ⟨_, z, rfl⟩))]
        exact h1
theorem DaKvs.not {H : Hp} {ds : List (PyData × PyData)} {vs : List (Key × V)} (h : DaKvs H vs ds) {k : Key} (hm : keyD k ∉ ds.map Prod.fst) : valV vs k = none := by
  refine valV_none fun z => hm ?_
  rw [h.keys]
  obtain ⟨p, hp, e⟩ := List.mem_map.mp z
  exact List.mem_map.mpr ⟨p, hp, by rw [← e]⟩
/-- a text is a key -/
def keyIn (k0 : Str) (ds : List (PyData × PyData)) : Bool := ds.any fun p => match p.1 with
  | .str x => decide (x = k0)
  | _ => false
theorem keyIn_iff {k0 : Str} {ds : List (PyData × PyData)} : keyIn k0 ds = true ↔ PyData.str k0 ∈ ds.map Prod.fst := by
  unfold keyIn
  rw [List.any_eq_true, List.mem_map]
  constructor
  · rintro ⟨⟨a, b⟩, hm, e⟩
    refine ⟨(a, b), hm, ?_⟩
    cases a with
    | str x => rw [of_decide_eq_true (show decide (x = k0) = true from e)]
    | _ => cases e
  · rintro ⟨⟨a, b⟩, hm, e⟩
    refine ⟨(a, b), hm, ?_⟩
    cases (show a = PyData.str k0 from e)
    exact decide_eq_true rfl
section
variable {X : Addr → Prop} {L p : Addr} {G0 H0 G H G1 H1 : Hp} {Ls B : List (Addr × Lo)} {K : PySem.W.Frag} {σ : L2.St} {te tk tv : TE} {tz : TS} {D : Ends} {i j : Nat} {d : PyData} {ds es : List (PyData × PyData)} {k0 : Str}
/-- {k: v} as an object that is still written -/
theorem q_newD1 (S : St X G0 H0 G H Ls) (hk : Ev tk σ G (.str k0)) (hv : EvD tv σ G d) (k : ∀ p G1 H1, ¬ X p → St X G0 H0 G1 H1 ((p, .dic [(.str k0, d)]) :: Ls) → Ex G G1 → tz D (σ.set i (some (.ref p))) H1) : tSeq (tAsg (tDisp [(tk, tv)]) (gName i)) tz D σ H := fun p hp => by
  have nx := S.notX hp
  have S1 := S.new (lo := .dic []) hp ⟨[], rfl, .nil⟩
  refine hk _ S1.s _ fun H2 x2 => ?_
  have S2 := S1.keep x2
  refine hv.go S2.s fun v G3 H3 r hd => ?_
  have S3 := S2.ev r
  obtain ⟨kvs, e, hn⟩ := (S3.l (p, .dic []) (.head _)).2.2
  cases hn
  exact ⟨e, [(.inr k0, v)], rfl, (show 1 ≤ 15 by decide), k p G3 _ nx (S3.mut (lo2 := .dic [(.str k0, d)]) ⟨[(.inr k0, v)], rfl, .cons (k := .inr k0) hd .nil⟩) r.g⟩
/-- d.update(e), e a dict with other keys -/
theorem s_updS (S : St X G0 H0 G H ((p, .dic ds) :: B)) (hσ : σ[i]? = some (some (.ref p))) (h : EvD te σ G (.dict es)) (nd : ((ds ++ es).map Prod.fst).Nodup) (hl : ds.length + es.length ≤ 50000) (k : ∀ G1 H1, St X G0 H0 G1 H1 ((p, .dic (ds ++ es)) :: B) → Ex G G1 → D.nx σ H1) : tDrop (tBM K "dict" rDUpd (tVar i) (tCons te tNil)) D σ H := by
  obtain ⟨kvs, e, hd⟩ := (S.l (p, .dic ds) (.head _)).2.2
  refine ⟨_, hσ, .inr (.inr (.inl ⟨rfl, .inl ⟨kvs, e⟩⟩)), h.go S.s fun v G1 H1 r hv => ?_⟩
  have S1 := S.ev r
  cases hv with
  | @dct a more _ ea ha =>
    obtain ⟨kvs1, e1, hd1⟩ := (S1.l (p, .dic ds) (.head _)).2.2
    have gp := (S1.l (p, .dic ds) (.head _)).2.1
    have ne : p ≠ a := fun z => by rw [z, ea] at gp; cases gp
    have n2 : ((kvs1 ++ more).map Prod.fst).Nodup := nodup_back (by rw [← (hd1.app ha).keys]; exact nd)
    refine ⟨p, a, kvs1, more, rfl, rfl, ne, e1, r.s _ _ ea, ?_, ?_⟩
    · rw [hd1.len, ha.len]
      exact Nat.le_trans hl (by decide)
    · rw [mergeK_new _ _ n2]
      exact k G1 _ (S1.mut ⟨_, rfl, hd1.app ha⟩) r.g
/-- {k: v, **e}, e a dict with other keys -/
theorem evd_disp1 (hk : Ev tk σ G (.str k0)) (hv : EvD tv σ G d) (he : EvD te σ G (.dict es)) (nd : (((PyData.str k0, d) :: es).map Prod.fst).Nodup) (hl : es.length ≤ 50000) : EvD (tDisp1 tk tv te) σ G (.dict ((.str k0, d) :: es)) := fun G1 H1 x s Q q p hp => by
  have S0 := St.pure s
  have S1 := S0.new (lo := .dic []) hp ⟨[], rfl, .nil⟩
  refine hk _ (x.trans S1.s) _ fun H2 x2 => ?_
  have S2 := S1.keep x2
  refine hv _ _ x S2.s _ fun v G3 H3 r hd => ?_
  have S3 := S2.ev r
  obtain ⟨kvs, e, hn⟩ := (S3.l (p, .dic []) (.head _)).2.2
  cases hn
  refine ⟨.inr k0, v, rfl, e, ?_⟩
  have S4 := S3.mut (lo2 := .dic [(.str k0, d)]) ⟨[(.inr k0, v)], rfl, .cons (k := .inr k0) hd .nil⟩
  refine he _ _ (x.trans r.g) S4.s _ fun u G5 H5 r5 hu => ?_
  have S5 := S4.ev r5
  cases hu with
  | @dct a more _ ea ha =>
    have n2 : (((Sum.inr k0, v) :: more).map Prod.fst : List Key).Nodup := nodup_back (vs := (.inr k0, v) :: more) (by
      have z := (DaKvs.cons (k := .inr k0) (hd.up r5.g) ha).keys
      rw [← z]
      exact nd)
    have e5 : H5 p = some (.dK [(.inr k0, v)]) := r5.h _ _ upd_same
    refine ⟨a, more, rfl, e5, r5.s _ _ ea, n2, by rw [ha.len]; exact Nat.le_trans (show 1 + es.length ≤ 60000 by omega) (by decide), ?_⟩
    have S6 := S5.mut (lo2 := .dic ((.str k0, d) :: es)) ⟨(.inr k0, v) :: more, rfl, .cons (k := .inr k0) (hd.up r5.g) ha⟩
    obtain ⟨G7, x7, S7, h7⟩ := S6.putD (fun z => z)
    exact q _ G7 _ S7.gr h7
/-- d[k] -/
theorem evd_dget {ti : TE} (h : EvD te σ G (.dict ds)) (hi : Ev ti σ G (.str k0)) (nd : (ds.map Prod.fst).Nodup) (hm : (.str k0, d) ∈ ds) : EvD (tDGet te ti) σ G d := fun G1 H1 x s Q q => h G1 H1 x s _ fun v G2 H2 r hd => hi H2 ((x.trans r.g).trans r.s) _ fun H3 x3 => by
  cases hd with
  | @dct a kvs _ ea ha =>
    obtain ⟨u, e1, e2⟩ := ha.get (k := .inr k0) nd hm
    exact ⟨a, u, rfl, by rw [← e1]; exact DGet.k (k := Sum.inr k0) (x3 _ _ (r.s _ _ ea)), q u G2 H3 (r.trans (Gr.keep r.s x3)) e2⟩
/-- k in d -/
theorem ev_din {ti : TE} (hi : Ev ti σ G (.str k0)) (h : EvD te σ G (.dict ds)) (nd : (ds.map Prod.fst).Nodup) : Ev (tDIn ti te) σ G (.bl (keyIn k0 ds)) := fun H1 x Q q => hi H1 x _ fun H2 x2 => h G H2 (Ex.refl _) (x.trans x2) _ fun v G3 H3 r hd => by
  cases hd with
  | @dct a kvs _ ea ha =>
    refine ⟨a, valV kvs (.inr k0), rfl, DGet.k (k := Sum.inr k0) (r.s _ _ ea), ?_⟩
    have e : (valV kvs (.inr k0)).isSome = keyIn k0 ds := by
      by_cases c : keyIn k0 ds = true
      · rw [c]
        obtain ⟨⟨k', d'⟩, hm, e0⟩ := List.mem_map.mp (keyIn_iff.mp c)
        cases (show k' = PyData.str k0 from e0)
        obtain ⟨u, e1, _⟩ := ha.get (k := .inr k0) nd hm
        rw [e1]
        rfl
      · rw [ha.not (k := .inr k0) (fun z => c (keyIn_iff.mpr z)), Bool.eq_false_iff.mpr c]
        rfl
    rw [e]
    exact q H3 (x2.trans r.h)
/-- for i, x in enumerate(t) -/
theorem q_forET {ti : TE} {dt : List PyData} {tb : TS} (s : Ex G H) (h : EvD ti σ G (.tuple dt)) (k : ∀ G1 H1, Gr G H G1 H1 → ∃ Pv : Nat → L2.St → Hp → Prop, Pv 0 σ H1 ∧ (∀ n σ' H', Pv n σ' H' → Ex G1 H') ∧
    (∀ n e v σ' H' H'', dt[n]? = some e → Da G1 v e → Pv n σ' H' → Ex H' H'' → tb { D with nx := Pv (n + 1), ct := Pv (n + 1), bk := tz D } ((σ'.set i (some (.int (n : Nat)))).set j (some v)) H'') ∧ ∀ σ' H', Pv dt.length σ' H' → tz D σ' H') :
    tSeq (tFor (iEnumT K (tCons ti tNil)) (gTup K 2 (gCons (gName i) (gCons (gName j) gNil))) tb) tz D σ H := h.go s fun v G1 H1 r hd => by
  obtain ⟨a, xs, rfl, ea, hs⟩ := hd.tup_
  obtain ⟨Pv, h0, hl, ht, hz⟩ := k G1 H1 r
  refine ⟨a, xs, rfl, SqT.of (r.s _ _ ea), for_it (walk_enumT (K := K) (a := a) (xs := xs)) Pv h0 (fun n σ' H' _ p => SqT.of (hl n σ' H' p _ _ ea)) ?_ (fun σ' H' p => hz σ' H' (by rw [← hs.len]; exact p))⟩
  rintro n x σ' H' H'' hn p ⟨T0, u1, u2, rfl, hT, rfl, e1, e2⟩
  obtain rfl : V.int (n : Nat) = u1 := Option.some.inj e1
  have e2 : xs[n]? = some u2 := e2
  obtain ⟨t, eti, hdt⟩ := hs.at e2
  exact ⟨T0, _, rfl, SqT.of upd_same, rfl, _, _, rfl, _, _, rfl, rfl, ht n t u2 σ' H' _ eti hdt p (Ex.new hT)⟩
/-- f'{a}.{i}' -/
theorem ev_fmtI {ta ti : TE} {a : Str} {m : Int} {c : Str} (ha : Ev ta σ G (.str a)) (hi : Ev ti σ G (.int m)) (hm : m.natAbs.log2 < 1920) (h1 : a.length ≤ 1000) (hc : c.length ≤ 1000) (h2 : (Str.ofString (toString m)).length ≤ 1000) : Ev (fun σ H Q => tJs [tFmt ta, tC (.str c), tFmt ti] Str.empty σ H fun out H1 => Q (.str out) H1) σ G (.str (((Str.empty ++ a) ++ c) ++ Str.ofString (toString m))) := fun H1 x Q q => ha H1 x _ fun H2 x2 => by
  have big : (4000 : Nat) ≤ sizeLine := by decide
  have e0 : Str.empty.length = 0 := rfl
  have e1 : (Str.empty ++ a).length = Str.empty.length + a.length := strLen_append _ _
  have e2 : ((Str.empty ++ a) ++ c).length = (Str.empty ++ a).length + c.length := strLen_append _ _
  have e3 : (((Str.empty ++ a) ++ c) ++ Str.ofString (toString m)).length = ((Str.empty ++ a) ++ c).length + (Str.ofString (toString m)).length := strLen_append _ _
  refine .inl ⟨a, rfl, by omega, a, rfl, by omega, c, rfl, by omega, hi H2 (x.trans x2) _ fun H3 x3 => .inr ⟨m, rfl, hm, _, rfl, ?_, q H3 (x2.trans x3)⟩⟩
  show (((Str.empty ++ a) ++ c) ++ Str.ofString (toString m)).length ≤ sizeLine
  omega
/-- f'{a}.0' -/
theorem ev_fmtC {ta : TE} {a : Str} {c : Str} (ha : Ev ta σ G (.str a)) (h1 : a.length ≤ 1000) (hc : c.length ≤ 1000) : Ev (fun σ H Q => tJs [tFmt ta, tC (.str c)] Str.empty σ H fun out H1 => Q (.str out) H1) σ G (.str ((Str.empty ++ a) ++ c)) := fun H1 x Q q => ha H1 x _ fun H2 x2 => by
  have big : (4000 : Nat) ≤ sizeLine := by decide
  have e0 : Str.empty.length = 0 := rfl
  have e1 : (Str.empty ++ a).length = Str.empty.length + a.length := strLen_append _ _
  have e2 : ((Str.empty ++ a) ++ c).length = (Str.empty ++ a).length + c.length := strLen_append _ _
  exact .inl ⟨a, rfl, by omega, a, rfl, by omega, c, rfl, by omega, q H2 x2⟩
end
end Lf
set_option maxHeartbeats 4000000
/-! a loop as the last statement of a def or of a loop; a range over a list or tuple of data with objects still written -/
namespace Lf
open PySem L2 Evl
section
variable {K : PySem.W.Frag} {σ : L2.St} {G H : Hp} {tl : TE} {g : TG} {tb : TS} {D : Ends} {ds : List PyData} {i j : Nat}
theorem s_forT (s : Ex G H) (h : EvD tl σ G (.tuple ds)) (k : ∀ G1 H1, Gr G H G1 H1 → LoopOk g tb (fun D => D.nx) D σ ds G1 H1) : tFor (iTup K tl) g tb D σ H := Lf.q_forT (tz := fun D => D.nx) s h k
theorem s_forL (s : Ex G H) (h : EvD tl σ G (.list ds)) (k : ∀ G1 H1, Gr G H G1 H1 → LoopOk g tb (fun D => D.nx) D σ ds G1 H1) : tFor (iList K tl) g tb D σ H := Lf.q_forL (tz := fun D => D.nx) s h k
theorem g1_at {v : V} {Q : L2.St → Hp → Prop} (q : Q (σ.set i (some v)) H) : gName i v σ H Q := q
theorem s_ifD {t : TT} {tu tw : TS} {b : Bool} (s : Ex G H) (h : EvT t σ G b) (h1 : b = true → ∀ H1, Ex H H1 → tu D σ H1) (h2 : b = false → ∀ H1, Ex H H1 → tw D σ H1) : tIfS t tu tw D σ H := h H s _ fun H1 x => by
  cases b with
  | true => exact h1 rfl H1 x
  | false => exact h2 rfl H1 x
/-- a test over the heap itself, with what is still written -/
theorem s_ifH {t : TT} {tu tw : TS} {b : Bool} (h : EvT t σ H b) (h1 : b = true → ∀ H1, Ex H H1 → tu D σ H1) (h2 : b = false → ∀ H1, Ex H H1 → tw D σ H1) : tIfS t tu tw D σ H := h H (Ex.refl _) _ fun H1 x => by
  cases b with
  | true => exact h1 rfl H1 x
  | false => exact h2 rfl H1 x
theorem q_ifH {t : TT} {tu tw tz : TS} {b : Bool} (h : EvT t σ H b) (h1 : b = true → ∀ H1, Ex H H1 → tu { D with nx := tz D } σ H1) (h2 : b = false → ∀ H1, Ex H H1 → tw { D with nx := tz D } σ H1) : tSeq (tIfS t tu tw) tz D σ H := s_ifH (D := { D with nx := tz D }) h h1 h2
theorem walk_enumLs {a : Addr} {xs : List V} : Walk (Ite K a) xs.length (fun H => SqL K H a xs) (YPair (fun i => some (.int (i : Nat))) (fun i => xs[i]?)) := by
  refine ⟨fun i _ hi q => ⟨xs, xs[i], q, by simp [hi]⟩, fun _ q => ⟨xs, q, Nat.le_refl _⟩, fun i H v H' _ q y => ?_⟩
  obtain ⟨T, x, h1, h2, h3, h4⟩ := y
  exact ⟨T, .int (i : Nat), x, h1, h2, h3, rfl, h4 xs q⟩
/-- for i, x in enumerate(l), l a list of data -/
theorem q_forEL {ti : TE} {dt : List PyData} {tb tz : TS} (s : Ex G H) (h : EvD ti σ G (.list dt)) (k : ∀ G1 H1, Gr G H G1 H1 → ∃ Pv : Nat → L2.St → Hp → Prop, Pv 0 σ H1 ∧ (∀ n σ' H', Pv n σ' H' → Ex G1 H') ∧
    (∀ n e v σ' H' H'', dt[n]? = some e → Da G1 v e → Pv n σ' H' → Ex H' H'' → tb { D with nx := Pv (n + 1), ct := Pv (n + 1), bk := tz D } ((σ'.set i (some (.int (n : Nat)))).set j (some v)) H'') ∧ ∀ σ' H', Pv dt.length σ' H' → tz D σ' H') :
    tSeq (tFor (iEnum K (tCons ti tNil)) (gTup K 2 (gCons (gName i) (gCons (gName j) gNil))) tb) tz D σ H := h.go s fun v G1 H1 r hd => by
  obtain ⟨a, xs, rfl, ea, hs⟩ := hd.lst_
  obtain ⟨Pv, h0, hl, ht, hz⟩ := k G1 H1 r
  refine ⟨a, xs, rfl, SqL.of (r.s _ _ ea), for_it (walk_enumLs (K := K) (a := a) (xs := xs)) Pv h0 (fun n σ' H' _ p => SqL.of (hl n σ' H' p _ _ ea)) ?_ (fun σ' H' p => hz σ' H' (by rw [← hs.len]; exact p))⟩
  rintro n x σ' H' H'' hn p ⟨T0, u1, u2, rfl, hT, rfl, e1, e2⟩
  obtain rfl : V.int (n : Nat) = u1 := Option.some.inj e1
  have e2 : xs[n]? = some u2 := e2
  obtain ⟨t, eti, hdt⟩ := hs.at e2
  exact ⟨T0, _, rfl, SqT.of upd_same, rfl, _, _, rfl, _, _, rfl, rfl, ht n t u2 σ' H' _ eti hdt p (Ex.new hT)⟩
theorem s_forEL {ti : TE} {dt : List PyData} {tb : TS} (s : Ex G H) (h : EvD ti σ G (.list dt)) (k : ∀ G1 H1, Gr G H G1 H1 → ∃ Pv : Nat → L2.St → Hp → Prop, Pv 0 σ H1 ∧ (∀ n σ' H', Pv n σ' H' → Ex G1 H') ∧
    (∀ n e v σ' H' H'', dt[n]? = some e → Da G1 v e → Pv n σ' H' → Ex H' H'' → tb { D with nx := Pv (n + 1), ct := Pv (n + 1), bk := D.nx } ((σ'.set i (some (.int (n : Nat)))).set j (some v)) H'') ∧ ∀ σ' H', Pv dt.length σ' H' → D.nx σ' H') :
    tFor (iEnum K (tCons ti tNil)) (gTup K 2 (gCons (gName i) (gCons (gName j) gNil))) tb D σ H := q_forEL (tz := fun D => D.nx) s h k
theorem s_forET {ti : TE} {dt : List PyData} {tb : TS} (s : Ex G H) (h : EvD ti σ G (.tuple dt)) (k : ∀ G1 H1, Gr G H G1 H1 → ∃ Pv : Nat → L2.St → Hp → Prop, Pv 0 σ H1 ∧ (∀ n σ' H', Pv n σ' H' → Ex G1 H') ∧
    (∀ n e v σ' H' H'', dt[n]? = some e → Da G1 v e → Pv n σ' H' → Ex H' H'' → tb { D with nx := Pv (n + 1), ct := Pv (n + 1), bk := D.nx } ((σ'.set i (some (.int (n : Nat)))).set j (some v)) H'') ∧ ∀ σ' H', Pv dt.length σ' H' → D.nx σ' H') :
    tFor (iEnumT K (tCons ti tNil)) (gTup K 2 (gCons (gName i) (gCons (gName j) gNil))) tb D σ H := q_forET (tz := fun D => D.nx) s h k
end
end Lf
set_option maxHeartbeats 1000000
namespace My
open PySem L2 Lf Evl Tr
abbrev s_require_integer : Stmt := top 26
theorem sc_require_integer : FnScope ["value"] ["value"] (defScope s_require_integer) := ⟨rfl, rfl, rfl, by decide +kernel, rfl, by decide +kernel, by decide +kernel⟩
abbrev s_require_within : Stmt := top 27
theorem sc_require_within : FnScope ["value", "low", "high"] ["value", "low", "high"] (defScope s_require_within) := ⟨rfl, rfl, rfl, by decide +kernel, rfl, by decide +kernel, by decide +kernel⟩
abbrev s_require_interval : Stmt := top 28
theorem sc_require_interval : FnScope ["value"] ["value"] (defScope s_require_interval) := ⟨rfl, rfl, rfl, by decide +kernel, rfl, by decide +kernel, by decide +kernel⟩
abbrev s_slot_in : Stmt := top 29
theorem sc_slot_in : FnScope ["tick", "interval"] ["tick", "interval"] (defScope s_slot_in) := ⟨rfl, rfl, rfl, by decide +kernel, rfl, by decide +kernel, by decide +kernel⟩
abbrev s_rounded_in : Stmt := top 30
theorem sc_rounded_in : FnScope ["number", "slot", "interval"] ["number", "slot", "interval"] (defScope s_rounded_in) := ⟨rfl, rfl, rfl, by decide +kernel, rfl, by decide +kernel, by decide +kernel⟩
abbrev s_slot_of : Stmt := top 31
theorem sc_slot_of : FnScope ["tick", "interval"] ["tick", "interval"] (defScope s_slot_of) := ⟨rfl, rfl, rfl, by decide +kernel, rfl, by decide +kernel, by decide +kernel⟩
abbrev s_rounded_up : Stmt := top 32
theorem sc_rounded_up : FnScope ["number", "slot", "interval"] ["number", "slot", "interval"] (defScope s_rounded_up) := ⟨rfl, rfl, rfl, by decide +kernel, rfl, by decide +kernel, by decide +kernel⟩
/-- the error InvalidNumber with the value d -/
def Er (CN : Addr) (G H : Hp) (d : PyData) (E : XK) : Prop := ∀ (x : Addr) (v : V) (G' H' : Hp), Gr G H G' H' → Da G' v d → H' x = some (.xd [("value", v)]) → E (.ref CN) (some x) H'
theorem Er.up {CN : Addr} {G H G1 H1 : Hp} {d : PyData} {E : XK} (e : Er CN G H d E) (r : Gr G H G1 H1) : Er CN G1 H1 d E := fun x v G' H' r' h1 h2 => e x v G' H' (r.trans r') h1 h2
def spRqI (CN : Addr) : Sp := fun vs H Q E => ∃ G v d, vs = [v] ∧ Ex G H ∧ Da G v d ∧ (isIn d = true → ∀ H', Ex H H' → Q .non H') ∧ (isIn d = false → Er CN G H d E)
def spRqW (CN : Addr) : Sp := fun vs H Q E => ∃ G v d a b, vs = [v, .int a, .int b] ∧ Ex G H ∧ Da G v d ∧ (within a b d = true → ∀ H', Ex H H' → Q .non H') ∧ (within a b d = false → Er CN G H d E)
def spRqV (CN : Addr) : Sp := fun vs H Q E => ∃ G v d, vs = [v] ∧ Ex G H ∧ Da G v d ∧ (within 1 32 d = true → ∀ H', Ex H H' → Q .non H') ∧ (within 1 32 d = false → Er CN G H d E)
def spSin : Sp := fun vs H Q _ => ∃ a b : Int, vs = [.int a, .int b] ∧ 0 < b ∧ ∀ H', Ex H H' → Q (.int (a % b)) H'
def spRin : Sp := fun vs H Q _ => ∃ a b c : Int, vs = [.int a, .int b, .int c] ∧ 0 < c ∧ ∀ H', Ex H H' → Q (.int (a + (b - a) % c)) H'
def spSo (CN : Addr) : Sp := fun vs H Q E => ∃ G v1 v2 d1 d2, vs = [v1, v2] ∧ Ex G H ∧ Da G v1 d1 ∧ Da G v2 d2 ∧ (isIn d1 = true → within 1 32 d2 = true → ∀ a b : Int, d1 = .int a → d2 = .int b → ∀ H', Ex H H' → Q (.int (a % b)) H') ∧
  (isIn d1 = false → Er CN G H d1 E) ∧ (isIn d1 = true → within 1 32 d2 = false → Er CN G H d2 E)
def spRo (CN : Addr) : Sp := fun vs H Q E => ∃ G v1 v2 v3 d1 d2 d3, vs = [v1, v2, v3] ∧ Ex G H ∧ Da G v1 d1 ∧ Da G v2 d2 ∧ Da G v3 d3 ∧ (isIn d1 = true → isIn d2 = true → within 1 32 d3 = true → ∀ a b c : Int, d1 = .int a → d2 = .int b → d3 = .int c → ∀ H', Ex H H' → Q (.int (a + (b - a) % c)) H') ∧
  (isIn d1 = false → Er CN G H d1 E) ∧ (isIn d1 = true → isIn d2 = false → Er CN G H d2 E) ∧ (isIn d1 = true → isIn d2 = true → within 1 32 d3 = false → Er CN G H d3 E)
theorem ev_callW {σ : L2.St} {G : Hp} {ta tb tc : TE} {d : PyData} {a b : Int} {E : XK} (h : EvD ta σ G d) (ha : Ev tb σ G (.int a)) (hb : Ev tc σ G (.int b)) : Ev (tCallD spW E (tCons ta (tCons tb (tCons tc tNil)))) σ G (.bl (within a b d)) :=
  EvD.bl_ (evd_call (evd_cons h (evd_cons (evd_int ha) (evd_cons (evd_int hb) evd_nil))) rfl)
theorem within_pos {a b : Int} {d : PyData} (h : within a b d = true) : ∃ i : Int, d = .int i ∧ a ≤ i ∧ i ≤ b := by
  cases d with
  | int i =>
    simp only [within, Bool.and_eq_true, decide_eq_true_eq] at h
    exact ⟨i, rfl, h.2.1, h.2.2⟩
  | _ => cases h
section
variable {P : Program} {w : World} {K : PySem.W.Frag} {mg : Str → Option Value} {base : Heap} {CN fI : Addr}
variable {σ : L2.St} {G H : Hp} {te ta tb tc : TE} {tz : TS} {D : Ends} {d : PyData} {E : XK}
theorem ok_require_integer (T : Txt P K mg CN fI) (D : Df K mg "require_integer" s_require_integer) (D_is_integer : DefOk P w K mg base CX0 2 "is_integer" ["value"] (spB isIn)) : DefOk P w K mg base (L2.CX P w) 3 "require_integer" ["value"] (spRqI CN) := by
  refine D.okX sc_require_integer (fun _ _ _ _ _ _ us hl => match us, hl with | [_], _ => rfl) (fun vs H Q E h => ?_) (fun f cdv A outer s H vs Q E hr h => ?_)
  · obtain ⟨_, _, _, rfl, _⟩ := h
    rfl
  obtain ⟨G, v, d, rfl, s, hd, k1, k2⟩ := h
  refine ⟨_, (pss_one (ps_if (pt_not (pt_val (pe_callD D_is_integer (hr.mono (by decide)) pass0 (pa_cons (pv 0) pa_nil))))
 (pss_one (ps_raise rfl (takes_of rfl rfl rfl rfl) (pmk_x T.num PySem.F.excBase_RuntimeError PySem.W.kxs_RuntimeError hr (pa_cons (pv 0) pa_nil))))
 pss_nil)), ?_⟩
  refine s_ifD s (et_not (et_B (ev_callB (evd_var rfl hd)))) (fun c H1 x1 => ?_) (fun c H1 x1 => k1 (by simpa using c) _ x1)
  exact ⟨_, rfl, _, rfl, fun dd hn => k2 (by simpa using c) dd v G _ (Gr.keep s (x1.trans (Ex.new hn))) hd upd_same⟩
theorem ok_require_within (T : Txt P K mg CN fI) (D : Df K mg "require_within" s_require_within) (D_is_within : DefOk P w K mg base CX0 3 "is_within" ["value", "low", "high"] spW) : DefOk P w K mg base (L2.CX P w) 4 "require_within" ["value", "low", "high"] (spRqW CN) := by
  refine D.okX sc_require_within (fun _ _ _ _ _ _ us hl => match us, hl with | [_, _, _], _ => rfl) (fun vs H Q E h => ?_) (fun f cdv A outer s H vs Q E hr h => ?_)
  · obtain ⟨_, _, _, _, _, rfl, _⟩ := h
    rfl
  obtain ⟨G, v, d, a, b, rfl, s, hd, k1, k2⟩ := h
  refine ⟨_, (pss_one (ps_if (pt_not (pt_val (pe_callD D_is_within (hr.mono (by decide)) pass0 (pa_cons (pv 0) (pa_cons (pv 1) (pa_cons (pv 2) pa_nil))))))
 (pss_one (ps_raise rfl (takes_of rfl rfl rfl rfl) (pmk_x T.num PySem.F.excBase_RuntimeError PySem.W.kxs_RuntimeError hr (pa_cons (pv 0) pa_nil))))
 pss_nil)), ?_⟩
  refine s_ifD s (et_not (et_B (ev_callW (evd_var rfl hd) (ev_var rfl) (ev_var rfl)))) (fun c H1 x1 => ?_) (fun c H1 x1 => k1 (by simpa using c) _ x1)
  exact ⟨_, rfl, _, rfl, fun dd hn => k2 (by simpa using c) dd v G _ (Gr.keep s (x1.trans (Ex.new hn))) hd upd_same⟩
theorem ok_require_interval (T : Txt P K mg CN fI) (D : Df K mg "require_interval" s_require_interval) (D_require_within : DefOk P w K mg base (L2.CX P w) 4 "require_within" ["value", "low", "high"] (spRqW CN)) : DefOk P w K mg base (L2.CX P w) 5 "require_interval" ["value"] (spRqV CN) := by
  refine D.okX sc_require_interval (fun _ _ _ _ _ _ us hl => match us, hl with | [_], _ => rfl) (fun vs H Q E h => ?_) (fun f cdv A outer s H vs Q E hr h => ?_)
  · obtain ⟨_, _, _, rfl, _⟩ := h
    rfl
  obtain ⟨G, v, d, rfl, s, hd, k1, k2⟩ := h
  refine ⟨_, (pss_one (ps_expr (pe_callD D_require_within (hr.mono (by decide)) (passes_call (takes_of rfl rfl rfl rfl) (fun _ _ _ _ h => h)) (pa_cons (pv 0) (pa_cons pe_int (pa_cons (pe_gInt (by rfl) T.g_MAX_INTERVAL) pa_nil)))))), ?_⟩
  exact ⟨_, rfl, G, v, d, 1, 32, rfl, s, hd, fun ok H' x => k1 ok H' x, fun no => k2 no⟩
theorem q_rqI (s : Ex G H) (h : EvD te σ G d) (k1 : isIn d = true → ∀ G1 H1, Gr G H G1 H1 → tz D σ H1) (k2 : isIn d = false → Er CN G H d E) : tSeq (tDrop (tCallD (spRqI CN) E (tCons te tNil))) tz D σ H := h.go s fun v G1 H1 r hd =>
  ⟨G1, v, d, rfl, r.s, hd, fun ok H' x => k1 ok G1 H' (r.trans (Gr.keep r.s x)), fun no => (k2 no).up r⟩
theorem q_rqV (s : Ex G H) (h : EvD te σ G d) (k1 : within 1 32 d = true → ∀ G1 H1, Gr G H G1 H1 → tz D σ H1) (k2 : within 1 32 d = false → Er CN G H d E) : tSeq (tDrop (tCallD (spRqV CN) E (tCons te tNil))) tz D σ H := h.go s fun v G1 H1 r hd =>
  ⟨G1, v, d, rfl, r.s, hd, fun ok H' x => k1 ok G1 H' (r.trans (Gr.keep r.s x)), fun no => (k2 no).up r⟩
theorem ok_slot_in (T : Txt P K mg CN fI) (D : Df K mg "slot_in" s_slot_in) : DefOk P w K mg base CX0 1 "slot_in" ["tick", "interval"] spSin := by
  refine D.ok sc_slot_in (fun _ _ _ _ _ _ us hl => match us, hl with | [_, _], _ => rfl) (fun vs H Q E h => ?_) (fun f cdv A outer s H vs Q E hr h => ?_)
  · obtain ⟨_, _, rfl, _⟩ := h
    rfl
  obtain ⟨a, b, rfl, hb, k⟩ := h
  refine ⟨_, (pss_one (ps_ret (pe_op op_mod (pv 0) (pv 1)))), ?_⟩
  exact Ev.ret (G := fun _ => none) (fun a o z => by cases z) (ev_op (ev_var rfl) (ev_var rfl) (rv_I (C := fun _ j => 0 < j) hb)) fun H1 x => k H1 x
theorem ok_rounded_in (T : Txt P K mg CN fI) (D : Df K mg "rounded_in" s_rounded_in) : DefOk P w K mg base CX0 1 "rounded_in" ["number", "slot", "interval"] spRin := by
  refine D.ok sc_rounded_in (fun _ _ _ _ _ _ us hl => match us, hl with | [_, _, _], _ => rfl) (fun vs H Q E h => ?_) (fun f cdv A outer s H vs Q E hr h => ?_)
  · obtain ⟨_, _, _, rfl, _⟩ := h
    rfl
  obtain ⟨a, b, c, rfl, hc, k⟩ := h
  refine ⟨_, (pss_one (ps_ret (pe_op op_add (pv 0) (pe_op op_mod (pe_op op_sub (pv 1) (pv 0)) (pv 2))))), ?_⟩
  exact Ev.ret (G := fun _ => none) (fun a o z => by cases z) (ev_op (ev_var rfl) (ev_op (ev_op (ev_var rfl) (ev_var rfl) rv_I0) (ev_var rfl) (rv_I (C := fun _ j => 0 < j) hc)) rv_I0) fun H1 x => k H1 x
theorem ok_slot_of (T : Txt P K mg CN fI) (D : Df K mg "slot_of" s_slot_of) (D_require_integer : DefOk P w K mg base (L2.CX P w) 3 "require_integer" ["value"] (spRqI CN)) (D_require_interval : DefOk P w K mg base (L2.CX P w) 5 "require_interval" ["value"] (spRqV CN)) (D_slot_in : DefOk P w K mg base CX0 1 "slot_in" ["tick", "interval"] spSin) : DefOk P w K mg base (L2.CX P w) 6 "slot_of" ["tick", "interval"] (spSo CN) := by
  refine D.okX sc_slot_of (fun _ _ _ _ _ _ us hl => match us, hl with | [_, _], _ => rfl) (fun vs H Q E h => ?_) (fun f cdv A outer s H vs Q E hr h => ?_)
  · obtain ⟨_, _, _, _, _, rfl, _⟩ := h
    rfl
  obtain ⟨G, v1, v2, d1, d2, rfl, s, h1, h2, k, e1, e2⟩ := h
  refine ⟨_, (pss_cons (ps_expr (pe_callD D_require_integer (hr.mono (by decide)) (passes_call (takes_of rfl rfl rfl rfl) (fun _ _ _ _ h => h)) (pa_cons (pv 0) pa_nil)))
 (pss_cons (ps_expr (pe_callD D_require_interval (hr.mono (by decide)) (passes_call (takes_of rfl rfl rfl rfl) (fun _ _ _ _ h => h)) (pa_cons (pv 1) pa_nil)))
 (pss_one (ps_ret (pe_callD D_slot_in (hr.mono (by decide)) pass0 (pa_cons (pv 0) (pa_cons (pv 1) pa_nil))))))), ?_⟩
  refine q_rqI s (evd_var rfl h1) (fun ok1 G1 H1 r1 => ?_) e1
  refine q_rqV r1.s (evd_var rfl (h2.up r1.g)) (fun ok2 G2 H2 r2 => ?_) fun no => (e2 ok1 no).up r1
  obtain ⟨a, rfl⟩ := isIn_int ok1
  obtain ⟨b, rfl, b1, _⟩ := within_pos ok2
  cases h1.int_
  cases h2.int_
  exact ⟨_, rfl, _, rfl, a, b, rfl, by omega, fun H' x => k ok1 ok2 a b rfl rfl H' ((r1.h.trans r2.h).trans x)⟩
theorem ok_rounded_up (T : Txt P K mg CN fI) (D : Df K mg "rounded_up" s_rounded_up) (D_require_integer : DefOk P w K mg base (L2.CX P w) 3 "require_integer" ["value"] (spRqI CN)) (D_require_interval : DefOk P w K mg base (L2.CX P w) 5 "require_interval" ["value"] (spRqV CN)) (D_rounded_in : DefOk P w K mg base CX0 1 "rounded_in" ["number", "slot", "interval"] spRin) : DefOk P w K mg base (L2.CX P w) 6 "rounded_up" ["number", "slot", "interval"] (spRo CN) := by
  refine D.okX sc_rounded_up (fun _ _ _ _ _ _ us hl => match us, hl with | [_, _, _], _ => rfl) (fun vs H Q E h => ?_) (fun f cdv A outer s H vs Q E hr h => ?_)
  · obtain ⟨_, _, _, _, _, _, _, rfl, _⟩ := h
    rfl
  obtain ⟨G, v1, v2, v3, d1, d2, d3, rfl, s, h1, h2, h3, k, e1, e2, e3⟩ := h
  refine ⟨_, (pss_cons (ps_expr (pe_callD D_require_integer (hr.mono (by decide)) (passes_call (takes_of rfl rfl rfl rfl) (fun _ _ _ _ h => h)) (pa_cons (pv 0) pa_nil)))
 (pss_cons (ps_expr (pe_callD D_require_integer (hr.mono (by decide)) (passes_call (takes_of rfl rfl rfl rfl) (fun _ _ _ _ h => h)) (pa_cons (pv 1) pa_nil)))
 (pss_cons (ps_expr (pe_callD D_require_interval (hr.mono (by decide)) (passes_call (takes_of rfl rfl rfl rfl) (fun _ _ _ _ h => h)) (pa_cons (pv 2) pa_nil)))
 (pss_one (ps_ret (pe_callD D_rounded_in (hr.mono (by decide)) pass0 (pa_cons (pv 0) (pa_cons (pv 1) (pa_cons (pv 2) pa_nil))))))))), ?_⟩
  refine q_rqI s (evd_var rfl h1) (fun ok1 G1 H1 r1 => ?_) e1
  refine q_rqI r1.s (evd_var rfl (h2.up r1.g)) (fun ok2 G2 H2 r2 => ?_) fun no => (e2 ok1 no).up r1
  refine q_rqV r2.s (evd_var rfl (h3.up (r1.g.trans r2.g))) (fun ok3 G3 H3 r3 => ?_) fun no => (e3 ok1 ok2 no).up (r1.trans r2)
  obtain ⟨a, rfl⟩ := isIn_int ok1
  obtain ⟨b, rfl⟩ := isIn_int ok2
  obtain ⟨c, rfl, c1, _⟩ := within_pos ok3
  cases h1.int_
  cases h2.int_
  cases h3.int_
  exact ⟨_, rfl, _, rfl, _, rfl, a, b, c, rfl, by omega, fun H' x => k ok1 ok2 ok3 a b c rfl rfl rfl H' (((r1.h.trans r2.h).trans r3.h).trans x)⟩
/-! ### readings -/
theorem ev_callSo (h1 : EvD ta σ G (.int a)) (h2 : EvD tb σ G (.int b)) (i1 : isIn (.int a) = true) (i2 : within 1 32 (.int b) = true) : Ev (tCallD (spSo CN) E (tCons ta (tCons tb tNil))) σ G (.int (a % b)) := fun H1 x Q q => h1 G H1 (Ex.refl _) x _ fun v1 G2 H2 r2 hd1 => h2 G2 H2 r2.g r2.s _ fun v2 G3 H3 r3 hd2 =>
  ⟨G3, v1, v2, _, _, rfl, r3.s, hd1.up r3.g, hd2, fun _ _ a b e1 e2 H' x' => (by cases e1; cases e2; exact q H' ((r2.h.trans r3.h).trans x')), fun no => (by rw [i1] at no; cases no), fun _ no => (by rw [i2] at no; cases no)⟩
theorem ev_callRo (h1 : EvD ta σ G (.int a)) (h2 : EvD tb σ G (.int b)) (h3 : EvD tc σ G (.int c)) (i1 : isIn (.int a) = true) (i2 : isIn (.int b) = true) (i3 : within 1 32 (.int c) = true) : Ev (tCallD (spRo CN) E (tCons ta (tCons tb (tCons tc tNil)))) σ G (.int (a + (b - a) % c)) := fun H1 x Q q => h1 G H1 (Ex.refl _) x _ fun v1 G2 H2 r2 hd1 => h2 G2 H2 r2.g r2.s _ fun v2 G3 H3 r3 hd2 => h3 G3 H3 (r2.g.trans r3.g) r3.s _ fun v3 G4 H4 r4 hd3 =>
  ⟨G4, v1, v2, v3, _, _, _, rfl, r4.s, (hd1.up r3.g).up r4.g, hd2.up r4.g, hd3, fun _ _ _ a b c e1 e2 e3 H' x' => (by cases e1; cases e2; cases e3; exact q H' (((r2.h.trans r3.h).trans r4.h).trans x')), fun no => (by rw [i1] at no; cases no), fun _ no => (by rw [i2] at no; cases no), fun _ _ no => (by rw [i3] at no; cases no)⟩
end
end My
set_option maxHeartbeats 4000000
/-! An own error over KeyError, which is made by LookupError's __new__: __init__(self, f): super().__init__(f); self.f = f. Turned from LfExc and the library's rules for own errors. -/
namespace PySem
namespace LfXK
open PySem.W PySem.Calls PyProof.Rows PySem.HandSPX PySem.LfX
open Builtin Builtin.ObjectAttr
structure HdB (B : String) (bm : List Value) : Prop where
  hasB : bm.contains (.type B) = true
  noA : bm.contains (.type "AttributeError") = false
  noN : bm.contains (.type "NameError") = false
structure InitK (cls i : String) : Prop where
  plain : plainId i = true
  entry : entryFor table i = some Builtin.«BaseException.__init__»
  kind : builtinKind i = some .slot
  row : Manifest.signature? i = some ⟨.positional, "*", cls, .self, [⟨"args", .varPos, false⟩]⟩
  noStar : (cls != "*") = true
theorem init_KeyError : InitK "KeyError" "KeyError.__init__" where
  plain := by decide +kernel
  entry := entryFor_alias (id' := "BaseException.__init__") (by rw [fastTable_eq_tree]; kernel_rfl) (by first | rfl | decide +kernel) (by decide +kernel) (by rw [fastTable_eq_tree]; kernel_rfl)
  kind := by kernel_rfl
  row := by kernel_rfl
  noStar := by decide +kernel
abbrev keyMro : List Value := [.type "KeyError", .type "LookupError", .type "Exception", .type "BaseException", .type "object"]
theorem kxs_KeyError : PySem.W.KxsFacts "KeyError" "KeyError.__init__" := ⟨by show builtinType _ = _; rw [builtinType_eq_fast]; kernel_rfl, by first | kernel_rfl | rfl⟩
theorem pass_KeyError (self : Value) : refuseLoop self "__setattr__" keyMro = pure () := by kernel_rfl
theorem hd_KeyError : HdB "LookupError" keyMro := ⟨by decide +kernel, by decide +kernel, by decide +kernel⟩
section
variable {M : Model} {A : Around} {E : Value → Shared → Prop} {h : Heap} {g : Array GenState} {d : Drawn} {t : Nat} {os : OsState}
variable {nm q : Str} {C N : Addr} {bs bm bmB : List Value} {hdct : Bool} {sn : List Str} {sub : List Value} {ab : Bool} {col : Option Bool} {dd : Option Addr} {k0 k1 k2 k3 k5 : Option Value} {B newId initId : String}
theorem check_new_own (F : ExcBaseFacts B newId initId bmB) (hT : HdB B bm) {rest : List Value} {Q : Unit → Shared → Prop}
    (hC : h.get? C = some (excClassObj nm q C N bs bm hdct sn sub ab col dd k0 k1 k2 k3 k5 newId)) (hq : Q () ⟨h, g, d, t, os⟩) : wpAny M A (checkBuiltinCall newId ⟨.ref C :: rest, []⟩) Q E ⟨h, g, d, t, os⟩ := by
  have hcont : (Value.ref C :: bm).contains (.type B) = true := by rw [List.contains_cons, hT.hasB, Bool.or_true]
  have hstar := F.noStar
  simp only [checkBuiltinCall, F.newKind, F.newSplit, F.newRow]
  repeat (first | refine wpAny_loadPart_at hC ?_ | (refine wpAny_isSubtype_exc hC ?_; rw [hcont]) | refine wpAny_staticBase_exc hC ?_ | refine wpAny_madeBy_exc hC ?_ | simp only [bne_self_eq_false, Bool.false_eq_true, if_false] | wp_step)
  exact hq
theorem check_bound_k {cls initId : String} (F : InitK cls initId) {e : Addr} {oe : Obj} {rest : List Value} {Q : Unit → Shared → Prop}
    (hC : h.get? C = some (excClassObj nm q C N bs bm hdct sn sub ab col dd k0 k1 k2 k3 k5 newId)) (he : h.get? e = some oe) (hcls : oe.cls = .ref C) (hq : Q () ⟨h, g, d, t, os⟩) : wpAny M A (checkBoundCall initId ⟨.ref e :: rest, []⟩) Q E ⟨h, g, d, t, os⟩ := by
  have hshort := F.noStar
  simp only [checkBoundCall, F.kind, F.row]
  repeat (first | (with_reducible refine wpAny_loadPart_at he ?_; rw [hcls]) | with_reducible refine wpAny_loadPart_at hC ?_ | wp_step)
  refine wpAny_onRaise ?_
  rw [show ∀ (a b : String) (n : Nat), Bind.check ⟨.positional, "*", cls, .self, [⟨"args", .varPos, false⟩]⟩ a b n (List.map (fun x => x.fst) ({ pos := Value.ref e :: rest } : Args).kw) = pure () from
    fun a b n => check_star_args _ _ _ _ _ _]
  exact wpAny_pure hq
end
section
variable {prog : Program} {w : World} {A : Around} {E : Value → Shared → Prop} {R : Result → Shared → Prop} {h : Heap} {g : Array GenState} {d : Drawn} {t : Nat} {os : OsState}
variable {nm q : Str} {C N : Addr} {bs bm bmB : List Value} {hdct : Bool} {sn : List Str} {sub : List Value} {ab : Bool} {col : Option Bool} {dd : Option Addr} {k0 k1 k2 k3 k5 : Option Value} {B newId initId : String}
theorem new_own (F : ExcBaseFacts B newId initId bmB) (hT : HdB B bm) {rest : List Value}
    (hC : h.get? C = some (excClassObj nm q C N bs bm hdct sn sub ab col dd k0 k1 k2 k3 k5 newId))
    (hq : R (.ok (.ret (.ref (h.objs.size + 1)))) ⟨(h.push { cls := .type "tuple", data := .seq rest.toArray }).push
      { cls := .ref C, data := .fields #[.ref h.objs.size, .none, .none, .none, .bool false, .none] }, g, d, t, os⟩) (hrest : rest.length ≤ sizeLine) :
    codeAny (model prog w) A (.builtin newId ⟨.ref C :: rest, []⟩) R ⟨h, g, d, t, os⟩ := by
  have hends := F.ends
  have hcB : (Value.ref C :: bm).contains (.type B) = true := by rw [List.contains_cons, hT.hasB, Bool.or_true]
  have hcA : (Value.ref C :: bm).contains (.type "AttributeError") = false := by rw [List.contains_cons, hT.noA]; rfl
  have hcN : (Value.ref C :: bm).contains (.type "NameError") = false := by rw [List.contains_cons, hT.noN]; rfl
  refine codeAny_builtinAt F.entry ?_
  unfold Builtin.«BaseException.__new__»
  refine wpAt_bind ?_
  show wpAt _ _ _ (stack >>= _) _ _ _
  refine wpAt_bind (wpAt_stack fun p below => wpAt_of_wpAny ?_)
  wp_walk
  refine wpAt_of_wpAny ?_
  rw [F.owner]
  repeat (first | with_reducible refine wpAny_madeHere_exc F.canon hC ?_ | with_reducible refine wpAny_loadPart_at hC ?_ | (with_reducible refine wpAny_isSubtype_exc hC ?_; first | rw [hcB] | rw [hcA] | rw [hcN]) | wp_step)
  show R _ _
  rw [Heap.size_push]
  exact hq

theorem type_call_own (F : ExcBaseFacts B newId initId bmB) (hT : HdB B bm) {rest : List Value} {fI : Addr} {Q : Fin → Shared → Prop}
    (hC : h.get? C = some (excClassObj nm q C N bs bm hdct sn sub ab col dd k0 k1 k2 k3 k5 newId))
    (hi : W.Looks (model prog w) h (typeLookup (.ref C) "__init__") (some (.ref fI))) (hb : ∀ self, W.Looks (model prog w) h (bindSpecial (.ref fI) self) (.ref fI, [self])) (hrest : rest.length ≤ sizeLine)
    (hq : codeAny (model prog w) A (.call (.ref fI) ⟨.ref (h.objs.size + 1) :: rest, []⟩)
      (fun r s' => match r with | .ok (.ret v) => v = .none ∧ Q (.done (.ret (.ref (h.objs.size + 1)))) s' | .ok _ => False | .error e => E e s')
      ⟨(h.push (W.kdv_tup rest)).push (excO C h.objs.size), g, d, t, os⟩) :
    wpAny (model prog w) A (Builtin.«type.__call__» ⟨.ref C :: rest, []⟩) Q E ⟨h, g, d, t, os⟩ := by
  repeat (first | with_reducible refine wpAny_loadPart_at hC ?_ | with_reducible refine wpAny_madeBy_exc hC ?_ | wp_step)
  refine codeAny_call_builtin_code (Code.quiet_builtin _ F.quiet) (check_new_own F hT hC ?_)
  refine new_own F hT hC ?_ hrest
  show wpAny _ _ _ _ _ _
  have k : ∀ b o, h.get? b = some o → ((h.push (W.kdv_tup rest)).push (excO C h.objs.size)).get? b = some o := fun b o e => Heap.get?_push_of_some _ (Heap.get?_push_of_some _ e)
  have hC₁ := k _ _ hC
  have hget : ((h.push (W.kdv_tup rest)).push (excO C h.objs.size)).get? (h.objs.size + 1) = some (excO C h.objs.size) := by heap_get
  have hcC : (Value.ref C :: bm).contains (.ref C) = true := by simp
  have i1 := hi.keeps k
  have b1 := (hb (.ref (h.objs.size + 1))).keeps k
  unfold isInstance
  repeat (first | with_reducible refine wpAny_loadPart_at hget ?_ | (with_reducible refine wpAny_isSubtype_exc hC₁ ?_; rw [hcC]) | wp_step)
  show wpAny _ _ (typeLookup (.ref C) _) _ _ _
  refine i1.at ?_
  refine wpAny_holding (wpAny_bind (b1.at ?_))
  refine wpAny_bind (wpAny_call (codeAny_mono hq fun r s' z => ?_))
  rcases r with e | (v | _ | _ | _) <;> first | exact z | exact z.elim | skip
  obtain ⟨rfl, z⟩ := z
  first
    | exact wpAny_pure (wpAny_pure z)
    | (wp_walk; exact z)

theorem call_own (F : ExcBaseFacts B newId initId bmB) (hT : HdB B bm) {rest : List Value} {fI : Addr}
    (hC : h.get? C = some (excClassObj nm q C N bs bm hdct sn sub ab col dd k0 k1 k2 k3 k5 newId))
    (hi : W.Looks (model prog w) h (typeLookup (.ref C) "__init__") (some (.ref fI))) (hb : ∀ self, W.Looks (model prog w) h (bindSpecial (.ref fI) self) (.ref fI, [self])) (hrest : rest.length ≤ sizeLine)
    (hq : codeAny (model prog w) (A.under (.builtin "type.__call__" ⟨.ref C :: rest, []⟩)) (.call (.ref fI) ⟨.ref (h.objs.size + 1) :: rest, []⟩) (W.InitBack (h.objs.size + 1) R)
      ⟨(h.push (W.kdv_tup rest)).push (excO C h.objs.size), g, d, t, os⟩) :
    codeAny (model prog w) A (.call (.ref C) ⟨rest, []⟩) R ⟨h, g, d, t, os⟩ := by
  have f1 := tc_lookup
  have f2 := tc_bind (.ref C)
  have hTy : (⟨h, g, d, t, os⟩ : Shared).TypeIs (.ref C) "type" := ⟨_, hC, rfl⟩
  refine codeAny_of_tree ?_
  show wpAny _ _ (callAny (.ref C) _) _ _ _
  repeat (any_goals (first | assumption | with_reducible refine wpAny_loadPart_at hC ?_ | wp_step))
  refine ⟨rfl, ?_⟩
  refine codeAny_call_builtin_at (Code.quiet_builtin _ (by decide +kernel)) entry_typeCall (wpAny_check_type_call_sub hC (type_call_own F hT hC hi hb hrest ?_))
  refine codeAny_mono hq fun r s' z => ?_
  rcases r with e | (v | _ | _ | _) <;> exact z
end
def xBK (f : Str) (q1 q2 q3 q4 q5 q6 q7 q8 q9 q10 : Pos) : List Stmt :=
  [.Expr (.Call (.Attribute (.Call (.Name "super" q1) [] [] q2) "__init__" q3) [.Name f q4] [] q5) q6, .Assign [.Attribute (.Name "self" q7) f q8] (.Name f q9) q10]
/-- what the written part says of such a class, at C, and of its __init__, at fI -/
structure XTxtK (prog : Program) (K : Frag) (mg : Str → Option Value) (x f : Str) (B i newB newId : String) (C fI : Addr) : Prop where
  fo : FldOk f
  gC : mg x = some (.ref C)
  cls : ∃ nm q N bs bm sn sub ab col dd k0 k1 k2 k3 k5, K.lookup C = some (excClassObj nm q C N bs bm true sn sub ab col dd k0 k1 k2 k3 k5 newId) ∧ HdB newB bm ∧
    (∀ self : Value, refuseLoop self "__setattr__" bm = pure ()) ∧ alongIn K "__init__" bm = some (some (.builtin i))
  sa : findIn K (.ref C) "__setattr__" = some (some (.builtin "object.__setattr__"))
  noF : findIn K (.ref C) f = some none
  iC : findIn K (.ref C) "__init__" = some (some (.ref fI))
  tC : typeIn K (.ref fI) = some (.type "function")
  kC : keepIn K (.ref C) = true
  exC : subIn K (.ref C) (.type "BaseException") = some true
  sB : subIn K (.ref C) (.type B) = some true
  sD : mroIn K C (.ref C) = some true
  sO : mroIn K C (.type "object") = some true
  tyC : typeIn K (.ref C) = some (.type "type")
  op : nsIn K cStatics "thirdparty.any" = some none
  sup : mg "super" = none
  top : (prog.main.scope.names.lookup ("super" : Str)).isSome = false
  fn : ∃ (oc : Value) (od : Option Addr) (doc pm : Value) (an : Option Addr) (cda : Addr) (ct : Value) (cc : Addr) (osl : Array (Option Value)) (qn : Str) (p1 p2 q1 q2 q3 q4 q5 q6 q7 q8 q9 q10 : Pos)
      (ccl : Value) (cdd : Option Addr) (vs : Array Value) (ccs : Array (Option Value)) (file : Str) (tf : Tok) (cl : Value) (cld : Option Addr) (csl : Array (Option Value)),
    K.lookup fI = some ⟨oc, od, .func (ksFn "__init__" qn (xA f p1 p2) (xBK f q1 q2 q3 q4 q5 q6 q7 q8 q9 q10) (xS f) .none .none doc pm an (.ref cda) ct cc), osl⟩ ∧ codeIn K (.ref cda) qn = true ∧
    K.lookup cda = some ⟨ccl, cdd, .fields vs, ccs⟩ ∧ vs[2]? = some (.str file tf) ∧ ((prog.main.file : Str) == file) = true ∧ K.lookup cc = some ⟨cl, cld, .cell (some (.ref C)), csl⟩ ∧ (q3.endLine == q5.line) = true
section
variable {prog : Program} {w : World} {A : Around} {E : Value → Shared → Prop} {R : Result → Shared → Prop} {hp : Heap} {g : Array GenState} {d : Drawn} {t : Nat} {os : OsState}
/-- the bound built-in __init__ called: the args are laid anew -/
theorem call_mwK {nm q : Str} {C N : Addr} {bs bm : List Value} {hdct : Bool} {sn : List Str} {sub : List Value} {ab : Bool} {col : Option Bool} {dd : Option Addr} {k0 k1 k2 k3 k5 : Option Value} {B newId i : String}
    {u e t0 : Addr} {rest : List Value} {Q : Value → Shared → Prop} (FB : InitK B i)
    (hC : hp.get? C = some (excClassObj nm q C N bs bm hdct sn sub ab col dd k0 k1 k2 k3 k5 newId)) (he : hp.get? e = some (excO C t0)) (hu : hp.get? u = some (kxs_mw i e)) (hrest : rest.length ≤ sizeLine)
    (hq : ∀ h' t1, (∀ b o, b ≠ e → hp.get? b = some o → h'.get? b = some o) → h'.get? e = some (excO C t1) → Q .none ⟨h', g, d, t, os⟩) :
    wpAny (model prog w) A (call (.ref u) rest) Q E ⟨hp, g, d, t, os⟩ := by
  refine wpAny_call (codeAny_of_tree ?_)
  show wpAny _ A.in1 (callAny (.ref u) ⟨rest, []⟩) _ _ _
  simp only [callAny]
  refine wpAny_bind (wpAny_load hu ?_)
  simp only [kxs_mw, show (Value.type "method-wrapper" == Value.type "method" || Value.type "method-wrapper" == Value.type "builtin_function_or_method" || Value.type "method-wrapper" == Value.type "method-wrapper") = true by decide, if_true]
  refine KFB.if_so (by decide) ?_
  refine wpAny_bind (check_bound_k FB hC he rfl ?_)
  refine wpAny_bind (wpAny_pure (wpAny_pure ?_))
  refine ⟨plainId_quiet FB.plain _, codeAny_builtin FB.entry ?_⟩
  exact exc_init_tree (cls := .ref C) (t0 := t0) (dv := none) (c2 := .none) (c3 := .none) (b4 := .bool false) he hrest fun h' k e' t' => hq h' _ k e'
end
section
variable {prog : Program} {w : World} {A : Around} {E : Value → Shared → Prop} {R : Result → Shared → Prop} {s : Shared} {K : Frag} {mg : Str → Option Value} {nx f : Str} {B i newB newId initB : String} {bmB : List Value} {C fI : Addr}
theorem x_initK (T : XTxtK prog K mg nx f B i newB newId C fI) (FN : ExcBaseFacts newB newId initB bmB) (FB : InitK B i) (KF : KxsFacts B i) {x t0 : Addr} {v : Value} (X : K.In s.heap) (G : s.heap.Ns mainGlobals mg) (Bl : ∃ mb, s.heap.Ns builtinsNs mb ∧ ∀ x : Str, x ≠ "__name__" → mb x = bootBuiltins x)
    (hlim : s.heap.NoLimit) (hx : s.heap.get? x = some (excO C t0)) (hnx : K.lookup x = none) (hroom : A.depth < recursionLimit)
    (hq : ∀ h' tk dx, InitEnd f s.heap h' x C dx v → R (.ok (.ret .none)) { s with heap := h', toks := tk }) :
    codeAny (model prog w) A (.call (.ref fI) ⟨[.ref x, v], []⟩) R s := by
  obtain ⟨oc, od, doc, pm, an, cda, ct, cc, osl, qn, p1, p2, q1, q2, q3, q4, q5, q6, q7, q8, q9, q10, ccl, cdd, vs, ccs, file, tf, cl, cld, csl, ho, hcd, hcda, hvs, hfile, hcc, hln⟩ := T.fn
  obtain ⟨nm, q, N, bs, bm, sn, sub, ab, col, dd, k0, k1, k2, k3, k5, hC, hT, hpass, hal⟩ := T.cls
  obtain ⟨mb, hB, hBB⟩ := Bl
  have hcl : clsIn K C = some { name := nm, bases := bs, mro := .ref C :: bm, ns := N, qualname := q, hasDict := true, slotNames := sn, subclasses := sub, abstract := ab, collection := col, hasDel := false } := by unfold clsIn; rw [hC] <;> rfl
  refine ks_codeAny_call_defAt (fd := ksFn "__init__" qn (xA f p1 p2) (xBK f q1 q2 q3 q4 q5 q6 q7 q8 q9 q10) (xS f) .none .none doc pm an (.ref cda) ct cc) (binds := [("self", .ref x), (f, v)]) hroom (X _ _ ho) rfl hlim (codeRec_of X hcd) rfl (T.fo.bd qn p1 p2 _ doc pm an _ ct cc s (.ref x) v) ?_ ?_ (fun h₁ hns k => ?_) rfl rfl rfl
  · intro y hy
    simp only [xS, List.mem_cons, List.not_mem_nil, or_false] at hy
    rcases hy with rfl | rfl | rfl | rfl <;> (intro z; cases z)
  · intro y hy
    simp only [List.mem_cons, List.not_mem_nil, or_false] at hy
    rcases hy with rfl | rfl
    · exact xS_self
    · exact xS_f T.fo
  · have X₁ : K.In h₁ := X.keeps k
    have hx₁ := k _ _ hx
    have hself : (fun y => List.lookup y ([(("self" : Str), Value.ref x), (f, v)].reverse)) ("self" : Str) = some (.ref x) := by
      have h1 : (("self" : Str) == f) = false := by rw [BEq.comm]; exact T.fo.e1
      simp [List.lookup, h1]
    have hval : (fun y => List.lookup y ([(("self" : Str), Value.ref x), (f, v)].reverse)) f = some v := by
      simp [List.lookup]
    have hCC : h₁.get? C = some _ := X₁ _ _ hC
    refine ks_wpAt_execs_cons (ks_wpAt_Expr_any (ks_wpAt_MethodCall (pl := do return (← importBound (.Call (.Name "super" q1) [] [] q2) (callEnv (ksFn "__init__" qn (xA f p1 p2) (xBK f q1 q2 q3 q4 q5 q6 q7 q8 q9 q10) (xS f) .none .none doc pm an (.ref cda) ct cc) s.heap.objs.size fI)).getD true) ?_ ?_) rfl rfl)
    rotate_left
    · have e1 : ∀ (o : Expr) (env : Env), methodCallPos true o env q3 q5 = pure q5 := fun o env => by
        unfold methodCallPos
        rw [hln]
        rfl
      show (attributeBase _ _ _ _ >>= fun ov => standAt q3.atName >>= fun _ => (holding [ov] (calleeOf true _ _ ov _)) >>= fun x => methodCallPos true (.Call (.Name "super" q1) [] [] q2) (callEnv (ksFn "__init__" qn (xA f p1 p2) (xBK f q1 q2 q3 q4 q5 q6 q7 q8 q9 q10) (xS f) .none .none doc pm an (.ref cda) ct cc) s.heap.objs.size fI) q3 q5 >>= fun cp => callWith cp x.1 x.2 _ _) = _
      rw [e1]
      rfl
    refine ks_wpAt_super_base (f := fI) (cc := cda) (file := file) (tf := tf) (xS_super T.fo) (xS_class T.fo) (by decide) rfl (X₁ _ _ ho) rfl rfl rfl (X₁ _ _ hcda) rfl hvs hfile T.top ?_
    refine ks_loadName_global rfl (xS_super T.fo) (loadGlobal_builtin (G.keeps k) T.sup (hB.keeps k) ((hBB _ (by decide +kernel)).trans (by first | boot_by_name | rfl | kernel_rfl)) ⟨rfl, ?_⟩)
    refine wpAny_loadName_free rfl (xS_class T.fo) rfl ⟨_, X₁ _ _ hcc, rfl⟩ ?_
    refine wpAny_loadName_local rfl xS_self hns hself ?_
    refine ks_wpAny_isType_cls hCC rfl ⟨rfl, ?_⟩
    refine ks_wpAny_call_super hCC rfl hx₁ rfl (fun c e => by cases e) (looks_mroIn X₁ T.sD) (fun h₂ hso k₂ => ?_)
    have X₂ : K.In h₂ := X₁.keeps k₂
    have hx₂ := k₂ _ _ hx₁
    have I₂ : InstAt h₂ x (excO C t0) C none := ⟨hx₂, rfl, rfl, trivial⟩
    have hxC : x ≠ C := fun z => by rw [z, hC] at hnx; cases hnx
    refine kxs_getMethod (l₀ := .ref C :: bm) KF hso (looks_opaque X₂ T.op) ((looks_clsIn X₂ hcl).andThen .now) rfl X₂ (by rw [own_drop]; exact hal) (I₂.type.andThen (looks_subIn X₂ T.sB)) hxC (by decide) ?_
    have k₃ : ∀ b o, h₂.get? b = some o → (h₂.push (kxs_mw i x)).get? b = some o := fun b o e => Heap.get?_push_of_some _ e
    refine kxs_callWith (i := i) (x := x) rfl ?_
    refine evalArgs_plain (Calls.spliced_cons ?_)
    refine wpAny_Name (wpAny_loadName_local rfl (xS_f T.fo) (hns.keeps (fun b o e => k₃ b o (k₂ b o e))) hval ?_) T.fo.e4
    refine Calls.spliced_nil ?_
    have hu : (h₂.push (kxs_mw i x)).get? h₂.objs.size = some (kxs_mw i x) := Heap.get?_push_at rfl rfl
    refine ⟨hu, ?_⟩
    show wpAny _ _ (call (.ref h₂.objs.size) [_]) _ _ _
    refine call_mwK FB (k₃ _ _ (X₂ _ _ hC)) (k₃ _ _ hx₂) hu (by show 1 ≤ sizeLine; rw [sizeLine_eq]; decide) (fun h₄ t1 k₄ hx₄ => ?_)
    have kx : ∀ b o, b ≠ x → s.heap.get? b = some o → h₄.get? b = some o := fun b o hb e => k₄ b o hb (k₃ b o (k₂ b o (k b o e)))
    have X₄ : K.In h₄ := fun b o e => kx b o (fun z => by rw [z, hnx] at e; cases e) (X b o e)
    have hxL : x ≠ s.heap.objs.size := Nat.ne_of_lt (Heap.lt_size hx)
    have hns₄ : h₄.Ns s.heap.objs.size (fun y => List.lookup y ([(("self" : Str), Value.ref x), (f, v)].reverse)) := by
      obtain ⟨oL, es, ep, hL, r⟩ := hns
      exact ⟨oL, es, ep, k₄ _ _ hxL.symm (k₃ _ _ (k₂ _ _ hL)), r⟩
    refine ks_wpAt_execs_cons (_root_.PySem.wpAt_of_wpAny (plainObj_wpAny_Assign_Attribute ?_))
    refine wpAny_Name (wpAny_loadName_local rfl (xS_f T.fo) hns₄ hval ?_) T.fo.e4
    refine wpAny_Name (wpAny_loadName_local rfl xS_self hns₄ hself ?_) (by decide)
    refine set_plain X₄ (ox := excO C t1) (od := none) ⟨hx₄, rfl, rfl, trivial⟩ T.sa ?_
    refine osa_first X₄ hx₄ hcl T.sO (by rw [refuseLoop_ref]; exact hpass _) rfl T.noF (fun h₅ tk₅ dx k₅ dn dne hx₅ hn₅ => ?_)
    refine _root_.PySem.wpAt_of_wpAny (wpAny_execs_nil ?_)
    refine hq h₅ tk₅ dx ⟨fun b o hb e => k₅ b o hb (kx b o hb e), ⟨t1, hx₅⟩, ?_, dne, hn₅⟩
    exact Nat.le_trans (Nat.le_of_lt hns₄.lt) dn
theorem x_madeK (T : XTxtK prog K mg nx f B i newB newId C fI) (FN : ExcBaseFacts newB newId initB bmB) (FB : InitK B i) (KF : KxsFacts B i) {v : Value} (X : K.In s.heap) (G : s.heap.Ns mainGlobals mg) (Bl : ∃ mb, s.heap.Ns builtinsNs mb ∧ ∀ x : Str, x ≠ "__name__" → mb x = bootBuiltins x)
    (hlim : s.heap.NoLimit) (hroom : A.depth + 1 < recursionLimit)
    (hq : ∀ h' tk e d, XMade f s.heap h' e C d v → R (.ok (.ret (.ref e))) { s with heap := h', toks := tk }) :
    codeAny (model prog w) A (.call (.ref C) ⟨[v], []⟩) R s := by
  obtain ⟨nm, q, N, bs, bm, sn, sub, ab, col, dd, k0, k1, k2, k3, k5, hC, hT, hpass, hal⟩ := T.cls
  obtain ⟨mb, hB, hBB⟩ := Bl
  obtain ⟨hp, g, dr, tk, os⟩ := s
  have k : ∀ b o, hp.get? b = some o → ((hp.push (kdv_tup [v])).push (excO C hp.objs.size)).get? b = some o := fun b o e => Heap.get?_push_of_some _ (Heap.get?_push_of_some _ e)
  have hget : ((hp.push (kdv_tup [v])).push (excO C hp.objs.size)).get? (hp.objs.size + 1) = some (excO C hp.objs.size) := by heap_get
  have hnx : K.lookup (hp.objs.size + 1) = none := by
    cases e : K.lookup (hp.objs.size + 1) with
    | none => rfl
    | some o =>
      have z : hp.get? (hp.objs.size + 1) = some o := X _ _ e
      exact absurd (Nat.lt_of_succ_lt (Heap.lt_size z)) (Nat.lt_irrefl _)
  refine call_own FN hT (X _ _ hC) (looks_findIn X T.iC) (fun self => bind_fn X self T.tC) (by show 1 ≤ sizeLine; rw [sizeLine_eq]; decide) ?_
  refine x_initK (s := ⟨(hp.push (kdv_tup [v])).push (excO C hp.objs.size), g, dr, tk, os⟩) T FN FB KF (X.keeps k) (G.keeps k) ⟨mb, hB.keeps k, hBB⟩ (hlim.keeps k) hget hnx ?_ fun h' tk' dx ⟨k', ⟨t1, hx⟩, dn, dne, hns⟩ => ?_
  · show A.depth + 1 < recursionLimit
    exact hroom
  · have old : ∀ b o, hp.get? b = some o → h'.get? b = some o := fun b o e => k' b o (Nat.ne_of_lt (Nat.lt_succ_of_lt (Heap.lt_size e))) (k b o e)
    have z : hp.objs.size + 1 + 1 ≤ dx := by
      have q := dn
      rw [Heap.size_push, Heap.size_push] at q
      exact q
    exact ⟨rfl, hq h' tk' (hp.objs.size + 1) dx ⟨old, Nat.le_succ _, ⟨_, _, hx, rfl, rfl, rfl, rfl⟩, Nat.le_trans (Nat.le_trans (Nat.le_succ _) (Nat.le_succ _)) z, dne, hns⟩⟩
end
end LfXK
end PySem
namespace L2
open PySem PySem.Spec PyProof.Rows
section
variable {X : Cx} {C fI : Addr} {nx f : Str} {B i newB newId initB : String} {bmB : List Value}
theorem pmk_k {a : Expr} {ta : TA} {p pos : Pos} {k : Nat} (T : PySem.LfXK.XTxtK X.prog X.K X.mg nx f B i newB newId C fI) (FN : ExcBaseFacts newB newId initB bmB) (FB : PySem.LfXK.InitK B i) (KF : PySem.W.KxsFacts B i) (hr : Room k X.A) (ha : PA X [a] ta) (hg : Gl X nx := by rfl) (hdb : (nx == ("__debug__" : Str)) = false := by decide)
    (he : starEach (a :: []) X.env = (false, eval a X.env) :: starEach [] X.env := by rfl) (hpl : (backTo pos (starEach [] X.env)).any (·.1) = false := by rfl) :
    PMk X (.Call (.Name nx p) [a] [] pos) (tMkX C f ta) := by
  intro pins s σ H Q I h
  refine wpAny_Call_Name_kw (ld_glob I hg T.gC ?_ hdb)
  refine PySem.W.callWith_K (h₀ := X.base) I.ok.mod.kin T.kC (thn (ha.run pos pins s σ H _ I h) fun us s1 hh => ?_) he hpl
  obtain ⟨vs, H1, I1, r1, v, ev, q1⟩ := hh
  subst ev
  refine ⟨I1.kIn, ?_⟩
  cases r1 with
  | cons rv rn =>
    rename_i v' us'
    cases rn
    show wpAny _ _ (call (.ref C) [v']) _ _ _
    have hlim := I1.nolimit
    have hG : s1.heap.Ns mainGlobals X.mg := I1.ok.mod.glob.keeps I1.bk
    have hB : ∃ mb, s1.heap.Ns builtinsNs mb ∧ ∀ x : Str, x ≠ "__name__" → mb x = bootBuiltins x := by
      obtain ⟨mb, b1, b2⟩ := I1.ok.mod.blt
      exact ⟨mb, b1.keeps I1.bk, b2⟩
    obtain ⟨hp, g, dr, tk, os⟩ := s1
    refine wpAny_call (PySem.LfXK.x_madeK T FN FB KF I1.kIn hG hB hlim (by have := hr.dp; omega) fun h' tk' e d M => ?_)
    show MkP X pins σ Q (.ref e) ⟨h', g, dr, tk', os⟩
    obtain ⟨oe, fv, hoe, hc, hd, hdat, h1⟩ := M.obj
    have hns := M.ns
    obtain ⟨G', g1, g2⟩ := restrict h' fun b => decide (b ≠ e)
    have gk : ∀ b, b ≠ e → G'.get? b = h'.get? b := fun b hb => g1 b (decide_eq_true hb)
    have ge : G'.get? e = none := g2 e (by simp)
    have old : ∀ b o, hp.get? b = some o → G'.get? b = some o := fun b o q => (gk b (Nat.ne_of_lt (Nat.lt_of_lt_of_le (Heap.lt_size q) M.new))).trans (M.keep b o q)
    have ob : ObjOk X.prog X.w (upd H1 d (.xd [(f, v)])) G' d (.xd [(f, v)]) :=
      ⟨_, hns.at (fun o q => (gk d M.dne).trans q), fun y => relO_one rv y⟩
    have J : Inv X pins σ (upd H1 d (.xd [(f, v)])) ⟨G', g, dr, tk', os⟩ := I1.laid (t' := tk') old M.dbig ob
    refine ⟨e, oe, fv, ⟨G', g, dr, tk', os⟩, _, .ref C, some d, rfl, J, fun b o q => ?_, ge, hoe, ⟨hc, hd⟩, hdat, h1, ?_, rfl, I1.bare, raises_own T.exC T.tyC, q1 d (I1.hok.fresh M.dbig)⟩
    · by_cases hb : b = e
      · have q' : G'.get? b = some o := q
        rw [hb, ge] at q'; cases q'
      · exact (gk b hb).symm.trans q
    · rw [upd_ne (Ne.symm M.dne)]
      exact I1.hok.fresh M.new
end
end L2
set_option maxHeartbeats 4000000
/-! own errors held as values: X(e), isinstance(v, C), v.f -/
namespace L2
open PySem PySem.Spec PyProof.Rows
/-- an exception object of the class C with the dict d, at a -/
def ExV (C : Addr) (d : Option Addr) (a : Addr) : HO := .ext fun h => ∃ (oe : Obj) (vs : Array Value), h.get? a = some oe ∧ oe.cls = .ref C ∧ oe.dict = d ∧ oe.data = .fields vs
theorem exV_ok {P : Program} {w : World} {H : Hp} {h : Heap} {a C : Addr} {d : Option Addr} {oe : Obj} {vs : Array Value} (e : h.get? a = some oe) (c : oe.cls = .ref C) (dd : oe.dict = d) (f : oe.data = .fields vs) : ObjOk P w H h a (ExV C d a) :=
  ⟨⟨oe, vs, e, c, dd, f⟩, ⟨oe, e⟩, fun _ _ ⟨o, v, q, r⟩ k => ⟨o, v, k o q, r⟩⟩
/-- at a stands an exception of the class C with these fields -/
def IsX (H : Hp) (a C : Addr) (fs : List (Str × V)) : Prop := (H a = some (ExO (.ref C) a) ∧ fs = []) ∨ ∃ d, H a = some (ExV C (some d) a) ∧ H d = some (.xd fs)
section
variable {X : Cx} {pins : List (Addr × Obj)} {σ : St} {H H1 : Hp} {s : Shared} {a C : Addr} {fs : List (Str × V)}
theorem IsX.up (h : IsX H a C fs) (x : ∀ b o, H b = some o → H1 b = some o) : IsX H1 a C fs := by
  rcases h with ⟨e, rfl⟩ | ⟨d, e1, e2⟩
  · exact .inl ⟨x _ _ e, rfl⟩
  · exact .inr ⟨d, x _ _ e1, x _ _ e2⟩
theorem notCls_fields {oe : Obj} {vs : Array Value} (h : oe.data = .fields vs) : PySem.W.notCls oe = true := by
  unfold PySem.W.notCls
  rw [h] <;> rfl
theorem IsX.inst (h : IsX H a C fs) (I : Inv X pins σ H s) : ∃ oe od, PySem.W.InstAt s.heap a oe C od ∧ (fs = [] ∨ ∃ (o : Obj) (mA : Str → Option Value), od = some o ∧ (∀ f, RelO (fs.lookup f) (mA f)) ∧ ∀ n, PySem.W.lookIn n o = some (mA n)) := by
  rcases h with ⟨e, rfl⟩ | ⟨d, e1, e2⟩
  · obtain ⟨⟨oe, vs, ho, hz, hd, _⟩, _, _⟩ := I.hok a _ e
    exact ⟨oe, none, ⟨ho, hz.1, notCls_fields hd, by rw [hz.2]; trivial⟩, .inl rfl⟩
  · obtain ⟨⟨oe, vs, ho, hc, hdd, hd⟩, _, _⟩ := I.hok a _ e1
    have hx : ObjOk X.prog X.w H s.heap d (.xd fs) := I.hok d _ e2
    obtain ⟨mA, hns, hr⟩ := hx
    obtain ⟨od, hod, hl⟩ := lookIn_ns hns
    exact ⟨oe, some od, ⟨ho, hc, notCls_fields hd, by rw [hdd]; exact hod⟩, .inr ⟨od, mA, rfl, hr, hl⟩⟩
end
/-- isinstance(v, c), v an exception -/
def rIsV (K : PySem.W.Frag) : List V → Hp → VK → Prop := fun xs H Q => ∃ (a C : Addr) (fs : List (Str × V)) (c : V) (cv : Value) (b : Bool), xs = [.ref a, c] ∧ IsX H a C fs ∧ ExcC K C ∧ (∀ u, RelV c u → u = cv) ∧ PySem.W.kitOne K (.ref C) cv = some b ∧ Q (.bl b) H
theorem call_isV {X : Cx} : CallR X (.builtin "isinstance") (rIsV X.K) := by
  intro pins s σ H xs us Q I r h
  obtain ⟨a, C, fs, c, cv, b, rfl, hx, hC, hcv, e, q⟩ := h
  cases r with
  | cons rx rr =>
    cases rr with
    | cons rt rr =>
      cases rr
      cases rx
      have ec := hcv _ rt
      subst ec
      obtain ⟨oe, od, J, _⟩ := hx.inst I
      obtain ⟨cd, hc, _⟩ := PySem.W.any_some hC.hd
      exact PySem.W.kia_one (PySem.W.kitx_exc (by rw [hc]; rfl) hC.hg hC.hk hC.hs hC.ha hC.hn hC.ht hC.hm) I.kIn J e (fun z => nomatch z) fun tk => ⟨.bl b, H, I.kept (t' := tk) fun _ _ z => z, rfl, q⟩
/-- v.f, v an exception -/
def tXfV (K : PySem.W.Frag) (n : Str) (te : TE) : TE := fun σ H Q => te σ H fun x H1 => ∃ (a C : Addr) (fs : List (Str × V)) (v : V), x = .ref a ∧ IsX H1 a C fs ∧ XfC K C ∧ PySem.W.findIn K (.ref C) n = some none ∧ fs.lookup n = some v ∧ Q v H1
theorem pe_xfV {X : Cx} {e : Expr} {te : TE} {pos : Pos} {n : Str} (he : PE X e te) (hb : attributeBase e n X.env (eval e X.env) = eval e X.env := by rfl) : PE X (.Attribute e n pos) (tXfV X.K n te) := by
  refine ⟨fun pins s σ H Q I h => ?_⟩
  refine attr_of hb (thn (he.run pins s σ H _ I h) fun u s1 hh => ?_)
  obtain ⟨x, H1, I1, rx, a, C, fs, v, ex, hx, T, hno, l, q⟩ := hh
  subst ex
  obtain rfl : u = Value.ref a := rx
  obtain ⟨oe, od, J, hf⟩ := hx.inst I1
  rcases hf with rfl | ⟨o, mA, rfl, hr, hl⟩
  · cases l
  obtain ⟨u, hu, ru⟩ := RelO.some_of (v := v) (o := mA n) (by rw [← l]; exact hr n)
  exact HandSPX.exc_get I1.kIn J T.ga T.gg T.exC (PySem.W.findObj_own T.hdC hno rfl (by rw [hl, hu])) (handed_of ru) ⟨v, H1, I1.tok _, ru, q⟩
section
variable {X : Cx} {pins : List (Addr × Obj)} {σ : St}
/-- what a made exception leaves is tracked -/
theorem made_v {H1 : Hp} {hp h' : Heap} {g : Array GenState} {dr : Drawn} {tk tk' : Nat} {os : OsState} {e d C : Addr} {fs : List (Str × V)} {mA : Str → Option Value} (I1 : Inv X pins σ H1 ⟨hp, g, dr, tk, os⟩) (keep : ∀ b o, hp.get? b = some o → h'.get? b = some o) (new : hp.objs.size ≤ e)
    (obj : ∃ oe vs, h'.get? e = some oe ∧ oe.cls = .ref C ∧ oe.dict = some d ∧ oe.data = .fields vs) (dbig : hp.objs.size ≤ d) (dne : d ≠ e) (hns : h'.Ns1 d mA) (hr : ∀ y, RelO (fs.lookup y) (mA y)) :
    Inv X pins σ (upd (upd H1 d (.xd fs)) e (ExV C (some d) e)) ⟨h', g, dr, tk', os⟩ ∧ H1 d = none ∧ H1 e = none := by
  obtain ⟨oe, vs, hoe, hc, hd, hdat⟩ := obj
  obtain ⟨G', g1, g2⟩ := restrict h' fun b => decide (b ≠ e)
  have gk : ∀ b, b ≠ e → G'.get? b = h'.get? b := fun b hb => g1 b (decide_eq_true hb)
  have ge : G'.get? e = none := g2 e (by simp)
  have old : ∀ b o, hp.get? b = some o → G'.get? b = some o := fun b o q => (gk b (Nat.ne_of_lt (Nat.lt_of_lt_of_le (Heap.lt_size q) new))).trans (keep b o q)
  have ob : ObjOk X.prog X.w (upd H1 d (.xd fs)) G' d (.xd fs) := ⟨_, hns.at (fun o q => (gk d dne).trans q), hr⟩
  have J : Inv X pins σ (upd H1 d (.xd fs)) ⟨G', g, dr, tk', os⟩ := I1.laid (t' := tk') old dbig ob
  have nd := I1.hok.fresh dbig
  have ne := I1.hok.fresh new
  refine ⟨J.laidN (fun b o q => ?_) ge (by rw [upd_ne (Ne.symm dne)]; exact ne) (exV_ok hoe hc hd hdat), nd, ne⟩
  by_cases hb : b = e
  · have q' : G'.get? b = some o := q
    rw [hb, ge] at q'
    cases q'
  · exact (gk b hb).symm.trans q
/-- X(e), an error with one field, as a value -/
def tXV (C : Addr) (f : Str) (ta : TA) : TE := fun σ H Q => ta σ H fun vs H1 => ∃ v, vs = [v] ∧ ∀ d e, H1 d = none → H1 e = none → d ≠ e → Q (.ref e) (upd (upd H1 d (.xd [(f, v)])) e (ExV C (some d) e))
variable {C fI : Addr} {nx f : Str} {B i newId newB initB : String} {bmB : List Value}
theorem pe_xV {a : Expr} {ta : TA} {p pos : Pos} {k : Nat} (T : PySem.LfX.XTxt X.prog X.K X.mg nx f B i newId bmB C fI) (FB : ExcBaseFacts B newId i bmB) (KF : PySem.W.KxsFacts B i) (hr : Room k X.A) (h1 : 1 ≤ k) (ha : PA X [a] ta) (hg : Gl X nx := by rfl) (hdb : (nx == ("__debug__" : Str)) = false := by decide)
    (he : starEach (a :: []) X.env = (false, eval a X.env) :: starEach [] X.env := by rfl) (hpl : (backTo pos (starEach [] X.env)).any (·.1) = false := by rfl) :
    PE X (.Call (.Name nx p) [a] [] pos) (tXV C f ta) := by
  refine ⟨fun pins s σ H Q I h => ?_⟩
  refine wpAny_Call_Name_kw (ld_glob I hg T.gC ?_ hdb)
  refine PySem.W.callWith_K (h₀ := X.base) I.ok.mod.kin T.kC (thn (ha.run pos pins s σ H _ I h) fun us s1 hh => ?_) he hpl
  obtain ⟨vs, H1, I1, r1, v, ev, q1⟩ := hh
  subst ev
  refine ⟨I1.kIn, ?_⟩
  cases r1 with
  | cons rv rn =>
    rename_i v' us'
    cases rn
    show wpAny _ _ (call (.ref C) [v']) _ _ _
    have hlim := I1.nolimit
    have hG : s1.heap.Ns mainGlobals X.mg := I1.ok.mod.glob.keeps I1.bk
    have hB : ∃ mb, s1.heap.Ns builtinsNs mb ∧ ∀ x : Str, x ≠ "__name__" → mb x = bootBuiltins x := by
      obtain ⟨mb, b1, b2⟩ := I1.ok.mod.blt
      exact ⟨mb, b1.keeps I1.bk, b2⟩
    obtain ⟨hp, g, dr, tk, os⟩ := s1
    refine wpAny_call (PySem.LfX.x_made T FB KF I1.kIn hG hB hlim (by have := hr.dp; omega) fun h' tk' e d M => ?_)
    obtain ⟨oe, fv, hoe, hc, hd, hdat, _⟩ := M.obj
    obtain ⟨J, nd, ne⟩ := made_v (tk' := tk') (fs := [(f, v)]) I1 M.keep M.new ⟨oe, fv, hoe, hc, hd, hdat⟩ M.dbig M.dne M.ns (fun y => relO_one rv y)
    exact ⟨.ref e, _, J, rfl, q1 d e nd ne M.dne⟩
theorem pe_kV {a : Expr} {ta : TA} {p pos : Pos} {k : Nat} (T : PySem.LfXK.XTxtK X.prog X.K X.mg nx f B i newB newId C fI) (FN : ExcBaseFacts newB newId initB bmB) (FB : PySem.LfXK.InitK B i) (KF : PySem.W.KxsFacts B i) (hr : Room k X.A) (h1 : 1 ≤ k) (ha : PA X [a] ta) (hg : Gl X nx := by rfl) (hdb : (nx == ("__debug__" : Str)) = false := by decide)
    (he : starEach (a :: []) X.env = (false, eval a X.env) :: starEach [] X.env := by rfl) (hpl : (backTo pos (starEach [] X.env)).any (·.1) = false := by rfl) :
    PE X (.Call (.Name nx p) [a] [] pos) (tXV C f ta) := by
  refine ⟨fun pins s σ H Q I h => ?_⟩
  refine wpAny_Call_Name_kw (ld_glob I hg T.gC ?_ hdb)
  refine PySem.W.callWith_K (h₀ := X.base) I.ok.mod.kin T.kC (thn (ha.run pos pins s σ H _ I h) fun us s1 hh => ?_) he hpl
  obtain ⟨vs, H1, I1, r1, v, ev, q1⟩ := hh
  subst ev
  refine ⟨I1.kIn, ?_⟩
  cases r1 with
  | cons rv rn =>
    rename_i v' us'
    cases rn
    show wpAny _ _ (call (.ref C) [v']) _ _ _
    have hlim := I1.nolimit
    have hG : s1.heap.Ns mainGlobals X.mg := I1.ok.mod.glob.keeps I1.bk
    have hB : ∃ mb, s1.heap.Ns builtinsNs mb ∧ ∀ x : Str, x ≠ "__name__" → mb x = bootBuiltins x := by
      obtain ⟨mb, b1, b2⟩ := I1.ok.mod.blt
      exact ⟨mb, b1.keeps I1.bk, b2⟩
    obtain ⟨hp, g, dr, tk, os⟩ := s1
    refine wpAny_call (PySem.LfXK.x_madeK T FN FB KF I1.kIn hG hB hlim (by have := hr.dp; omega) fun h' tk' e d M => ?_)
    obtain ⟨oe, fv, hoe, hc, hd, hdat, _⟩ := M.obj
    obtain ⟨J, nd, ne⟩ := made_v (tk' := tk') (fs := [(f, v)]) I1 M.keep M.new ⟨oe, fv, hoe, hc, hd, hdat⟩ M.dbig M.dne M.ns (fun y => relO_one rv y)
    exact ⟨.ref e, _, J, rfl, q1 d e nd ne M.dne⟩
end
end L2
set_option maxHeartbeats 4000000
/-! An own error over a built-in one with two fields: __init__(self, f, g): super().__init__('..'); self.f = f; self.g = g -/
namespace PySem
namespace LfX2
open PySem.W PySem.Calls PyProof.Rows PySem.HandSPX PySem.LfX
def xA2 (f g : Str) (p1 p2 p3 : Pos) : Arguments := { posonlyargs := [], args := [{ arg := "self", annotation := none, pos := p1 }, { arg := f, annotation := none, pos := p2 }, { arg := g, annotation := none, pos := p3 }], vararg := none, kwonlyargs := [], kw_defaults := [], kwarg := none, defaults := [] }
def xB2 (f g' m : Str) (j : Nat) (q1 q2 q3 q4 q5 q6 q7 q8 q9 q10 q11 q12 q13 q14 : Pos) : List Stmt :=
  [.Expr (.Call (.Attribute (.Call (.Name "super" q1) [] [] q2) "__init__" q3) [.Constant (.str m) j q4] [] q5) q6, .Assign [.Attribute (.Name "self" q7) f q8] (.Name f q9) q10, .Assign [.Attribute (.Name "self" q11) g' q12] (.Name g' q13) q14]
def xS2 (f g : Str) : Scope := { kind := .function, names := [(PySem.Str.ofString "self", .local), (f, .local), (g, .local), (PySem.Str.ofString "__class__", .free), (PySem.Str.ofString "super", .globalImplicit)], isGenerator := false, isCoroutine := false, more := [] }
/-- the names of the fields stand apart from the three others and from one another -/
structure FldOk2 (f g : Str) : Prop where
  e1 : (f == PySem.Str.ofString "self") = false
  e2 : (PySem.Str.ofString "__class__" == f) = false
  e3 : (PySem.Str.ofString "super" == f) = false
  e4 : (f == ("__debug__" : Str)) = false
  e1' : (g == PySem.Str.ofString "self") = false
  e2' : (PySem.Str.ofString "__class__" == g) = false
  e3' : (PySem.Str.ofString "super" == g) = false
  e4' : (g == ("__debug__" : Str)) = false
  gf : (g == f) = false
  bd : ∀ (qn : Str) (p1 p2 p3 : Pos) (b : List Stmt) (doc pm : Value) (an : Option Addr) (cdv ct : Value) (cc : Addr) (s : Shared) (x v u : Value),
    BindsTo s (ksFn "__init__" qn (xA2 f g p1 p2 p3) b (xS2 f g) .none .none doc pm an cdv ct cc) ⟨[x, v, u], []⟩ [("self", x), (f, v), (g, u)]
/-- what the written part says of such a class, at C, and of its __init__, at fI -/
structure XTxt2 (prog : Program) (K : Frag) (mg : Str → Option Value) (x f g' : Str) (B i newId : String) (bmB : List Value) (C fI : Addr) : Prop where
  fo : FldOk2 f g'
  gC : mg x = some (.ref C)
  cls : ∃ nm q N bs bm sn sub ab col dd k0 k1 k2 k3 k5, K.lookup C = some (excClassObj nm q C N bs bm true sn sub ab col dd k0 k1 k2 k3 k5 newId) ∧ (∀ X : String, bm.contains (.type X) = bmB.contains (.type X)) ∧
    (∀ self : Value, refuseLoop self "__setattr__" bm = pure ()) ∧ alongIn K "__init__" bm = some (some (.builtin i))
  sa : findIn K (.ref C) "__setattr__" = some (some (.builtin "object.__setattr__"))
  noF : findIn K (.ref C) f = some none
  noG : findIn K (.ref C) g' = some none
  iC : findIn K (.ref C) "__init__" = some (some (.ref fI))
  tC : typeIn K (.ref fI) = some (.type "function")
  kC : keepIn K (.ref C) = true
  exC : subIn K (.ref C) (.type "BaseException") = some true
  sB : subIn K (.ref C) (.type B) = some true
  sD : mroIn K C (.ref C) = some true
  sO : mroIn K C (.type "object") = some true
  tyC : typeIn K (.ref C) = some (.type "type")
  op : nsIn K cStatics "thirdparty.any" = some none
  sup : mg "super" = none
  top : (prog.main.scope.names.lookup ("super" : Str)).isSome = false
  fn : ∃ (oc : Value) (od : Option Addr) (doc pm : Value) (an : Option Addr) (cda : Addr) (ct : Value) (cc : Addr) (osl : Array (Option Value)) (qn m : Str) (j : Nat) (p1 p2 p3 q1 q2 q3 q4 q5 q6 q7 q8 q9 q10 q11 q12 q13 q14 : Pos)
      (ccl : Value) (cdd : Option Addr) (vs : Array Value) (ccs : Array (Option Value)) (file : Str) (tf : Tok) (cl : Value) (cld : Option Addr) (csl : Array (Option Value)),
    K.lookup fI = some ⟨oc, od, .func (ksFn "__init__" qn (xA2 f g' p1 p2 p3) (xB2 f g' m j q1 q2 q3 q4 q5 q6 q7 q8 q9 q10 q11 q12 q13 q14) (xS2 f g') .none .none doc pm an (.ref cda) ct cc), osl⟩ ∧ codeIn K (.ref cda) qn = true ∧
    K.lookup cda = some ⟨ccl, cdd, .fields vs, ccs⟩ ∧ vs[2]? = some (.str file tf) ∧ ((prog.main.file : Str) == file) = true ∧ K.lookup cc = some ⟨cl, cld, .cell (some (.ref C)), csl⟩ ∧ (q3.endLine == q5.line) = true
section
variable {f g : Str}
theorem xS2_self : (xS2 f g).names.lookup ("self" : Str) = some .local := by simp [xS2, List.lookup]
theorem xS2_f (o : FldOk2 f g) : (xS2 f g).names.lookup f = some .local := by simp [xS2, List.lookup, o.e1]
theorem xS2_g (o : FldOk2 f g) : (xS2 f g).names.lookup g = some .local := by simp [xS2, List.lookup, o.e1', o.gf]
theorem xS2_class (o : FldOk2 f g) : (xS2 f g).names.lookup ("__class__" : Str) = some .free := by
  have h1 : ((PySem.Str.ofString "__class__") == (PySem.Str.ofString "self")) = false := by decide +kernel
  simp [xS2, List.lookup, o.e2, o.e2', h1]
theorem xS2_super (o : FldOk2 f g) : (xS2 f g).names.lookup ("super" : Str) = some .globalImplicit := by
  have h1 : ((PySem.Str.ofString "super") == (PySem.Str.ofString "self")) = false := by decide +kernel
  have h2 : ((PySem.Str.ofString "super") == (PySem.Str.ofString "__class__")) = false := by decide +kernel
  simp [xS2, List.lookup, o.e3, o.e3', h1, h2]
end
/-- what __init__ leaves of a fresh exception at x -/
structure InitEnd2 (f g : Str) (h h' : Heap) (x C dx : Addr) (v u : Value) : Prop where
  keep : ∀ b o, b ≠ x → h.get? b = some o → h'.get? b = some o
  obj : ∃ t1, h'.get? x = some { cls := .ref C, dict := some dx, data := .fields #[.ref t1, .none, .none, .none, .bool false, .none] }
  dbig : h.objs.size ≤ dx
  dne : dx ≠ x
  ns : h'.Ns1 dx (fun y => if y = g then some u else if y = f then some v else none)
structure XMade2 (f g : Str) (h h' : Heap) (e C d : Addr) (v u : Value) : Prop where
  keep : ∀ b o, h.get? b = some o → h'.get? b = some o
  new : h.objs.size ≤ e
  obj : ∃ oe vs, h'.get? e = some oe ∧ oe.cls = .ref C ∧ oe.dict = some d ∧ oe.data = .fields vs ∧ vs[1]? = some .none
  dbig : h.objs.size ≤ d
  dne : d ≠ e
  ns : h'.Ns1 d (fun y => if y = g then some u else if y = f then some v else none)
section
open Builtin Builtin.ObjectAttr
variable {prog : Program} {w : World} {A : Around} {E : Value → Shared → Prop} {R : Result → Shared → Prop} {hp : Heap} {g : Array GenState} {d : Drawn} {t : Nat} {os : OsState}
/-- self.name = v on an exception that has its dict -/
theorem osa_again {K : Frag} {name f : Str} {tk : Tok} {v v0 : Value} {x C dx : Addr} {fv : Array Value} {cd : ClassData}
    (X : K.In hp) (hx : hp.get? x = some { cls := .ref C, dict := some dx, data := .fields fv }) (hns : hp.Ns1 dx (fun y => if y = f then some v0 else none)) (hcd : clsIn K C = some cd) (hob : mroIn K C (.type "object") = some true) (hpass : refuseLoop (.ref x) "__setattr__" cd.mro = pure ()) (hh : cd.hasDict = true) (ha : findIn K (.ref C) name = some none)
    (hq : ∀ h' tk', (∀ b o, b ≠ dx → hp.get? b = some o → h'.get? b = some o) → h'.Ns1 dx (fun y => if y = name then some v else if y = f then some v0 else none) → R (.ok (.ret .none)) ⟨h', g, d, tk', os⟩) :
    codeAny (model prog w) A (.call (.builtin "object.__setattr__") ⟨[.ref x, .str name tk, v], []⟩) R ⟨hp, g, d, t, os⟩ := by
  have hw : Within (fun y => if y = f then some v0 else none) [f] := fun y hy => by
    by_cases c : y = f
    · rw [c]; exact List.mem_cons_self
    · exact absurd (if_neg c) hy
  have hz : [f].length ≤ 1000 := by simp
  obtain ⟨oD, esD, epD, hoD, hdD, _⟩ := hns.count hw
  have I : InstAt hp x { cls := .ref C, dict := some dx, data := .fields fv } C (some oD) := ⟨hx, rfl, rfl, hoD⟩
  have SF := F.store_object
  have sub : Looks (model prog w) hp (isInstance (.ref x) (.type "object")) true := I.type.andThen (looks_mroIn X hob)
  refine codeAny_call_builtin SF.slot.plain SF.entry (@check_slot (model prog w) _ _ ⟨hp, g, d, t, os⟩ "object.__setattr__" "object" "__setattr__" (.ref x) [.str name tk, v] [] _ SF.kind SF.split sub (SF.args (.ref x) (.str name tk) v) ?_)
  have hmr : Looks (model prog w) hp (mroOf (.ref C)) cd.mro := (looks_clsIn X hcd).andThen .now
  have L3 : Looks (model prog w) hp (storeTaker? none) none := .now
  have hcls : Looks (model prog w) hp (classData C) cd := looks_clsIn X hcd
  rw [osa_eq, refuse_eq]
  refine wpAny_bind (wpAny_bind (I.type.at (wpAny_bind (hmr.at ?_))))
  rw [hpass]
  refine wpAny_pure (wpAny_bind (I.type.at (wpAny_bind ((looks_findIn X ha).at (wpAny_bind (L3.at ?_))))))
  show wpAny _ _ (storeInOwnDict (.ref x) (.ref C) (.str name tk) name v false) _ _ _
  obtain ⟨nm, bs, mro, ns, qn, hd, sn, sb, ab, col, del⟩ := cd
  dsimp only at hh
  subst hh
  unfold storeInOwnDict ownDictForStores
  repeat (first | with_reducible refine PX.store_in_old hns hw hz ?_ | with_reducible refine wpAny_loadPart_at hx ?_ | with_reducible refine hcls.at ?_ | wp_step)
  intro h' tk' hn' hs
  exact hq h' tk' (fun b o hb ho => (hs.2 b hb).trans ho) hn'
end
section
variable {prog : Program} {w : World} {A : Around} {E : Value → Shared → Prop} {R : Result → Shared → Prop} {s : Shared} {K : Frag} {mg : Str → Option Value} {nx f g' : Str} {B i newId : String} {bmB : List Value} {C fI : Addr}
theorem x_init2 (T : XTxt2 prog K mg nx f g' B i newId bmB C fI) (FB : ExcBaseFacts B newId i bmB) (KF : KxsFacts B i) {x t0 : Addr} {v u : Value} (X : K.In s.heap) (G : s.heap.Ns mainGlobals mg) (Bl : ∃ mb, s.heap.Ns builtinsNs mb ∧ ∀ x : Str, x ≠ "__name__" → mb x = bootBuiltins x)
    (hlim : s.heap.NoLimit) (hx : s.heap.get? x = some (excO C t0)) (hnx : K.lookup x = none) (hroom : A.depth < recursionLimit)
    (hq : ∀ h' tk dx, InitEnd2 f g' s.heap h' x C dx v u → R (.ok (.ret .none)) { s with heap := h', toks := tk }) :
    codeAny (model prog w) A (.call (.ref fI) ⟨[.ref x, v, u], []⟩) R s := by
  obtain ⟨oc, od, doc, pm, an, cda, ct, cc, osl, qn, m, j, p1, p2, p3, q1, q2, q3, q4, q5, q6, q7, q8, q9, q10, q11, q12, q13, q14, ccl, cdd, vs, ccs, file, tf, cl, cld, csl, ho, hcd, hcda, hvs, hfile, hcc, hln⟩ := T.fn
  obtain ⟨nm, q, N, bs, bm, sn, sub, ab, col, dd, k0, k1, k2, k3, k5, hC, hT, hpass, hal⟩ := T.cls
  obtain ⟨mb, hB, hBB⟩ := Bl
  have hcl : clsIn K C = some { name := nm, bases := bs, mro := .ref C :: bm, ns := N, qualname := q, hasDict := true, slotNames := sn, subclasses := sub, abstract := ab, collection := col, hasDel := false } := by unfold clsIn; rw [hC] <;> rfl
  refine ks_codeAny_call_defAt (fd := ksFn "__init__" qn (xA2 f g' p1 p2 p3) (xB2 f g' m j q1 q2 q3 q4 q5 q6 q7 q8 q9 q10 q11 q12 q13 q14) (xS2 f g') .none .none doc pm an (.ref cda) ct cc) (binds := [("self", .ref x), (f, v), (g', u)]) hroom (X _ _ ho) rfl hlim (codeRec_of X hcd) rfl (T.fo.bd qn p1 p2 p3 _ doc pm an _ ct cc s (.ref x) v u) ?_ ?_ (fun h₁ hns k => ?_) rfl rfl rfl
  · intro y hy
    simp only [xS2, List.mem_cons, List.not_mem_nil, or_false] at hy
    rcases hy with rfl | rfl | rfl | rfl | rfl <;> (intro z; cases z)
  · intro y hy
    simp only [List.mem_cons, List.not_mem_nil, or_false] at hy
    rcases hy with rfl | rfl | rfl
    · exact xS2_self
    · exact xS2_f T.fo
    · exact xS2_g T.fo
  · have X₁ : K.In h₁ := X.keeps k
    have hx₁ := k _ _ hx
    have hself : (fun y => List.lookup y ([(("self" : Str), Value.ref x), (f, v), (g', u)].reverse)) ("self" : Str) = some (.ref x) := by
      have h1 : (("self" : Str) == f) = false := by rw [BEq.comm]; exact T.fo.e1
      have h2 : (("self" : Str) == g') = false := by rw [BEq.comm]; exact T.fo.e1'
      simp [List.lookup, h1, h2]
    have hval : (fun y => List.lookup y ([(("self" : Str), Value.ref x), (f, v), (g', u)].reverse)) f = some v := by
      have h1 : (f == g') = false := by rw [BEq.comm]; exact T.fo.gf
      simp [List.lookup, h1]
    have hval2 : (fun y => List.lookup y ([(("self" : Str), Value.ref x), (f, v), (g', u)].reverse)) g' = some u := by
      simp [List.lookup]
    have hCC : h₁.get? C = some _ := X₁ _ _ hC
    refine ks_wpAt_execs_cons (ks_wpAt_Expr_any (ks_wpAt_MethodCall (pl := do return (← importBound (.Call (.Name "super" q1) [] [] q2) (callEnv (ksFn "__init__" qn (xA2 f g' p1 p2 p3) (xB2 f g' m j q1 q2 q3 q4 q5 q6 q7 q8 q9 q10 q11 q12 q13 q14) (xS2 f g') .none .none doc pm an (.ref cda) ct cc) s.heap.objs.size fI)).getD true) ?_ ?_) rfl rfl)
    rotate_left
    · have e1 : ∀ (o : Expr) (env : Env), methodCallPos true o env q3 q5 = pure q5 := fun o env => by
        unfold methodCallPos
        rw [hln]
        rfl
      show (attributeBase _ _ _ _ >>= fun ov => standAt q3.atName >>= fun _ => (holding [ov] (calleeOf true _ _ ov _)) >>= fun x => methodCallPos true (.Call (.Name "super" q1) [] [] q2) (callEnv (ksFn "__init__" qn (xA2 f g' p1 p2 p3) (xB2 f g' m j q1 q2 q3 q4 q5 q6 q7 q8 q9 q10 q11 q12 q13 q14) (xS2 f g') .none .none doc pm an (.ref cda) ct cc) s.heap.objs.size fI) q3 q5 >>= fun cp => callWith cp x.1 x.2 _ _) = _
      rw [e1]
      rfl
    refine ks_wpAt_super_base (f := fI) (cc := cda) (file := file) (tf := tf) (xS2_super T.fo) (xS2_class T.fo) (by decide) rfl (X₁ _ _ ho) rfl rfl rfl (X₁ _ _ hcda) rfl hvs hfile T.top ?_
    refine ks_loadName_global rfl (xS2_super T.fo) (loadGlobal_builtin (G.keeps k) T.sup (hB.keeps k) ((hBB _ (by decide +kernel)).trans (by first | boot_by_name | rfl | kernel_rfl)) ⟨rfl, ?_⟩)
    refine wpAny_loadName_free rfl (xS2_class T.fo) rfl ⟨_, X₁ _ _ hcc, rfl⟩ ?_
    refine wpAny_loadName_local rfl xS2_self hns hself ?_
    refine ks_wpAny_isType_cls hCC rfl ⟨rfl, ?_⟩
    refine ks_wpAny_call_super hCC rfl hx₁ rfl (fun c e => by cases e) (looks_mroIn X₁ T.sD) (fun h₂ hso k₂ => ?_)
    have X₂ : K.In h₂ := X₁.keeps k₂
    have hx₂ := k₂ _ _ hx₁
    have I₂ : InstAt h₂ x (excO C t0) C none := ⟨hx₂, rfl, rfl, trivial⟩
    have hxC : x ≠ C := fun z => by rw [z, hC] at hnx; cases hnx
    refine kxs_getMethod (l₀ := .ref C :: bm) KF hso (looks_opaque X₂ T.op) ((looks_clsIn X₂ hcl).andThen .now) rfl X₂ (by rw [own_drop]; exact hal) (I₂.type.andThen (looks_subIn X₂ T.sB)) hxC (by decide) ?_
    have k₃ : ∀ b o, h₂.get? b = some o → (h₂.push (kxs_mw i x)).get? b = some o := fun b o e => Heap.get?_push_of_some _ e
    refine kxs_callWith (i := i) (x := x) rfl ?_
    refine evalArgs_plain (Calls.spliced_cons ?_)
    refine Calls.Constant_str (x := m) (k := j) (pos := q4) (Calls.spliced_nil ?_)
    have hu : (h₂.push (kxs_mw i x)).get? h₂.objs.size = some (kxs_mw i x) := Heap.get?_push_at rfl rfl
    refine ⟨hu, ?_⟩
    show wpAny _ _ (call (.ref h₂.objs.size) [_]) _ _ _
    refine call_mw FB (k₃ _ _ (X₂ _ _ hC)) (k₃ _ _ hx₂) hu (by show 1 ≤ sizeLine; rw [sizeLine_eq]; decide) (fun h₄ t1 k₄ hx₄ => ?_)
    have kx : ∀ b o, b ≠ x → s.heap.get? b = some o → h₄.get? b = some o := fun b o hb e => k₄ b o hb (k₃ b o (k₂ b o (k b o e)))
    have X₄ : K.In h₄ := fun b o e => kx b o (fun z => by rw [z, hnx] at e; cases e) (X b o e)
    have hxL : x ≠ s.heap.objs.size := Nat.ne_of_lt (Heap.lt_size hx)
    have hns₄ : h₄.Ns s.heap.objs.size (fun y => List.lookup y ([(("self" : Str), Value.ref x), (f, v), (g', u)].reverse)) := by
      obtain ⟨oL, es, ep, hL, r⟩ := hns
      exact ⟨oL, es, ep, k₄ _ _ hxL.symm (k₃ _ _ (k₂ _ _ hL)), r⟩
    refine ks_wpAt_execs_cons (_root_.PySem.wpAt_of_wpAny (plainObj_wpAny_Assign_Attribute ?_))
    refine wpAny_Name (wpAny_loadName_local rfl (xS2_f T.fo) hns₄ hval ?_) T.fo.e4
    refine wpAny_Name (wpAny_loadName_local rfl xS2_self hns₄ hself ?_) (by decide)
    refine set_plain X₄ (ox := excO C t1) (od := none) ⟨hx₄, rfl, rfl, trivial⟩ T.sa ?_
    refine osa_first X₄ hx₄ hcl T.sO (by rw [refuseLoop_ref]; exact hpass _) rfl T.noF (fun h₅ tk₅ dx k₅ dn dne hx₅ hn₅ => ?_)
    have hns₅ : h₅.Ns s.heap.objs.size (fun y => List.lookup y ([(("self" : Str), Value.ref x), (f, v), (g', u)].reverse)) := by
      obtain ⟨oL, es, ep, hL, r⟩ := hns₄
      exact ⟨oL, es, ep, k₅ _ _ hxL.symm hL, r⟩
    have X₅ : K.In h₅ := fun b o e => k₅ b o (fun z => by rw [z, hnx] at e; cases e) (X₄ b o e)
    refine ks_wpAt_execs_cons (_root_.PySem.wpAt_of_wpAny (plainObj_wpAny_Assign_Attribute ?_))
    refine wpAny_Name (wpAny_loadName_local rfl (xS2_g T.fo) hns₅ hval2 ?_) T.fo.e4'
    refine wpAny_Name (wpAny_loadName_local rfl xS2_self hns₅ hself ?_) (by decide)
    obtain ⟨oD, esD, epD, hoD, hdD, _⟩ := hn₅.count (ns := [f]) (fun y hy => by
      by_cases c : y = f
      · rw [c]; exact List.mem_cons_self
      · exact absurd (if_neg c) hy)
    refine set_plain X₅ (ox := { cls := .ref C, dict := some dx, data := .fields #[.ref t1, .none, .none, .none, .bool false, .none] }) (od := some oD) ⟨hx₅, rfl, rfl, hoD⟩ T.sa ?_
    refine osa_again X₅ hx₅ hn₅ hcl T.sO (by rw [refuseLoop_ref]; exact hpass _) rfl T.noG (fun h₆ tk₆ k₆ hn₆ => ?_)
    refine _root_.PySem.wpAt_of_wpAny (wpAny_execs_nil ?_)
    have dxb : s.heap.objs.size ≤ dx := Nat.le_trans (Nat.le_of_lt hns₄.lt) dn
    refine hq h₆ tk₆ dx ⟨fun b o hb e => k₆ b o (fun z => ?_) (k₅ b o hb (kx b o hb e)), ⟨t1, k₆ _ _ dne.symm hx₅⟩, dxb, dne, hn₆⟩
    exact absurd (Heap.lt_size e) (by rw [z]; exact Nat.not_lt.mpr dxb)
theorem x_made2 (T : XTxt2 prog K mg nx f g' B i newId bmB C fI) (FB : ExcBaseFacts B newId i bmB) (KF : KxsFacts B i) {v u : Value} (X : K.In s.heap) (G : s.heap.Ns mainGlobals mg) (Bl : ∃ mb, s.heap.Ns builtinsNs mb ∧ ∀ x : Str, x ≠ "__name__" → mb x = bootBuiltins x)
    (hlim : s.heap.NoLimit) (hroom : A.depth + 1 < recursionLimit)
    (hq : ∀ h' tk e d, XMade2 f g' s.heap h' e C d v u → R (.ok (.ret (.ref e))) { s with heap := h', toks := tk }) :
    codeAny (model prog w) A (.call (.ref C) ⟨[v, u], []⟩) R s := by
  obtain ⟨nm, q, N, bs, bm, sn, sub, ab, col, dd, k0, k1, k2, k3, k5, hC, hT, hpass, hal⟩ := T.cls
  obtain ⟨mb, hB, hBB⟩ := Bl
  obtain ⟨hp, g, dr, tk, os⟩ := s
  have k : ∀ b o, hp.get? b = some o → ((hp.push (kdv_tup [v, u])).push (excO C hp.objs.size)).get? b = some o := fun b o e => Heap.get?_push_of_some _ (Heap.get?_push_of_some _ e)
  have hget : ((hp.push (kdv_tup [v, u])).push (excO C hp.objs.size)).get? (hp.objs.size + 1) = some (excO C hp.objs.size) := by heap_get
  have hnx : K.lookup (hp.objs.size + 1) = none := by
    cases e : K.lookup (hp.objs.size + 1) with
    | none => rfl
    | some o =>
      have z : hp.get? (hp.objs.size + 1) = some o := X _ _ e
      exact absurd (Nat.lt_of_succ_lt (Heap.lt_size z)) (Nat.lt_irrefl _)
  refine call_own FB hT (X _ _ hC) (looks_findIn X T.iC) (fun self => bind_fn X self T.tC) (by show 2 ≤ sizeLine; rw [sizeLine_eq]; decide) ?_
  refine x_init2 (s := ⟨(hp.push (kdv_tup [v, u])).push (excO C hp.objs.size), g, dr, tk, os⟩) T FB KF (X.keeps k) (G.keeps k) ⟨mb, hB.keeps k, hBB⟩ (hlim.keeps k) hget hnx ?_ fun h' tk' dx ⟨k', ⟨t1, hx⟩, dn, dne, hns⟩ => ?_
  · show A.depth + 1 < recursionLimit
    exact hroom
  · have old : ∀ b o, hp.get? b = some o → h'.get? b = some o := fun b o e => k' b o (Nat.ne_of_lt (Nat.lt_succ_of_lt (Heap.lt_size e))) (k b o e)
    have z : hp.objs.size + 1 + 1 ≤ dx := by
      have q := dn
      rw [Heap.size_push, Heap.size_push] at q
      exact q
    exact ⟨rfl, hq h' tk' (hp.objs.size + 1) dx ⟨old, Nat.le_succ _, ⟨_, _, hx, rfl, rfl, rfl, rfl⟩, Nat.le_trans (Nat.le_trans (Nat.le_succ _) (Nat.le_succ _)) z, dne, hns⟩⟩
end
end LfX2
end PySem
namespace L2
open PySem PySem.Spec PyProof.Rows
theorem relO_two {f g : Str} {v u : V} {v' u' : Value} (r : RelV v v') (r2 : RelV u u') (y : Str) : RelO (List.lookup y [(g, u), (f, v)]) (if y = g then some u' else if y = f then some v' else none) := by
  by_cases hw : y = g
  · subst hw
    rw [if_pos rfl]
    have q : List.lookup y [(y, u), (f, v)] = some u := by simp [List.lookup]
    rw [q]
    exact r2
  · rw [if_neg hw]
    have qw : (y == g) = false := by simpa using hw
    have q2 : List.lookup y [(g, u), (f, v)] = List.lookup y [(f, v)] := by simp [List.lookup, qw]
    rw [q2]
    exact relO_one r y
section
variable {X : Cx} {C fI : Addr} {nx f g : Str} {B i newId : String} {bmB : List Value}
/-- X(a, b), an error with two fields, as a value -/
def tX2V (C : Addr) (f g : Str) (ta : TA) : TE := fun σ H Q => ta σ H fun vs H1 => ∃ v u, vs = [v, u] ∧ ∀ d e, H1 d = none → H1 e = none → d ≠ e → Q (.ref e) (upd (upd H1 d (.xd [(g, u), (f, v)])) e (ExV C (some d) e))
theorem pe_x2V {a b : Expr} {ta : TA} {p pos : Pos} {k : Nat} (T : PySem.LfX2.XTxt2 X.prog X.K X.mg nx f g B i newId bmB C fI) (FB : ExcBaseFacts B newId i bmB) (KF : PySem.W.KxsFacts B i) (hr : Room k X.A) (h1 : 1 ≤ k) (ha : PA X [a, b] ta) (hg : Gl X nx := by rfl) (hdb : (nx == ("__debug__" : Str)) = false := by decide)
    (he : starEach [a, b] X.env = (false, eval a X.env) :: starEach [b] X.env := by rfl) (hpl : (backTo pos (starEach [b] X.env)).any (·.1) = false := by rfl) :
    PE X (.Call (.Name nx p) [a, b] [] pos) (tX2V C f g ta) := by
  refine ⟨fun pins s σ H Q I h => ?_⟩
  refine wpAny_Call_Name_kw (ld_glob I hg T.gC ?_ hdb)
  refine PySem.W.callWith_K (h₀ := X.base) I.ok.mod.kin T.kC (thn (ha.run pos pins s σ H _ I h) fun us s1 hh => ?_) he hpl
  obtain ⟨vs, H1, I1, r1, v, u, ev, q1⟩ := hh
  subst ev
  refine ⟨I1.kIn, ?_⟩
  cases r1 with
  | @cons _ v' _ _ rv rn =>
    cases rn with
    | @cons _ u' _ _ ru rn =>
      cases rn
      show wpAny _ _ (call (.ref C) [v', u']) _ _ _
      have hlim := I1.nolimit
      have hG : s1.heap.Ns mainGlobals X.mg := I1.ok.mod.glob.keeps I1.bk
      have hB : ∃ mb, s1.heap.Ns builtinsNs mb ∧ ∀ x : Str, x ≠ "__name__" → mb x = bootBuiltins x := by
        obtain ⟨mb, b1, b2⟩ := I1.ok.mod.blt
        exact ⟨mb, b1.keeps I1.bk, b2⟩
      obtain ⟨hp, g0, dr, tk, os⟩ := s1
      refine wpAny_call (PySem.LfX2.x_made2 T FB KF I1.kIn hG hB hlim (by have := hr.dp; omega) fun h' tk' e d M => ?_)
      obtain ⟨oe, fv, hoe, hc, hd, hdat, _⟩ := M.obj
      obtain ⟨J, nd, ne⟩ := made_v (tk' := tk') (fs := [(g, u), (f, v)]) I1 M.keep M.new ⟨oe, fv, hoe, hc, hd, hdat⟩ M.dbig M.dne M.ns (fun y => relO_two rv ru y)
      exact ⟨.ref e, _, J, rfl, q1 d e nd ne M.dne⟩
end
end L2
set_option maxHeartbeats 4000000
/-! The names of a tree's working nodes, plain -/
namespace Tr
open PySem Lf
def kO (op : Str) (i : Nat) : Str := ((Str.empty ++ op) ++ (Str.ofString ".")) ++ Str.ofString (toString ((i : Nat) : Int))
def keysN : Nat → PyData → Str → List Str
  | n + 1, .tuple ds, op => if isS "at" (ds.getD 0 .none) = true then [] else op :: (List.range (subs ds).length).flatMap fun j => keysN n ((subs ds).getD j .none) (kO op j)
  | _, _, _ => []
def wrk : Nat → PyData → Int
  | n + 1, .tuple ds => if isS "at" (ds.getD 0 .none) = true then 0 else 1 + ((subs ds).map fun t => wrk n t).sum
  | _, _ => 0
/-- s goes on behind op with a point, if at all -/
def Goes (op s : Str) : Prop := ∃ r, s.cps.toList = op.cps.toList ++ r ∧ (r = [] ∨ ∃ q, r = 46 :: q)
def kTail (i : Nat) : List Nat := 46 :: (Str.ofString (toString ((i : Nat) : Int))).cps.toList
theorem app_cps (a b : Str) : (a ++ b).cps.toList = a.cps.toList ++ b.cps.toList := by
  show (a.cps ++ b.cps).toList = _
  rw [Array.toList_append]
theorem kO_cps (op : Str) (i : Nat) : (kO op i).cps.toList = op.cps.toList ++ kTail i := by
  unfold kO
  rw [app_cps, app_cps, app_cps]
  have e1 : (Str.empty).cps.toList = [] := rfl
  have e2 : (Str.ofString ".").cps.toList = [46] := by decide +kernel
  rw [e1, e2]
  simp [kTail]
theorem goes_refl (op : Str) : Goes op op := ⟨[], by simp, .inl rfl⟩
theorem goes_kO {op s : Str} {i : Nat} (h : Goes (kO op i) s) : Goes op s := by
  obtain ⟨r, e, _⟩ := h
  rw [kO_cps, List.append_assoc] at e
  exact ⟨_, e, .inr ⟨_, rfl⟩⟩
theorem goes_long {op s : Str} {i : Nat} (h : Goes (kO op i) s) : s ≠ op := fun z => by
  obtain ⟨r, e, _⟩ := h
  rw [kO_cps, z] at e
  have := congrArg List.length e
  simp [kTail] at this
theorem kTail_small {i : Nat} (h : i < 3) : kTail i = [46, 48 + i] := by
  match i, h with
  | 0, _ => decide +kernel
  | 1, _ => decide +kernel
  | 2, _ => decide +kernel
theorem goes_apart {op s : Str} {i j : Nat} (hi : i < 3) (hj : j < 3) (h : Goes (kO op i) s) (h' : Goes (kO op j) s) : i = j := by
  obtain ⟨r, e, _⟩ := h
  obtain ⟨r', e', _⟩ := h'
  rw [kO_cps, kTail_small hi, List.append_assoc] at e
  rw [kO_cps, kTail_small hj, List.append_assoc, e] at e'
  have e'' := List.append_cancel_left e'
  simp at e''
  omega
theorem keys_goes (n : Nat) : ∀ (d : PyData) (op s : Str), s ∈ keysN n d op → Goes op s := by
  induction n with
  | zero => intro d op s h; cases h
  | succ n ih =>
    intro d op s h
    cases d with
    | tuple ds =>
      rw [keysN] at h
      split at h
      · cases h
      · rcases List.mem_cons.mp h with rfl | h
        · exact goes_refl _
        · obtain ⟨j, _, h⟩ := List.mem_flatMap.mp h
          exact goes_kO (ih _ _ _ h)
    | _ => cases h
/-- what stands before turn i -/
def keysTo (n : Nat) (ts : List PyData) (op : Str) (i : Nat) : List Str := op :: (List.range i).flatMap fun j => keysN n (ts.getD j .none) (kO op j)
theorem keysTo_succ (n : Nat) (ts : List PyData) (op : Str) (i : Nat) : keysTo n ts op (i + 1) = keysTo n ts op i ++ keysN n (ts.getD i .none) (kO op i) := by
  unfold keysTo
  rw [List.range_succ, List.flatMap_append]
  simp
theorem keys_apart {n : Nat} {ts : List PyData} {op s : Str} {i : Nat} (hi : i < 3) (h : s ∈ keysTo n ts op i) (h' : s ∈ keysN n (ts.getD i .none) (kO op i)) : False := by
  have g := keys_goes n _ _ _ h'
  rcases List.mem_cons.mp h with rfl | h
  · exact goes_long g rfl
  · obtain ⟨j, hj, h⟩ := List.mem_flatMap.mp h
    have hj := List.mem_range.mp hj
    have := goes_apart (by omega) hi (keys_goes n _ _ _ h) g
    omega
theorem keys_nodup (n : Nat) : ∀ (d : PyData) (op : Str), isTr n d = true → (keysN n d op).Nodup := by
  induction n with
  | zero => intro d op h; exact List.nodup_nil
  | succ n ih =>
    intro d op h
    obtain ⟨w, nm, ts, rfl⟩ := isTr_tup h
    obtain ⟨h3, hall⟩ := isTr_sub h
    rw [keysN]
    split
    · exact List.nodup_nil
    · have go : ∀ i, i ≤ (subs (w :: nm :: ts)).length → (keysTo n (subs (w :: nm :: ts)) op i).Nodup := by
        intro i
        induction i with
        | zero => intro _; simp [keysTo]
        | succ i ih2 =>
          intro hi
          rw [keysTo_succ]
          refine List.nodup_append.mpr ⟨ih2 (by omega), ih _ _ ?_, ?_⟩
          · have hl : i < (subs (w :: nm :: ts)).length := by omega
            rw [List.getD_eq_getElem?_getD, List.getElem?_eq_getElem hl, Option.getD_some]
            exact hall _ (List.getElem_mem hl)
          · intro a ha b hb e
            subst e
            exact keys_apart (by omega) ha hb
      exact go _ (Nat.le_refl _)
theorem range_getD (ts : List PyData) (f : PyData → Int) : (List.range ts.length).map (fun j => f (ts.getD j .none)) = ts.map f := by
  apply List.ext_getElem
  · simp
  · intro i h1 h2
    have hi : i < ts.length := by simpa using h2
    simp [hi]
theorem flat_len {α : Type} (l : List Nat) (f : Nat → List α) : (((l.flatMap f).length : Nat) : Int) = (l.map fun j => ((f j).length : Int)).sum := by
  induction l with
  | nil => rfl
  | cons a t ih =>
    rw [List.flatMap_cons, List.length_append, List.map_cons, List.sum_cons, ← ih]
    omega
theorem keys_len (n : Nat) : ∀ (d : PyData) (op : Str), ((keysN n d op).length : Int) = wrk n d := by
  induction n with
  | zero => intro d op; rfl
  | succ n ih =>
    intro d op
    cases d with
    | tuple ds =>
      rw [keysN, wrk]
      split
      · rfl
      · rw [List.length_cons, ← range_getD (subs ds) (fun t => wrk n t)]
        have e := flat_len (List.range (subs ds).length) (fun j => keysN n ((subs ds).getD j .none) (kO op j))
        have e2 : (List.range (subs ds).length).map (fun j => ((keysN n ((subs ds).getD j .none) (kO op j)).length : Int)) = (List.range (subs ds).length).map (fun j => wrk n ((subs ds).getD j .none)) :=
          List.map_congr_left fun j _ => ih _ _
        rw [e2] at e
        omega
    | _ => rfl
theorem kO_len {op : Str} {i : Nat} (h : i < 3) : (kO op i).length = op.length + 2 := by
  have e := congrArg List.length (kO_cps op i)
  rw [List.length_append, kTail_small h] at e
  simpa [Str.length] using e
theorem getD_mem {ts : List PyData} {i : Nat} (h : i < ts.length) : ts.getD i .none ∈ ts := by
  rw [List.getD_eq_getElem?_getD, List.getElem?_eq_getElem h, Option.getD_some]
  exact List.getElem_mem h
theorem keysTo_le {n : Nat} {ts : List PyData} (h : ∀ t ∈ ts, ∀ op, (keysN n t op).length ≤ 4 ^ n) (op : Str) : ∀ i, i ≤ ts.length → (keysTo n ts op i).length ≤ 1 + i * 4 ^ n := by
  intro i
  induction i with
  | zero => intro _; simp [keysTo]
  | succ i ih =>
    intro hi
    rw [keysTo_succ, List.length_append, Nat.succ_mul]
    have := ih (by omega)
    have := h _ (getD_mem (show i < ts.length by omega)) (kO op i)
    omega
theorem keys_le (n : Nat) : ∀ (d : PyData) (op : Str), isTr n d = true → (keysN n d op).length ≤ 4 ^ n := by
  induction n with
  | zero => intro d op h; cases h
  | succ n ih =>
    intro d op h
    obtain ⟨w, nm, ts, rfl⟩ := isTr_tup h
    obtain ⟨h3, hall⟩ := isTr_sub h
    rw [keysN]
    split
    · exact Nat.zero_le _
    · have e := keysTo_le (fun t ht op => ih t op (hall t ht)) op _ (Nat.le_refl _)
      have : (subs (w :: nm :: ts)).length * 4 ^ n ≤ 3 * 4 ^ n := Nat.mul_le_mul_right _ h3
      have h4 : 0 < 4 ^ n := Nat.pow_pos (by decide)
      show (keysTo n (subs (w :: nm :: ts)) op _).length ≤ _
      rw [Nat.pow_succ]
      omega
theorem pow_small {n : Nat} (h : n ≤ 5) : 4 ^ n ≤ 1024 := Nat.le_trans (Nat.pow_le_pow_right (by decide) h) (by decide)
theorem len_app (a b : Str) : (a ++ b).length = a.length + b.length := by
  show (a.cps ++ b.cps).size = _
  rw [Array.size_append]
  rfl
end Tr
set_option maxHeartbeats 4000000
/-! Names, digits, trees, as the law looks at them; plain -/
namespace Tr
open PySem Lf
def inz (c : Nat) : Bool := decide (97 ≤ c) && decide (c ≤ 122)
theorem letters_list : letters.cps.toList = List.range' 97 26 := by decide +kernel
theorem mem_letters (c : Nat) : decide (c ∈ letters.cps.toList) = inz c := by
  rw [letters_list]
  unfold inz
  rw [← Bool.decide_and, decide_eq_decide, List.mem_range']
  constructor
  · rintro ⟨i, h, rfl⟩
    omega
  · intro h
    exact ⟨c - 97, by omega, by omega⟩
theorem lets_empty {α : Type} (x : Str) (f : Nat → α) : lets x = ((x.cps.toList.filter fun c => !inz c).map f).isEmpty := by
  unfold lets
  generalize x.cps.toList = l
  induction l with
  | nil => rfl
  | cons c l ih =>
    rw [List.all_cons, ih, mem_letters]
    cases e : inz c with
    | true => rw [List.filter_cons_of_neg (by rw [e]; decide)]; rfl
    | false => rw [List.filter_cons_of_pos (by rw [e]; rfl)]; rfl
theorem sg_lt (a b : Nat) : decide (([a] : List Nat) < [b]) = decide (a < b) := by
  rw [decide_eq_decide]
  constructor
  · intro h
    cases h with
    | rel h => exact h
    | cons h => cases h
  · intro h
    exact .rel h
theorem len_digits (n k : Nat) (h : 0 < k) : (Str.ofString (toString ((n : Nat) : Int))).length ≤ k ↔ n < 10 ^ k := by
  have e : (Str.ofString (toString ((n : Nat) : Int))).length = n.repr.length := by
    rw [PyProof.Rows.ofString_len]
    rfl
  rw [e]
  exact Nat.length_repr_le_iff h
theorem len_abs (i : Int) : decide (((Str.ofString (toString (if i < 0 then -i else i))).length : Int) ≤ 30) = isIn (.int i) := by
  have e : (if i < 0 then -i else i) = ((i.natAbs : Nat) : Int) := by split <;> omega
  rw [e]
  show _ = (decide (-lim < i) && decide (i < lim))
  rw [← Bool.decide_and, decide_eq_decide]
  have h := len_digits i.natAbs 30 (by decide)
  have l : (lim : Int) = ((10 ^ 30 : Nat) : Int) := by decide +kernel
  rw [l]
  have : ((Str.ofString (toString ((i.natAbs : Nat) : Int))).length : Int) ≤ 30 ↔ (Str.ofString (toString ((i.natAbs : Nat) : Int))).length ≤ 30 := by omega
  rw [this, h]
  generalize (10 ^ 30 : Nat) = N
  omega
theorem len_big {i : Int} (h : i.natAbs.log2 < 1920) : (Str.ofString (toString ((i.natAbs : Nat) : Int))).length ≤ 1000 := by
  refine (len_digits i.natAbs 1000 (by decide)).mpr ?_
  have h1 : i.natAbs < 2 ^ 1920 := by
    by_cases c : i.natAbs = 0
    · rw [c]; exact Nat.two_pow_pos _
    · exact (Nat.log2_lt c).mp h
  exact Nat.lt_of_lt_of_le h1 (by decide +kernel)
def core (j : Nat) (w : PyData) (ts : List PyData) : Bool :=
  if ts.length = 1 ∧ isS "at" w = true then within 0 3 (ts.getD 0 .none)
  else if ts.length = 2 ∧ isS "load" w = true then (isIn (ts.getD 0 .none) && isIn (ts.getD 1 .none))
  else if isS "op" w = true then (decide (ts.length ≤ 3) && ts.all fun t => isTr j t)
  else false
theorem isTr_core (j : Nat) (w nm : PyData) (ts : List PyData) : isTr (j + 1) (.tuple (w :: nm :: ts)) = (isNm nm && core j w ts) := by
  rw [isTr_cons]
  unfold core
  split
  · rfl
  · split
    · rfl
    · split
      · rfl
      · rw [Bool.and_false]
theorem core_at (j : Nat) (ts : List PyData) : core j (.str "at") ts = (decide (ts.length = 1) && within 0 3 (ts.getD 0 .none)) := by
  unfold core
  by_cases c : ts.length = 1
  · rw [if_pos ⟨c, by decide⟩, decide_eq_true c]; rfl
  · rw [if_neg (fun z => c z.1), if_neg (fun z => absurd z.2 (by decide)), if_neg (by decide), decide_eq_false c]; rfl
theorem core_load (j : Nat) (ts : List PyData) : core j (.str "load") ts = (decide (ts.length = 2) && (isIn (ts.getD 0 .none) && isIn (ts.getD 1 .none))) := by
  unfold core
  rw [if_neg (fun z => absurd z.2 (by decide))]
  by_cases c : ts.length = 2
  · rw [if_pos ⟨c, by decide⟩, decide_eq_true c]; rfl
  · rw [if_neg (fun z => c z.1), if_neg (by decide), decide_eq_false c]; rfl
theorem core_op (j : Nat) (ts : List PyData) : core j (.str "op") ts = (decide (ts.length ≤ 3) && ts.all fun t => isTr j t) := by
  unfold core
  rw [if_neg (fun z => absurd z.2 (by decide)), if_neg (fun z => absurd z.2 (by decide)), if_pos (by decide)]
theorem core_no {j : Nat} {w : PyData} {ts : List PyData} (h1 : isS "at" w = false) (h2 : isS "load" w = false) (h3 : isS "op" w = false) : core j w ts = false := by
  unfold core
  rw [if_neg (fun z => by rw [h1] at z; cases z.2), if_neg (fun z => by rw [h2] at z; cases z.2), if_neg (by rw [h3]; decide)]
theorem all_empty {α : Type} (l : List α) (p : α → Bool) : l.all p = ((l.filter fun t => !p t).map id).isEmpty := by
  induction l with
  | nil => rfl
  | cons c l ih =>
    rw [List.all_cons, ih]
    cases e : p c with
    | true => rw [List.filter_cons_of_neg (by rw [e]; decide)]; rfl
    | false => rw [List.filter_cons_of_pos (by rw [e]; rfl)]; rfl
theorem showable_mem {ds : List PyData} (h : PyData.showableAll ds = true) : ∀ d ∈ ds, d.showable = true := by
  induction ds with
  | nil => intro d hd; cases hd
  | cons a t ih =>
    rw [PyData.showableAll, Bool.and_eq_true] at h
    intro d hd
    rcases List.mem_cons.mp hd with rfl | hd
    · exact h.1
    · exact ih h.2 d hd
theorem showable_all {ds : List PyData} (h : ∀ d ∈ ds, d.showable = true) : PyData.showableAll ds = true := by
  induction ds with
  | nil => rfl
  | cons a t ih =>
    rw [PyData.showableAll, Bool.and_eq_true]
    exact ⟨h a (List.mem_cons_self ..), ih fun d hd => h d (List.mem_cons_of_mem _ hd)⟩
end Tr
set_option maxHeartbeats 4000000
/-! Shapes, plain -/
namespace Tr
open PySem Lf
/-- the shape of a tree, of at most n levels -/
def isTs : Nat → PyData → Bool
  | 0, _ => false
  | n + 1, .tuple ds => match ds with
    | w :: r => if (isS "hole" w || isS "load" w) = true then r.isEmpty
      else if isS "op" w = true then (decide (1 ≤ r.length) && decide (r.length ≤ 4)) && (isNm (r.getD 0 .none) && (r.drop 1).all fun t => isTs n t) else false
    | [] => false
  | _ + 1, _ => false
theorem isTs_cons (n : Nat) (w : PyData) (r : List PyData) : isTs (n + 1) (.tuple (w :: r)) = (if (isS "hole" w || isS "load" w) = true then r.isEmpty
      else if isS "op" w = true then (decide (1 ≤ r.length) && decide (r.length ≤ 4)) && (isNm (r.getD 0 .none) && (r.drop 1).all fun t => isTs n t) else false) := by rw [isTs]
/-- what stands below -/
def bel : List PyData → List PyData
  | w :: r => if isS "store" w = true then r else if isS "op" w = true then r.drop 1 else []
  | [] => []
def wks : Nat → PyData → Bool
  | n + 1, .tuple ds => match ds with
    | w :: r => decide ((bel (w :: r)).length ≤ 4) && (bel (w :: r)).all fun t => wks n t
    | [] => false
  | _, _ => false
def wkg : Nat → PyData → Int
  | n + 1, .tuple ds => (if isS "hole" (ds.getD 0 .none) = true then 0 else 1) + ((bel ds).map fun t => wkg n t).sum
  | _, _ => 0
theorem ts_store {w : PyData} (h : (isS "hole" w || isS "load" w) = true ∨ isS "op" w = true) : isS "store" w = false := by
  rcases h with h | h
  · rcases Bool.or_eq_true_iff.mp h with h | h <;> (cases isS_eq h; decide)
  · cases isS_eq h; decide
theorem wks_ts : ∀ (n : Nat) (d : PyData), isTs n d = true → wks n d = true := by
  intro n
  induction n with
  | zero => intro d h; cases h
  | succ n ih =>
    intro d h
    cases d with
    | tuple ds =>
      cases ds with
      | nil => cases h
      | cons w r =>
        rw [isTs_cons] at h
        rw [wks]
        show (decide ((bel (w :: r)).length ≤ 4) && (bel (w :: r)).all fun t => wks n t) = true
        by_cases c : (isS "hole" w || isS "load" w) = true
        · have e : bel (w :: r) = [] := by
            unfold bel; dsimp only
            rw [ts_store (.inl c), if_neg (by decide)]
            rw [if_neg]
            intro z
            cases isS_eq z
            cases c
          rw [e]
          rfl
        · rw [if_neg c] at h
          by_cases c2 : isS "op" w = true
          · rw [if_pos c2] at h
            have e : bel (w :: r) = r.drop 1 := by
              unfold bel; dsimp only
              rw [ts_store (.inr c2), if_neg (by decide), if_pos c2]
            rw [e]
            simp only [Bool.and_eq_true, decide_eq_true_eq, List.all_eq_true] at h ⊢
            refine ⟨by rw [List.length_drop]; omega, fun t ht => ih t (h.2.2 t ht)⟩
          · rw [if_neg c2] at h
            cases h
    | _ => cases h
theorem wks_cons {n : Nat} {w : PyData} {r : List PyData} (h : wks (n + 1) (.tuple (w :: r)) = true) : (bel (w :: r)).length ≤ 4 ∧ ∀ t ∈ bel (w :: r), wks n t = true := by
  rw [wks] at h
  simp only [Bool.and_eq_true, decide_eq_true_eq, List.all_eq_true] at h
  exact h
theorem wks_tup {n : Nat} {d : PyData} (h : wks n d = true) : ∃ w r, d = .tuple (w :: r) := by
  cases n with
  | zero => cases h
  | succ n =>
    cases d with
    | tuple ds =>
      cases ds with
      | nil => cases h
      | cons w r => exact ⟨w, r, rfl⟩
    | _ => cases h
/-- a shape -/
def isSh : PyData → Bool
  | .tuple ds => if ds.length = 2 ∧ isS "store" (ds.getD 0 .none) = true then isTs 4 (ds.getD 1 .none) && decide (wkg 5 (.tuple ds) ≤ 4) else isTs 5 (.tuple ds) && decide (wkg 5 (.tuple ds) ≤ 4)
  | _ => false
end Tr
set_option maxHeartbeats 4000000
/-! Where shapes fit, plain -/
namespace Tr
open PySem Lf
theorem isTr_succ : ∀ (n : Nat) (d : PyData), isTr n d = true → isTr (n + 1) d = true := by
  intro n
  induction n with
  | zero => intro d h; cases h
  | succ n ih =>
    intro d h
    obtain ⟨w, nm, ts, rfl⟩ := isTr_tup h
    rw [isTr_cons] at h ⊢
    split at h
    · rename_i c; rw [if_pos c]; exact h
    · rename_i c
      rw [if_neg c]
      split at h
      · rename_i c2; rw [if_pos c2]; exact h
      · rename_i c2
        rw [if_neg c2]
        split at h
        · rename_i c3
          rw [if_pos c3]
          simp only [Bool.and_eq_true, List.all_eq_true] at h ⊢
          exact ⟨h.1, h.2.1, fun t ht => ih t (h.2.2 t ht)⟩
        · cases h
theorem isTs_succ : ∀ (n : Nat) (d : PyData), isTs n d = true → isTs (n + 1) d = true := by
  intro n
  induction n with
  | zero => intro d h; cases h
  | succ n ih =>
    intro d h
    obtain ⟨w, r, rfl⟩ := wks_tup (wks_ts _ _ h)
    rw [isTs_cons] at h ⊢
    split at h
    · rename_i c; rw [if_pos c]; exact h
    · rename_i c
      rw [if_neg c]
      split at h
      · rename_i c2
        rw [if_pos c2]
        simp only [Bool.and_eq_true, List.all_eq_true] at h ⊢
        exact ⟨h.1, h.2.1, fun t ht => ih t (h.2.2 t ht)⟩
      · cases h
def stS (n : Nat) : PyData → Bool
  | .tuple [w, x] => isS "store" w && isTs n x
  | _ => false
def stT (n : Nat) : PyData → Bool
  | .tuple [w, _, _, _, _, x] => isS "store" w && isTr n x
  | _ => false
def fOk (n : Nat) (s t : PyData) : Bool := (isTs (n + 1) s || stS n s) && (isTr (n + 1) t || stT n t)
def strOf : PyData → Str
  | .str x => x
  | _ => Str.empty
def ixD (d : PyData) (i : Nat) : PyData := match d with
  | .tuple ds => ds.getD i .none
  | _ => .none
def lenD : PyData → Nat
  | .tuple ds => ds.length
  | _ => 0
def restD : PyData → List PyData
  | .tuple ds => ds.drop 2
  | _ => []
/-- whether a shape fits at a tree, n levels deep -/
def fit : Nat → PyData → PyData → Bool
  | 0, _, _ => false
  | n + 1, s, t =>
    if (isS "store" (ixD s 0) || isS "store" (ixD t 0)) = true then decide (strOf (ixD s 0) = strOf (ixD t 0)) && fit n (ixD s 1) (ixD t 5)
    else if isS "hole" (ixD s 0) = true then true
    else if strOf (ixD s 0) ≠ strOf (ixD t 0) then false
    else if isS "load" (ixD s 0) = true then true
    else if strOf (ixD s 1) ≠ strOf (ixD t 1) ∨ lenD s ≠ lenD t then false
    else ((restD s).zip (restD t)).all fun p => fit n p.1 p.2
/-- what a shape is: its word, and what stands below -/
theorem ts_cases {n : Nat} {s : PyData} (h : isTs (n + 1) s = true) : (s = .tuple [.str "hole"] ∨ s = .tuple [.str "load"]) ∨ ∃ (x : Str) (ts : List PyData), s = .tuple (.str "op" :: .str x :: ts) ∧ ts.length ≤ 3 ∧ ∀ t ∈ ts, isTs n t = true := by
  obtain ⟨w, r, rfl⟩ := wks_tup (wks_ts _ _ h)
  rw [isTs_cons] at h
  split at h
  · rename_i c
    have : r = [] := List.isEmpty_iff.mp h
    subst this
    rcases Bool.or_eq_true_iff.mp c with c | c
    · cases isS_eq c; exact .inl (.inl rfl)
    · cases isS_eq c; exact .inl (.inr rfl)
  · split at h
    · rename_i c2
      cases isS_eq c2
      simp only [Bool.and_eq_true, decide_eq_true_eq, List.all_eq_true] at h
      obtain ⟨⟨h1, h2⟩, h3, h4⟩ := h
      cases r with
      | nil => simp at h1
      | cons nm ts =>
        have : ∃ x, nm = .str x := by
          have h3 : isNm nm = true := h3
          cases nm with
          | str x => exact ⟨x, rfl⟩
          | _ => cases h3
        obtain ⟨x, rfl⟩ := this
        refine .inr ⟨x, ts, rfl, ?_, fun t ht => h4 t ht⟩
        simp at h2
        exact h2
    · cases h
/-- what a tree is -/
theorem tr_cases {n : Nat} {t : PyData} (h : isTr (n + 1) t = true) : ∃ (w x : Str) (ts : List PyData), t = .tuple (.str w :: .str x :: ts) ∧ w ≠ "store" ∧ w ≠ "hole" ∧ (w = "op" → ts.length ≤ 3 ∧ ∀ t ∈ ts, isTr n t = true) := by
  obtain ⟨w, nm, ts, rfl⟩ := isTr_tup h
  have hs := isTr_sub h
  rw [isTr_cons] at h
  have nmx : isNm nm = true → ∃ x, nm = .str x := fun h3 => by
    cases nm with
    | str x => exact ⟨x, rfl⟩
    | _ => cases h3
  have e0 : subs (w :: nm :: ts) = if isS "op" w = true then ts else [] := rfl
  split at h
  · rename_i c
    rw [Bool.and_eq_true] at h
    obtain ⟨x, rfl⟩ := nmx h.1
    cases isS_eq c.2
    exact ⟨_, x, ts, rfl, by decide, by decide, fun z => absurd z (by decide)⟩
  · split at h
    · rename_i c
      rw [Bool.and_eq_true] at h
      obtain ⟨x, rfl⟩ := nmx h.1
      cases isS_eq c.2
      exact ⟨_, x, ts, rfl, by decide, by decide, fun z => absurd z (by decide)⟩
    · split at h
      · rename_i c
        rw [Bool.and_eq_true] at h
        obtain ⟨x, rfl⟩ := nmx h.1
        rw [e0, if_pos c] at hs
        cases isS_eq c
        exact ⟨_, x, ts, rfl, by decide, by decide, fun _ => hs⟩
      · cases h
theorem sS_cases {n : Nat} {s : PyData} (h : stS n s = true) : ∃ x, s = .tuple [.str "store", x] ∧ isTs n x = true := by
  unfold stS at h
  split at h
  · rename_i w x
    rw [Bool.and_eq_true] at h
    cases isS_eq h.1
    exact ⟨x, rfl, h.2⟩
  · cases h
theorem sT_cases {n : Nat} {s : PyData} (h : stT n s = true) : ∃ a b c d x, s = .tuple [.str "store", a, b, c, d, x] ∧ isTr n x = true := by
  unfold stT at h
  split at h
  · rename_i w a b c d x
    rw [Bool.and_eq_true] at h
    cases isS_eq h.1
    exact ⟨a, b, c, d, x, rfl, h.2⟩
  · cases h
theorem fOk_of {n : Nat} {s t : PyData} (h1 : isTs n s = true) (h2 : isTr n t = true) : fOk n s t = true := by
  unfold fOk
  rw [isTs_succ n s h1, isTr_succ n t h2]
  rfl
end Tr
set_option maxHeartbeats 4000000
/-! The words of shapes, and the paths in them; plain -/
namespace Tr
open PySem Lf
def wds : Nat → PyData → List Str
  | 0, _ => []
  | n + 1, d => if isS "store" (ixD d 0) = true then "=" :: wds n (ixD d 1) else if isS "hole" (ixD d 0) = true then ["_"] else if isS "load" (ixD d 0) = true then ["@"]
    else strOf (ixD d 1) :: "(" :: ((restD d).flatMap (fun t => wds n t) ++ [(")" : Str)])
def sOk (n : Nat) (d : PyData) : Bool := isTs (n + 1) d || stS n d
theorem wds_len : ∀ (n : Nat) (d : PyData), sOk (n - 1) d = true → (wds n d).length ≤ 4 ^ n := by
  intro n
  induction n with
  | zero => intro d _; exact Nat.zero_le _
  | succ n ih =>
    intro d h
    rw [Nat.add_sub_cancel] at h
    have p1 : 1 ≤ 4 ^ n := Nat.one_le_pow _ _ (by decide)
    have p2 : 4 ^ (n + 1) = 4 * 4 ^ n := by rw [Nat.pow_succ]; omega
    unfold sOk at h
    rcases Bool.or_eq_true_iff.mp h with h | h
    · rcases ts_cases h with (rfl | rfl) | ⟨x, ts, rfl, h3, hts⟩
      · show 1 ≤ _; omega
      · show 1 ≤ _; omega
      · show (x :: ("(" : Str) :: (ts.flatMap (fun t => wds n t) ++ [(")" : Str)])).length ≤ _
        have hb : ∀ (l : List PyData), (∀ t ∈ l, isTs n t = true) → (l.flatMap fun t => wds n t).length ≤ l.length * 4 ^ n := fun l => by
          induction l with
          | nil => intro _; exact Nat.zero_le _
          | cons b l ihl =>
            intro hl
            rw [List.flatMap_cons, List.length_append, List.length_cons, Nat.succ_mul]
            have hb := hl b (List.mem_cons_self ..)
            have : (wds n b).length ≤ 4 ^ n := ih b (by
              cases n with
              | zero => cases hb
              | succ n => unfold sOk; rw [Nat.add_sub_cancel, hb]; rfl)
            have := ihl fun t ht => hl t (List.mem_cons_of_mem _ ht)
            omega
        have h4 := hb ts hts
        have h5 : ts.length * 4 ^ n ≤ 3 * 4 ^ n := Nat.mul_le_mul_right _ h3
        cases n with
        | zero =>
          have : ts = [] := by
            cases ts with
            | nil => rfl
            | cons a l => have := hts a (List.mem_cons_self ..); cases this
          subst this
          show 3 ≤ 4
          decide
        | succ n =>
          have p3 : 4 ≤ 4 ^ (n + 1) := by rw [Nat.pow_succ]; have := Nat.one_le_pow n 4 (by decide); omega
          simp only [List.length_cons, List.length_append, List.length_nil]
          omega
    · obtain ⟨x, rfl, hx⟩ := sS_cases h
      show ((("=" : Str)) :: wds n x).length ≤ _
      have : (wds n x).length ≤ 4 ^ n := ih x (by
        cases n with
        | zero => cases hx
        | succ n => unfold sOk; rw [Nat.add_sub_cancel, hx]; rfl)
      rw [List.length_cons]
      omega
def pin : Nat → PyData → Str → List PyData → List PyData
  | n + 1, .tuple ds, w, p => (if isS w (ds.getD 0 .none) = true then [.tuple p] else []) ++ (List.range (bel ds).length).flatMap fun j => pin n ((bel ds).getD j .none) w (p ++ [.int (j : Nat)])
  | _, _, _, _ => []
def pinTo (n : Nat) (bs : List PyData) (w : Str) (p : List PyData) (i : Nat) : List PyData := (List.range i).flatMap fun j => pin n (bs.getD j .none) w (p ++ [.int (j : Nat)])
theorem pinTo_succ (n : Nat) (bs : List PyData) (w : Str) (p : List PyData) (i : Nat) : pinTo n bs w p (i + 1) = pinTo n bs w p i ++ pin n (bs.getD i .none) w (p ++ [.int (i : Nat)]) := by
  unfold pinTo
  rw [List.range_succ, List.flatMap_append]
  simp
theorem pin_len : ∀ (n : Nat) (d : PyData) (w : Str) (p : List PyData), wks n d = true → (pin n d w p).length ≤ 5 ^ n := by
  intro n
  induction n with
  | zero => intro d w p h; cases d <;> cases h
  | succ n ih =>
    intro d w p h
    obtain ⟨w0, r, rfl⟩ := wks_tup h
    obtain ⟨h4, hall⟩ := wks_cons h
    rw [pin, List.length_append]
    have hb : ∀ i, i ≤ (bel (w0 :: r)).length → (pinTo n (bel (w0 :: r)) w p i).length ≤ i * 5 ^ n := fun i => by
      induction i with
      | zero => intro _; exact Nat.zero_le _
      | succ i ihi =>
        intro hi
        rw [pinTo_succ, List.length_append, Nat.succ_mul]
        have hm : (bel (w0 :: r)).getD i .none ∈ bel (w0 :: r) := by rw [List.getD_eq_getElem?_getD, List.getElem?_eq_getElem (by omega)]; exact List.getElem_mem _
        have := ih _ w (p ++ [.int (i : Nat)]) (hall _ hm)
        have := ihi (by omega)
        omega
    have h5 : ((List.range (bel (w0 :: r)).length).flatMap fun j => pin n ((bel (w0 :: r)).getD j .none) w (p ++ [.int (j : Nat)])).length ≤ (bel (w0 :: r)).length * 5 ^ n := hb _ (Nat.le_refl _)
    have h6 : (bel (w0 :: r)).length * 5 ^ n ≤ 4 * 5 ^ n := Nat.mul_le_mul_right _ h4
    have p1 : 1 ≤ 5 ^ n := Nat.one_le_pow _ _ (by decide)
    have p2 : 5 ^ (n + 1) = 5 * 5 ^ n := by rw [Nat.pow_succ]; omega
    have h7 : (if isS w ((w0 :: r).getD 0 .none) = true then [PyData.tuple p] else []).length ≤ 1 := by split <;> simp
    omega
theorem pinTo_len {n : Nat} {bs : List PyData} (hall : ∀ t ∈ bs, wks n t = true) (w : Str) (p : List PyData) : ∀ i, i ≤ bs.length → (pinTo n bs w p i).length ≤ i * 5 ^ n := by
  intro i
  induction i with
  | zero => intro _; exact Nat.zero_le _
  | succ i ihi =>
    intro hi
    rw [pinTo_succ, List.length_append, Nat.succ_mul]
    have hm : bs.getD i .none ∈ bs := by rw [List.getD_eq_getElem?_getD, List.getElem?_eq_getElem (by omega)]; exact List.getElem_mem _
    have := pin_len n _ w (p ++ [.int (i : Nat)]) (hall _ hm)
    have := ihi (by omega)
    omega
end Tr
set_option maxHeartbeats 4000000
/-! Words read, plain: a stack of lists, the top first -/
namespace Tr
open PySem Lf
def putTop (d : PyData) : List (List PyData) → List (List PyData)
  | c :: cs => (c ++ [d]) :: cs
  | [] => []
def lastS (c : List PyData) : Option Str := match c.getLast? with
  | some (.str x) => some x
  | _ => none
theorem lastS_some {c : List PyData} {x : Str} (h : lastS c = some x) : c = c.dropLast ++ [.str x] := by
  unfold lastS at h
  split at h
  · rename_i y e
    cases h
    cases c with
    | nil => cases e
    | cons a l =>
      have e2 := List.getLast?_eq_some_getLast (l := a :: l) (by simp)
      rw [e2] at e
      have e3 := Option.some.inj e
      have := List.dropLast_concat_getLast (l := a :: l) (by simp)
      rw [e3] at this
      exact this.symm
  · cases h
def rdS (st : List (List PyData)) (w : Str) : Option (List (List PyData)) :=
  if w = "_" then some (putTop (.tuple [.str "hole"]) st)
  else if w = "@" then some (putTop (.tuple [.str "load"]) st)
  else if w = "(" then some ([] :: st)
  else if w = ")" then match st with
    | trees :: under :: rest => match lastS under with
      | some x => some ((under.dropLast ++ [.tuple (.str "op" :: .str x :: trees)]) :: rest)
      | none => none
    | _ => none
  else some (putTop (.str w) st)
def rdR (st : Option (List (List PyData))) (ws : List Str) : Option (List (List PyData)) := ws.foldl (fun st w => st.bind fun st => rdS st w) st
def rdW (ws : List Str) : PyData := match rdR (some [[]]) ws with
  | some [[x]] => x
  | _ => .none
theorem rdR_none (ws : List Str) : rdR none ws = none := by
  induction ws with
  | nil => rfl
  | cons w ws ih => exact ih
theorem rdR_take {ws : List Str} {i : Nat} {w : Str} (h : ws[i]? = some w) : rdR (some [[]]) (ws.take (i + 1)) = (rdR (some [[]]) (ws.take i)).bind fun st => rdS st w := by
  unfold rdR
  rw [take_da h, List.foldl_append]
  rfl
end Tr
set_option maxHeartbeats 4000000
/-! Lists of texts: equal, fit to be compared; plain -/
namespace Tr
open PySem Lf
theorem eqv_strs : ∀ (A B : List Str), PyData.eqvAll (A.map PyData.str) (B.map PyData.str) = decide (A = B)
  | [], [] => by rw [decide_eq_true rfl]; rfl
  | [], b :: B => by rw [decide_eq_false (by simp)]; rfl
  | a :: A, [] => by rw [decide_eq_false (by simp)]; rfl
  | a :: A, b :: B => by
    rw [List.map_cons, List.map_cons, PyData.eqvAll, PyData.eqv, eqv_strs A B]
    by_cases c : a = b
    · subst c
      rw [beq_self_eq_true, Bool.true_and, decide_eq_decide]
      simp
    · rw [beq_eq_false_iff_ne.mpr c, Bool.false_and, decide_eq_false (fun z => c (by cases z; rfl))]
theorem flat_strs : ∀ (A : List Str), flatDs (A.map PyData.str) = true
  | [] => rfl
  | a :: A => by rw [List.map_cons, flatDs, flat_strs A]; rfl
theorem lay_strs : ∀ (A : List Str), (∀ x ∈ A, PyData.strOk x = true) → PyData.canLayAll0 (A.map PyData.str) = true
  | [], _ => rfl
  | a :: A, h => by
    rw [List.map_cons, PyData.canLayAll0, lay_strs A fun x hx => h x (List.mem_cons_of_mem _ hx), PyData.canLay0, h a (List.mem_cons_self ..)]
    rfl
theorem deep_strs : ∀ (A : List Str), PyData.depthAll (A.map PyData.str) ≤ 1
  | [] => by simp [PyData.depthAll]
  | a :: A => by
    have := deep_strs A
    rw [List.map_cons]
    simp only [PyData.depthAll, PyData.depth]
    omega
theorem shaped_strs {A : List Str} (h : ∀ x ∈ A, PyData.strOk x = true) : SeqAt.shaped (.list (A.map PyData.str)) = true := by
  unfold SeqAt.shaped
  rw [Bool.and_eq_true]
  refine ⟨by rw [PyData.canLay0]; exact lay_strs A h, decide_eq_true ?_⟩
  have := deep_strs A
  simp only [PyData.depth]
  omega
theorem strOk_nm {x : Str} (h : isNm (.str x) = true) : PyData.strOk x = true := by
  have h : (decide (1 ≤ x.length) && decide (x.length ≤ 8) && lets x) = true := h
  rw [Bool.and_eq_true] at h
  have h2 := h.2
  unfold lets at h2
  unfold PyData.strOk
  rw [Array.all_eq_true']
  intro c hc
  rw [List.all_eq_true] at h2
  have := h2 c (by simpa using hc)
  rw [mem_letters] at this
  unfold inz at this
  simp at this
  simp
  omega
theorem ts_name {n : Nat} {x : Str} {ts : List PyData} (h : isTs (n + 1) (.tuple (.str "op" :: .str x :: ts)) = true) : isNm (.str x) = true := by
  rw [isTs_cons, if_neg (by decide), if_pos (by decide)] at h
  simp only [Bool.and_eq_true] at h
  exact h.2.1
theorem wds_ok : ∀ (n : Nat) (d : PyData), sOk (n - 1) d = true → ∀ x ∈ wds n d, PyData.strOk x = true := by
  intro n
  induction n with
  | zero => intro d _ x hx; cases hx
  | succ n ih =>
    intro d h
    rw [Nat.add_sub_cancel] at h
    have below : ∀ t, isTs n t = true → sOk (n - 1) t = true := fun t h => by
      cases n with
      | zero => cases h
      | succ n => unfold sOk; rw [Nat.add_sub_cancel, h]; rfl
    unfold sOk at h
    rcases Bool.or_eq_true_iff.mp h with h | h
    · rcases ts_cases h with (rfl | rfl) | ⟨x, ts, rfl, h3, hts⟩
      · intro y hy; cases List.mem_singleton.mp hy; decide +kernel
      · intro y hy; cases List.mem_singleton.mp hy; decide +kernel
      · intro y hy
        have hy : y ∈ x :: ("(" : Str) :: (ts.flatMap (fun t => wds n t) ++ [(")" : Str)]) := hy
        rcases List.mem_cons.mp hy with rfl | hy
        · exact strOk_nm (ts_name h)
        · rcases List.mem_cons.mp hy with rfl | hy
          · decide +kernel
          · rcases List.mem_append.mp hy with hy | hy
            · obtain ⟨t, ht, hyt⟩ := List.mem_flatMap.mp hy
              exact ih t (below t (hts t ht)) y hyt
            · cases List.mem_singleton.mp hy; decide +kernel
    · obtain ⟨x, rfl, hx⟩ := sS_cases h
      intro y hy
      have hy : y ∈ ("=" : Str) :: wds n x := hy
      rcases List.mem_cons.mp hy with rfl | hy
      · decide +kernel
      · exact ih x (below x hx) y hy
def isEq (ws : List Str) : Bool := decide (ws.head? = some "=")
/-- the shape that words tell, or None -/
def shO (ws : List Str) : PyData :=
  if 60 < ws.length then .none
  else
    let f := rdW (if isEq ws = true then ws.drop 1 else ws)
    let s := if isEq ws = true then .tuple [.str "store", f] else f
    if (isSh s && decide (wds 6 s = ws)) = true then s else .none
end Tr
set_option maxHeartbeats 4000000
/-! A tree's working nodes with what stands there, and its "at" trees; plain -/
namespace Tr
open PySem Lf
def ops : Nat → PyData → Str → List (Str × PyData)
  | n + 1, .tuple ds, op => if isS "at" (ds.getD 0 .none) = true then [] else (op, .tuple ds) :: (List.range (subs ds).length).flatMap fun j => ops n ((subs ds).getD j .none) (kO op j)
  | _, _, _ => []
theorem flatMap_eq {α β : Type} (l : List α) {f g : α → List β} (h : ∀ a ∈ l, f a = g a) : l.flatMap f = l.flatMap g := by
  induction l with
  | nil => rfl
  | cons a l ih => rw [List.flatMap_cons, List.flatMap_cons, h a (List.mem_cons_self ..), ih fun b hb => h b (List.mem_cons_of_mem _ hb)]
theorem ops_keys : ∀ (n : Nat) (d : PyData) (op : Str), (ops n d op).map Prod.fst = keysN n d op := by
  intro n
  induction n with
  | zero => intro d op; cases d <;> rfl
  | succ n ih =>
    intro d op
    cases d with
    | tuple ds =>
      rw [ops, keysN]
      split
      · rfl
      · rw [List.map_cons, List.map_flatMap]
        congr 1
        apply flatMap_eq
        intro j _
        exact ih _ _
    | _ => rfl
def opsTo (n : Nat) (d : PyData) (ts : List PyData) (op : Str) (i : Nat) : List (Str × PyData) := (op, d) :: (List.range i).flatMap fun j => ops n (ts.getD j .none) (kO op j)
theorem opsTo_succ (n : Nat) (d : PyData) (ts : List PyData) (op : Str) (i : Nat) : opsTo n d ts op (i + 1) = opsTo n d ts op i ++ ops n (ts.getD i .none) (kO op i) := by
  unfold opsTo
  rw [List.range_succ, List.flatMap_append]
  simp
theorem opsTo_keys (n : Nat) (d : PyData) (ts : List PyData) (op : Str) (i : Nat) : (opsTo n d ts op i).map Prod.fst = keysTo n ts op i := by
  unfold opsTo keysTo
  rw [List.map_cons, List.map_flatMap]
  congr 1
  apply flatMap_eq
  intro j _
  exact ops_keys _ _ _
theorem keysTo_nodup {n : Nat} {ts : List PyData} {op : Str} (h3 : ts.length ≤ 3) (hall : ∀ t ∈ ts, isTr n t = true) : ∀ i, i ≤ ts.length → (keysTo n ts op i).Nodup := by
  intro i
  induction i with
  | zero => intro _; simp [keysTo]
  | succ i ih =>
    intro hi
    rw [keysTo_succ]
    refine List.nodup_append.mpr ⟨ih (by omega), keys_nodup n _ _ (hall _ (getD_mem (by omega))), fun a ha b hb e => ?_⟩
    subst e
    exact keys_apart (by omega) ha hb
/-- rows of texts and data as a dict's -/
def rowsD (l : List (Str × PyData)) : List (PyData × PyData) := l.map fun p => (.str p.1, p.2)
theorem rowsD_app (a b : List (Str × PyData)) : rowsD (a ++ b) = rowsD a ++ rowsD b := List.map_append
theorem rowsD_keys (l : List (Str × PyData)) : (rowsD l).map Prod.fst = (l.map Prod.fst).map PyData.str := by
  unfold rowsD
  rw [List.map_map, List.map_map]
  rfl
theorem nodup_strs {l : List Str} (h : l.Nodup) : (l.map PyData.str).Nodup := List.Pairwise.map _ (fun a b hab z => hab (by cases z; rfl)) h
theorem rowsD_nodup {l : List (Str × PyData)} (h : (l.map Prod.fst).Nodup) : ((rowsD l).map Prod.fst).Nodup := by
  rw [rowsD_keys]
  exact nodup_strs h
theorem rowsD_len (l : List (Str × PyData)) : (rowsD l).length = l.length := List.length_map _
/-- the "at" trees -/
def ats : Nat → PyData → List PyData
  | n + 1, .tuple ds => if isS "at" (ds.getD 0 .none) = true then [.tuple ds] else (subs ds).flatMap fun t => ats n t
  | _, _ => []
theorem ats_le : ∀ (n : Nat) (d : PyData), isTr n d = true → (ats n d).length ≤ 4 ^ n := by
  intro n
  induction n with
  | zero => intro d h; exact Nat.zero_le _
  | succ n ih =>
    intro d h
    obtain ⟨w, nm, ts, rfl⟩ := isTr_tup h
    obtain ⟨h3, hall⟩ := isTr_sub h
    rw [ats]
    have p1 : 1 ≤ 4 ^ n := Nat.one_le_pow _ _ (by decide)
    have p2 : 4 ^ (n + 1) = 4 * 4 ^ n := by rw [Nat.pow_succ]; omega
    split
    · show 1 ≤ _; omega
    · have go : ∀ (l : List PyData), (∀ t ∈ l, isTr n t = true) → (l.flatMap fun t => ats n t).length ≤ l.length * 4 ^ n := by
        intro l
        induction l with
        | nil => intro _; exact Nat.zero_le _
        | cons a l ihl =>
          intro hl
          rw [List.flatMap_cons, List.length_append, List.length_cons, Nat.succ_mul]
          have := ih a (hl a (List.mem_cons_self ..))
          have := ihl fun t ht => hl t (List.mem_cons_of_mem _ ht)
          omega
      have := go _ hall
      have : (subs (w :: nm :: ts)).length * 4 ^ n ≤ 3 * 4 ^ n := Nat.mul_le_mul_right _ h3
      omega
/-- the tree of a statement, its name, what its nodes are -/
def stTree : PyData → PyData
  | .tuple ds => ds.getD (ds.length - 1) .none
  | _ => .none
def stName : PyData → Str
  | .tuple ds => match ds.getD 1 .none with
    | .str x => x
    | _ => Str.empty
  | _ => Str.empty
def nm0 (x : Str) : Str := (Str.empty ++ x) ++ Str.ofString ".0"
def isSet (s : PyData) : Bool := isS "set" (hd0 s)
theorem isSet_set (x : Str) (t : PyData) : isSet (.tuple [.str "set", .str x, t]) = true := by show isS "set" (.str "set") = true; decide +kernel
theorem isSet_store (x a : Str) (p q : Int) (t : PyData) : ¬ isSet (.tuple [.str "store", .str x, .str a, .int p, .int q, t]) = true := by show ¬ isS "set" (.str "store") = true; decide +kernel
def opsS (s : PyData) : List (Str × PyData) := if isSet s = true then ops 4 (stTree s) (stName s) else (stName s, s) :: ops 4 (stTree s) (nm0 (stName s))
theorem nm0_kO (x : Str) : nm0 x = kO x 0 := by
  unfold nm0 kO
  apply Str.ext'
  apply Array.toList_inj.mp
  rw [app_cps, app_cps, app_cps, app_cps, app_cps]
  have e : (Str.ofString ".0").cps.toList = (Str.ofString ".").cps.toList ++ (Str.ofString (toString ((0 : Nat) : Int))).cps.toList := by decide +kernel
  rw [e, List.append_assoc, List.append_assoc, List.append_assoc]
/-- what a statement is -/
theorem st_cases {s : PyData} (h : isSt s = true) : (∃ (x : Str) (t : PyData), s = .tuple [.str "set", .str x, t] ∧ isNm (.str x) = true ∧ isTr 4 t = true ∧ isS "at" (hd0 t) = false) ∨
    ∃ (x a : Str) (p q : Int) (t : PyData), s = .tuple [.str "store", .str x, .str a, .int p, .int q, t] ∧ isNm (.str x) = true ∧ isNm (.str a) = true ∧ isIn (.int p) = true ∧ isIn (.int q) = true ∧ p ≠ 0 ∧ isTr 4 t = true := by
  have str : ∀ {d : PyData}, isNm d = true → ∃ x, d = .str x := fun {d} h => by
    cases d with
    | str x => exact ⟨x, rfl⟩
    | _ => cases h
  cases s with
  | tuple ds =>
    unfold isSt at h
    dsimp only at h
    split at h
    · rename_i c
      match ds, c.1 with
      | [a, b, t], _ =>
        have c2 : isS "set" a = true := c.2
        have h : (isNm b && (isTr 4 t && !isS "at" (hd0 t))) = true := h
        simp only [Bool.and_eq_true, Bool.not_eq_true'] at h
        obtain ⟨h1, h2, h3⟩ := h
        obtain ⟨x, rfl⟩ := str h1
        cases isS_eq c2
        exact .inl ⟨x, t, rfl, h1, h2, h3⟩
    · split at h
      · rename_i c
        match ds, c.1 with
        | [a, b, e, p, q, t], _ =>
          have c2 : isS "store" a = true := c.2
          have h : (isNm b && (isNm e && (isIn p && (isIn q && (!isZ p && isTr 4 t))))) = true := h
          simp only [Bool.and_eq_true, Bool.not_eq_true'] at h
          obtain ⟨h1, h2, h3, h4, h5, h6⟩ := h
          obtain ⟨x, rfl⟩ := str h1
          obtain ⟨y, rfl⟩ := str h2
          obtain ⟨i, rfl⟩ := isIn_int h3
          obtain ⟨j, rfl⟩ := isIn_int h4
          cases isS_eq c2
          refine .inr ⟨x, y, i, j, t, rfl, h1, h2, h3, h4, fun z => ?_, h6⟩
          rw [z] at h5
          exact absurd h5 (by decide)
      · cases h
  | _ => cases h
theorem nm_le {x : Str} (h : isNm (.str x) = true) : x.length ≤ 8 := by
  have h : (decide (1 ≤ x.length) && decide (x.length ≤ 8) && lets x) = true := h
  simp only [Bool.and_eq_true, decide_eq_true_eq] at h
  exact h.1.2
theorem ops_le {n : Nat} {d : PyData} (op : Str) (h : isTr n d = true) : (ops n d op).length ≤ 4 ^ n := by
  have := congrArg List.length (ops_keys n d op)
  rw [List.length_map] at this
  rw [this]
  exact keys_le n d op h
theorem ops_nodup {n : Nat} {d : PyData} (op : Str) (h : isTr n d = true) : ((ops n d op).map Prod.fst).Nodup := by
  rw [ops_keys]
  exact keys_nodup n d op h
theorem opsS_keys (s : PyData) : (opsS s).map Prod.fst = if isSet s = true then keysN 4 (stTree s) (stName s) else stName s :: keysN 4 (stTree s) (nm0 (stName s)) := by
  unfold opsS
  split
  · exact ops_keys _ _ _
  · rw [List.map_cons, ops_keys]
theorem opsS_goes {s : PyData} {k : Str} (h : k ∈ (opsS s).map Prod.fst) : Goes (stName s) k := by
  rw [opsS_keys] at h
  split at h
  · exact keys_goes _ _ _ _ h
  · rcases List.mem_cons.mp h with rfl | h
    · exact goes_refl _
    · have := keys_goes _ _ _ _ h
      rw [nm0_kO] at this
      exact goes_kO this
theorem opsS_nodup {s : PyData} (h : isSt s = true) : ((opsS s).map Prod.fst).Nodup := by
  rw [opsS_keys]
  rcases st_cases h with ⟨x, t, rfl, h1, h2, h3⟩ | ⟨x, a, p, q, t, rfl, h1, h2, h3, h4, h5, h6⟩
  · rw [if_pos (isSet_set x t)]
    exact keys_nodup 4 t x h2
  · rw [if_neg (isSet_store x a p q t), List.nodup_cons]
    refine ⟨fun z => ?_, keys_nodup 4 t _ h6⟩
    have := keys_goes _ _ _ _ z
    rw [nm0_kO] at this
    exact goes_long this rfl
theorem opsS_le {s : PyData} (h : isSt s = true) : (opsS s).length ≤ 257 := by
  have e : (4 : Nat) ^ 4 = 256 := by decide
  rcases st_cases h with ⟨x, t, rfl, h1, h2, h3⟩ | ⟨x, a, p, q, t, rfl, h1, h2, h3, h4, h5, h6⟩
  · unfold opsS
    rw [if_pos (isSet_set x t)]
    have := ops_le (n := 4) (d := t) x h2
    show (ops 4 t x).length ≤ _
    omega
  · unfold opsS
    rw [if_neg (isSet_store x a p q t), List.length_cons]
    have := ops_le (n := 4) (d := t) (nm0 x) h6
    show (ops 4 t (nm0 x)).length + 1 ≤ _
    omega
/-- names without a point go apart -/
theorem goes_one {x y s : Str} (hx : isNm (.str x) = true) (hy : isNm (.str y) = true) (h : Goes x s) (h' : Goes y s) : x = y := by
  have letx : ∀ {z : Str}, isNm (.str z) = true → ∀ c ∈ z.cps.toList, c ≠ 46 := fun {z} hz c hc e => by
    have hz : (decide (1 ≤ z.length) && decide (z.length ≤ 8) && lets z) = true := hz
    rw [Bool.and_eq_true] at hz
    have h2 := hz.2
    unfold lets at h2
    rw [List.all_eq_true] at h2
    have := h2 c hc
    rw [mem_letters] at this
    unfold inz at this
    rw [e] at this
    revert this
    decide
  obtain ⟨r, e, hr⟩ := h
  obtain ⟨r', e', hr'⟩ := h'
  rw [e] at e'
  have key : ∀ (a b r r' : List Nat), (∀ c ∈ a, c ≠ 46) → (∀ c ∈ b, c ≠ 46) → (r = [] ∨ ∃ q, r = 46 :: q) → (r' = [] ∨ ∃ q, r' = 46 :: q) → a ++ r = b ++ r' → a = b := by
    intro a
    induction a with
    | nil =>
      intro b r r' _ hb hr hr' e
      cases b with
      | nil => rfl
      | cons c b =>
        rcases hr with rfl | ⟨q, rfl⟩
        · cases e
        · cases e
          exact absurd rfl (hb _ (List.mem_cons_self ..))
    | cons c a ih =>
      intro b r r' ha hb hr hr' e
      cases b with
      | nil =>
        rcases hr' with rfl | ⟨q, rfl⟩
        · cases e
        · cases e
          exact absurd rfl (ha _ (List.mem_cons_self ..))
      | cons c' b =>
        have e1 := List.cons.inj e
        rw [e1.1, ih b r r' (fun c h => ha c (List.mem_cons_of_mem _ h)) (fun c h => hb c (List.mem_cons_of_mem _ h)) hr hr' e1.2]
  have z := key _ _ r r' (letx hx) (letx hy) hr hr' e'
  exact Str.ext' (Array.toList_inj.mp z)
end Tr
set_option maxHeartbeats 1000000
/-! Lines of pairs of rounds: the mathematics of meetings, without the program -/
namespace Mt
/-! ### the combination: g = one * x + other * y -/
/-- a state of the loop: what holds of (r0, x0, y0), (r1, x1, y1) -/
structure CombI (a b : Int) (r0 x0 y0 r1 x1 y1 : Int) : Prop where
  h0 : a * x0 + b * y0 = r0
  h1 : a * x1 + b * y1 = r1
  da : ∃ u v : Int, a = u * r0 + v * r1
  db : ∃ u v : Int, b = u * r0 + v * r1
theorem CombI.start (a b : Int) : CombI a b a 1 0 b 0 1 := ⟨by omega, by omega, ⟨1, 0, by omega⟩, ⟨0, 1, by omega⟩⟩
theorem CombI.step {a b r0 x0 y0 r1 x1 y1 m : Int} (h : CombI a b r0 x0 y0 r1 x1 y1) : CombI a b r1 x1 y1 (r0 - m * r1) (x0 - m * x1) (y0 - m * y1) := by
  obtain ⟨h0, h1, ⟨u, v, ea⟩, ⟨u', v', eb⟩⟩ := h
  refine ⟨h1, ?_, ⟨u * m + v, u, ?_⟩, ⟨u' * m + v', u', ?_⟩⟩
  · rw [Int.mul_sub, Int.mul_sub, ← h0, ← h1, Int.mul_add]
    have e1 : a * (m * x1) = m * (a * x1) := Int.mul_left_comm _ _ _
    have e2 : b * (m * y1) = m * (b * y1) := Int.mul_left_comm _ _ _
    rw [e1, e2]
    omega
  · rw [Int.add_mul, Int.mul_sub, ← Int.mul_assoc]
    omega
  · rw [Int.add_mul, Int.mul_sub, ← Int.mul_assoc]
    omega
/-- how great the parts may be: |r0| * |x1| + |r1| * |x0| stays below a bound -/
def Sz (C : Nat) (r0 x0 r1 x1 : Int) : Prop := r0.natAbs * x1.natAbs + r1.natAbs * x0.natAbs ≤ C
/-- the signs are alike (or r1 is 0), as they are behind the first turn -/
def Like (r0 r1 : Int) : Prop := (0 ≤ r0 ∧ 0 ≤ r1) ∨ (r0 ≤ 0 ∧ r1 ≤ 0)
theorem fm_pos {r1 : Int} (r0 : Int) (h : 0 < r1) : 0 ≤ r0.fmod r1 ∧ r0.fmod r1 < r1 := by
  rw [Int.fmod_eq_emod_of_nonneg _ (by omega)]
  exact ⟨Int.emod_nonneg _ (by omega), Int.emod_lt_of_pos _ h⟩
theorem like_step {r0 r1 : Int} (h : r1 ≠ 0) : Like r1 (r0 - r0.fdiv r1 * r1) ∧ (r0 - r0.fdiv r1 * r1).natAbs < r1.natAbs := by
  have e : r0 - r0.fdiv r1 * r1 = r0.fmod r1 := by
    have := Int.fmod_add_mul_fdiv r0 r1
    rw [Int.mul_comm] at this
    omega
  rw [e]
  by_cases hp : 0 < r1
  · obtain ⟨h1, h2⟩ := fm_pos r0 hp
    exact ⟨.inl ⟨by omega, h1⟩, by omega⟩
  · have hn : r1 < 0 := by omega
    have e2 : r0.fmod r1 = -((-r0).fmod (-r1)) := by
      have := Int.neg_fmod_neg r0 r1
      omega
    obtain ⟨h1, h2⟩ := fm_pos (-r0) (show (0 : Int) < -r1 by omega)
    rw [e2]
    exact ⟨.inr ⟨by omega, by omega⟩, by omega⟩
theorem sz_step {C : Nat} {r0 x0 r1 x1 : Int} (h : r1 ≠ 0) (hl : Like r0 r1) (s : Sz C r0 x0 r1 x1) : Sz C r1 x1 (r0 - r0.fdiv r1 * r1) (x0 - r0.fdiv r1 * x1) := by
  have e : (r0.fdiv r1).natAbs * r1.natAbs + (r0 - r0.fdiv r1 * r1).natAbs = r0.natAbs := by
    have e0 : r0 - r0.fdiv r1 * r1 = r0.fmod r1 := by
      have := Int.fmod_add_mul_fdiv r0 r1
      rw [Int.mul_comm] at this
      omega
    rw [e0]
    rcases hl with ⟨p, q⟩ | ⟨p, q⟩
    · have hp : 0 < r1 := by omega
      rw [Int.fdiv_eq_ediv_of_nonneg _ q, Int.fmod_eq_emod_of_nonneg _ q]
      have a1 := Int.ediv_nonneg p q
      have a2 := Int.emod_nonneg r0 h
      have a3 := Int.mul_ediv_add_emod r0 r1
      have a4 : 0 ≤ (r0 / r1) * r1 := Int.mul_nonneg a1 q
      rw [← Int.natAbs_mul, ← Int.natAbs_add_of_nonneg a4 a2, Int.mul_comm (r0 / r1) r1, a3]
    · have hp : 0 < -r1 := by omega
      have f1 : r0.fdiv r1 = (-r0) / (-r1) := by
        rw [← Int.fdiv_eq_ediv_of_nonneg _ (by omega), Int.neg_fdiv_neg]
      have f2 : r0.fmod r1 = -((-r0) % (-r1)) := by
        have := Int.neg_fmod_neg r0 r1
        rw [← Int.fmod_eq_emod_of_nonneg _ (show (0 : Int) ≤ -r1 by omega)]
        omega
      rw [f1, f2]
      have a1 := Int.ediv_nonneg (show (0 : Int) ≤ -r0 by omega) (show (0 : Int) ≤ -r1 by omega)
      have a2 := Int.emod_nonneg (-r0) (show -r1 ≠ 0 by omega)
      have a3 := Int.mul_ediv_add_emod (-r0) (-r1)
      have a4 : 0 ≤ ((-r0) / (-r1)) * (-r1) := Int.mul_nonneg a1 (by omega)
      have b1 : r1.natAbs = (-r1).natAbs := (Int.natAbs_neg r1).symm
      have b2 : (-((-r0) % (-r1))).natAbs = ((-r0) % (-r1)).natAbs := Int.natAbs_neg _
      rw [b1, b2, ← Int.natAbs_mul, ← Int.natAbs_add_of_nonneg a4 a2, Int.mul_comm ((-r0) / (-r1)) (-r1), a3, Int.natAbs_neg]
  unfold Sz at s ⊢
  have t : (x0 - r0.fdiv r1 * x1).natAbs ≤ x0.natAbs + (r0.fdiv r1).natAbs * x1.natAbs := by
    have := Int.natAbs_sub_le x0 (r0.fdiv r1 * x1)
    rw [Int.natAbs_mul] at this
    exact this
  have u : r1.natAbs * (x0 - r0.fdiv r1 * x1).natAbs ≤ r1.natAbs * (x0.natAbs + (r0.fdiv r1).natAbs * x1.natAbs) := Nat.mul_le_mul_left _ t
  have v : r1.natAbs * (x0.natAbs + (r0.fdiv r1).natAbs * x1.natAbs) + (r0 - r0.fdiv r1 * r1).natAbs * x1.natAbs = r0.natAbs * x1.natAbs + r1.natAbs * x0.natAbs := by
    rw [← e, Nat.mul_add, Nat.add_mul]
    have : r1.natAbs * ((r0.fdiv r1).natAbs * x1.natAbs) = (r0.fdiv r1).natAbs * r1.natAbs * x1.natAbs := by rw [Nat.mul_left_comm, Nat.mul_assoc]
    omega
  omega
theorem sz_part {C : Nat} {r0 x0 r1 x1 : Int} (h : r0 ≠ 0) (s : Sz C r0 x0 r1 x1) : x1.natAbs ≤ C := by
  unfold Sz at s
  have h1 : 1 * x1.natAbs ≤ r0.natAbs * x1.natAbs := Nat.mul_le_mul_right _ (by omega)
  omega
/-! ### what the loop leaves: the greatest common divisor with its parts -/
structure Comb (a b g x y : Int) : Prop where
  ez : a * x + b * y = g
  nn : 0 ≤ g
  da : ∃ u, a = u * g
  db : ∃ u, b = u * g
theorem Comb.of {a b g x y x1 y1 : Int} (h : CombI a b g x y 0 x1 y1) (hg : 0 ≤ g) : Comb a b g x y := by
  obtain ⟨h0, _, ⟨u, v, ea⟩, ⟨u', v', eb⟩⟩ := h
  exact ⟨h0, hg, ⟨u, by omega⟩, ⟨u', by omega⟩⟩
theorem Comb.neg {a b g x y x1 y1 : Int} (h : CombI a b g x y 0 x1 y1) (hg : g < 0) : Comb a b (-g) (-x) (-y) := by
  obtain ⟨h0, _, ⟨u, v, ea⟩, ⟨u', v', eb⟩⟩ := h
  refine ⟨?_, by omega, ⟨-u, ?_⟩, ⟨-u', ?_⟩⟩
  · rw [Int.mul_neg, Int.mul_neg]; omega
  · rw [Int.neg_mul_neg]; omega
  · rw [Int.neg_mul_neg]; omega
theorem Comb.pos {a b g x y : Int} (h : Comb a b g x y) (hab : ¬ (a = 0 ∧ b = 0)) : 0 < g := by
  obtain ⟨_, nn, ⟨u, ea⟩, ⟨v, eb⟩⟩ := h
  rcases Int.lt_or_eq_of_le nn with h | h
  · exact h
  · subst h
    exact absurd ⟨by omega, by omega⟩ hab
theorem Comb.gcd {a b g x y : Int} (h : Comb a b g x y) : g = (Int.gcd a b : Int) := by
  obtain ⟨ez, nn, ⟨u, ea⟩, ⟨v, eb⟩⟩ := h
  have d1 : g ∣ (Int.gcd a b : Int) := Int.dvd_coe_gcd ⟨u, by rw [Int.mul_comm]; exact ea⟩ ⟨v, by rw [Int.mul_comm]; exact eb⟩
  have d2 : (Int.gcd a b : Int) ∣ g := by
    rw [← ez]
    exact Int.dvd_add (Int.dvd_mul_of_dvd_left (Int.gcd_dvd_left ..)) (Int.dvd_mul_of_dvd_left (Int.gcd_dvd_right ..))
  exact Int.dvd_antisymm nn (Int.natCast_nonneg _) d1 d2
/-! ### the line: all pairs (r, s) with p0 * r + p1 = o0 * s + o1 -/
def meets (p o q : Int × Int) : Prop := p.1 * q.1 + p.2 = o.1 * q.2 + o.2
instance (p o q : Int × Int) : Decidable (meets p o q) := by unfold meets; infer_instance
def after (q st : Int × Int) (t : Int) : Int × Int := (q.1 + st.1 * t, q.2 + st.2 * t)
structure Line (p o q0 st : Int × Int) : Prop where
  on : meets p o q0
  st1 : ∃ g, 0 < g ∧ p.1 = st.2 * g ∧ o.1 = st.1 * g
  bz : ∃ x y : Int, st.2 * x + st.1 * y = 1
theorem Line.ne {p o q0 st : Int × Int} (L : Line p o q0 st) : ¬ (st.1 = 0 ∧ st.2 = 0) := fun ⟨h1, h2⟩ => by
  obtain ⟨x, y, e⟩ := L.bz
  rw [h1, h2] at e
  omega
theorem Line.at {p o q0 st : Int × Int} (L : Line p o q0 st) (t : Int) : meets p o (after q0 st t) := by
  obtain ⟨on, ⟨g, _, e1, e2⟩, _⟩ := L
  unfold meets after at *
  dsimp only
  rw [Int.mul_add, Int.mul_add]
  have : p.1 * (st.1 * t) = o.1 * (st.2 * t) := by
    rw [e1, e2]
    rw [Int.mul_assoc, Int.mul_assoc, Int.mul_left_comm g st.1 t, Int.mul_left_comm g st.2 t, Int.mul_left_comm]
  omega
theorem Line.all {p o q0 st q : Int × Int} (L : Line p o q0 st) (h : meets p o q) : ∃ t, q = after q0 st t := by
  obtain ⟨on, ⟨g, g0, e1, e2⟩, ⟨x, y, ez⟩⟩ := L
  have e3 : st.2 * (q.1 - q0.1) = st.1 * (q.2 - q0.2) := by
    unfold meets at on h
    have a1 : p.1 * (q.1 - q0.1) = o.1 * (q.2 - q0.2) := by rw [Int.mul_sub, Int.mul_sub]; omega
    rw [e1, e2, Int.mul_right_comm, Int.mul_right_comm st.1] at a1
    exact Int.eq_of_mul_eq_mul_right (by omega) a1
  obtain ⟨dr, hr⟩ : ∃ dr, dr = q.1 - q0.1 := ⟨_, rfl⟩
  obtain ⟨ds, hs⟩ : ∃ ds, ds = q.2 - q0.2 := ⟨_, rfl⟩
  rw [← hr, ← hs] at e3
  refine ⟨y * dr + x * ds, ?_⟩
  have f1 : st.1 * (y * dr + x * ds) = dr := by
    have : st.1 * (x * ds) = x * (st.2 * dr) := by rw [e3, Int.mul_left_comm]
    rw [Int.mul_add, this]
    have k : st.1 * (y * dr) + x * (st.2 * dr) = (st.2 * x + st.1 * y) * dr := by
      rw [Int.add_mul, ← Int.mul_assoc, ← Int.mul_assoc, Int.mul_comm x st.2]
      omega
    rw [k, ez]
    omega
  have f2 : st.2 * (y * dr + x * ds) = ds := by
    have : st.2 * (y * dr) = y * (st.1 * ds) := by rw [← e3, Int.mul_left_comm]
    rw [Int.mul_add, this]
    have k : y * (st.1 * ds) + st.2 * (x * ds) = (st.2 * x + st.1 * y) * ds := by
      rw [Int.add_mul, ← Int.mul_assoc, ← Int.mul_assoc, Int.mul_comm y st.1]
      omega
    rw [k, ez]
    omega
  unfold after
  rw [f1, f2, hr, hs]
  ext <;> dsimp only <;> omega
/-- the line that a combination makes -/
theorem line_of {p o : Int × Int} {g x y m : Int} (c : Comb p.1 o.1 g x y) (g0 : 0 < g) (hm : o.2 - p.2 = g * m) : Line p o (x * m, -y * m) (o.1 / g, p.1 / g) := by
  obtain ⟨ez, nn, ⟨u, ea⟩, ⟨v, eb⟩⟩ := c
  have hu : p.1 / g = u := by rw [ea, Int.mul_ediv_cancel _ (by omega)]
  have hv : o.1 / g = v := by rw [eb, Int.mul_ediv_cancel _ (by omega)]
  refine ⟨?_, ⟨g, g0, by dsimp only; rw [hu]; exact ea, by dsimp only; rw [hv]; exact eb⟩, ⟨x, y, ?_⟩⟩
  · unfold meets
    dsimp only
    have : p.1 * (x * m) - o.1 * (-y * m) = g * m := by
      rw [← ez, Int.add_mul, Int.neg_mul, Int.mul_neg, Int.mul_assoc, Int.mul_assoc]
      omega
    omega
  · dsimp only
    rw [hu, hv]
    have e : (u * x + v * y) * g = 1 * g := by
      rw [Int.one_mul]
      conv => rhs; rw [← ez]
      rw [ea, eb, Int.add_mul, Int.mul_right_comm u x g, Int.mul_right_comm v y g]
    exact Int.eq_of_mul_eq_mul_right (by omega) e
theorem no_line {p o q : Int × Int} {g x y : Int} (c : Comb p.1 o.1 g x y) (h : ¬ (o.2 - p.2) % g = 0) : ¬ meets p o q := fun e => by
  obtain ⟨_, nn, ⟨u, ea⟩, ⟨v, eb⟩⟩ := c
  apply h
  unfold meets at e
  have : o.2 - p.2 = g * (u * q.1 - v * q.2) := by
    rw [Int.mul_sub, ← Int.mul_assoc, ← Int.mul_assoc, Int.mul_comm g u, Int.mul_comm g v, ← ea, ← eb]
    omega
  rw [this]
  exact Int.mul_emod_right _ _
end Mt
set_option maxHeartbeats 1000000
/-! The ends of the part of a line on which some bounds hold -/
namespace Mt
abbrev Ends := Option Int × Option Int × Bool
def maxO (o : Option Int) (b : Int) : Int := match o with
  | none => b
  | some f => if b > f then b else f
def minO (o : Option Int) (b : Int) : Int := match o with
  | none => b
  | some f => if b < f then b else f
def endStep (e : Ends) (v s : Int) : Ends :=
  if 0 < s then (some (maxO e.1 (-(v / s))), e.2.1, e.2.2)
  else if s < 0 then (e.1, some (minO e.2.1 (v / -s)), e.2.2)
  else if v < 0 then (e.1, e.2.1, true) else e
def endsFrom (e : Ends) : List (Int × Int) → Ends
  | [] => e
  | r :: l => endsFrom (endStep e r.1 r.2) l
abbrev ends (rows : List (Int × Int)) : Ends := endsFrom (none, none, false) rows
def inE (e : Ends) (t : Int) : Prop := e.2.2 = false ∧ (∀ f, e.1 = some f → f ≤ t) ∧ ∀ l, e.2.1 = some l → t ≤ l
structure EndsOk (rows : List (Int × Int)) (e : Ends) : Prop where
  iff : ∀ t, inE e t ↔ ∀ r ∈ rows, 0 ≤ r.1 + r.2 * t
  fs : (∃ r ∈ rows, 0 < r.2) → ∃ f, e.1 = some f
  ls : (∃ r ∈ rows, r.2 < 0) → ∃ l, e.2.1 = some l
  fa : ∀ f, e.1 = some f → ∃ r ∈ rows, 0 < r.2 ∧ r.1 + r.2 * (f - 1) < 0
  la : ∀ l, e.2.1 = some l → ∃ r ∈ rows, r.2 < 0 ∧ r.1 + r.2 * (l + 1) < 0
  ba : e.2.2 = true → ∃ r ∈ rows, r.2 = 0 ∧ r.1 < 0
theorem EndsOk.nil : EndsOk [] (none, none, false) :=
  ⟨fun t => ⟨fun _ r h => (by cases h), fun _ => ⟨rfl, fun f h => (by cases h), fun l h => (by cases h)⟩⟩, fun ⟨r, h, _⟩ => (by cases h), fun ⟨r, h, _⟩ => (by cases h), fun f h => (by cases h), fun f h => (by cases h), fun h => (by cases h)⟩
theorem lo_iff {v s t : Int} (h : 0 < s) : 0 ≤ v + s * t ↔ -(v / s) ≤ t := by
  have : -t ≤ v / s ↔ -t * s ≤ v := Int.le_ediv_iff_mul_le h
  rw [Int.neg_mul, Int.mul_comm t s] at this
  constructor
  · intro q
    have := this.mpr (by omega)
    omega
  · intro q
    have := this.mp (by omega)
    omega
theorem hi_iff {v s t : Int} (h : s < 0) : 0 ≤ v + s * t ↔ t ≤ v / -s := by
  have : t ≤ v / -s ↔ t * -s ≤ v := Int.le_ediv_iff_mul_le (by omega)
  rw [Int.mul_neg, Int.mul_comm t s] at this
  constructor
  · intro q
    exact this.mpr (by omega)
  · intro q
    have := this.mp q
    omega
theorem forall_snoc {rows : List (Int × Int)} {p : Int × Int} {P : Int × Int → Prop} : (∀ r ∈ rows ++ [p], P r) ↔ (∀ r ∈ rows, P r) ∧ P p := by
  constructor
  · intro h
    exact ⟨fun r hr => h r (List.mem_append_left _ hr), h p (List.mem_append_right _ (List.mem_singleton.mpr rfl))⟩
  · rintro ⟨h1, h2⟩ r hr
    rcases List.mem_append.mp hr with hr | hr
    · exact h1 r hr
    · rw [List.mem_singleton.mp hr]
      exact h2
theorem exists_snoc {rows : List (Int × Int)} {p : Int × Int} {P : Int × Int → Prop} : (∃ r ∈ rows ++ [p], P r) ↔ (∃ r ∈ rows, P r) ∨ P p := by
  constructor
  · rintro ⟨r, hr, h⟩
    rcases List.mem_append.mp hr with hr | hr
    · exact .inl ⟨r, hr, h⟩
    · rw [List.mem_singleton.mp hr] at h
      exact .inr h
  · rintro (⟨r, hr, h⟩ | h)
    · exact ⟨r, List.mem_append_left _ hr, h⟩
    · exact ⟨p, List.mem_append_right _ (List.mem_singleton.mpr rfl), h⟩
theorem maxO_le {o : Option Int} {b t : Int} : maxO o b ≤ t ↔ (∀ f, o = some f → f ≤ t) ∧ b ≤ t := by
  unfold maxO
  cases o with
  | none => exact ⟨fun h => ⟨fun f z => (by cases z), h⟩, fun h => h.2⟩
  | some f =>
    dsimp only
    constructor
    · intro h
      refine ⟨fun g z => ?_, ?_⟩
      · cases z
        split at h <;> omega
      · split at h <;> omega
    · rintro ⟨h1, h2⟩
      have := h1 f rfl
      split <;> omega
theorem le_minO {o : Option Int} {b t : Int} : t ≤ minO o b ↔ (∀ f, o = some f → t ≤ f) ∧ t ≤ b := by
  unfold minO
  cases o with
  | none => exact ⟨fun h => ⟨fun f z => (by cases z), h⟩, fun h => h.2⟩
  | some f =>
    dsimp only
    constructor
    · intro h
      refine ⟨fun g z => ?_, ?_⟩
      · cases z
        split at h <;> omega
      · split at h <;> omega
    · rintro ⟨h1, h2⟩
      have := h1 f rfl
      split <;> omega
theorem maxO_is (o : Option Int) (b : Int) : maxO o b = b ∨ o = some (maxO o b) := by
  unfold maxO
  cases o with
  | none => exact .inl rfl
  | some f =>
    dsimp only
    split
    · exact .inl rfl
    · exact .inr rfl
theorem minO_is (o : Option Int) (b : Int) : minO o b = b ∨ o = some (minO o b) := by
  unfold minO
  cases o with
  | none => exact .inl rfl
  | some f =>
    dsimp only
    split
    · exact .inl rfl
    · exact .inr rfl
theorem EndsOk.step {rows : List (Int × Int)} {e : Ends} (h : EndsOk rows e) (v s : Int) : EndsOk (rows ++ [(v, s)]) (endStep e v s) := by
  unfold endStep
  by_cases h1 : 0 < s
  · rw [if_pos h1]
    refine ⟨fun t => ?_, fun _ => ⟨_, rfl⟩, fun z => ?_, fun f z => ?_, fun l z => ?_, fun z => ?_⟩
    · rw [forall_snoc, ← h.iff t, lo_iff h1]
      unfold inE
      dsimp only
      constructor
      · rintro ⟨a, b, c⟩
        have := maxO_le.mp (b _ rfl)
        exact ⟨⟨a, this.1, c⟩, this.2⟩
      · rintro ⟨⟨a, b, c⟩, d⟩
        refine ⟨a, fun f z => ?_, c⟩
        cases z
        exact maxO_le.mpr ⟨b, d⟩
    · rcases exists_snoc.mp z with z | z
      · exact h.ls z
      · dsimp only at z; omega
    · cases z
      apply exists_snoc.mpr
      rcases maxO_is e.1 (-(v / s)) with q | q
      · refine .inr ⟨h1, ?_⟩
        dsimp only
        rw [q]
        have := (@lo_iff v s (-(v / s) - 1) h1).mp
        omega
      · exact .inl (h.fa _ q)
    · exact exists_snoc.mpr (.inl (h.la l z))
    · exact exists_snoc.mpr (.inl (h.ba z))
  · rw [if_neg h1]
    by_cases h2 : s < 0
    · rw [if_pos h2]
      refine ⟨fun t => ?_, fun z => ?_, fun _ => ⟨_, rfl⟩, fun f z => ?_, fun l z => ?_, fun z => ?_⟩
      · rw [forall_snoc, ← h.iff t, hi_iff h2]
        unfold inE
        dsimp only
        constructor
        · rintro ⟨a, b, c⟩
          have := le_minO.mp (c _ rfl)
          exact ⟨⟨a, b, this.1⟩, this.2⟩
        · rintro ⟨⟨a, b, c⟩, d⟩
          refine ⟨a, b, fun f z => ?_⟩
          cases z
          exact le_minO.mpr ⟨c, d⟩
      · rcases exists_snoc.mp z with z | z
        · exact h.fs z
        · dsimp only at z; omega
      · exact exists_snoc.mpr (.inl (h.fa f z))
      · cases z
        apply exists_snoc.mpr
        rcases minO_is e.2.1 (v / -s) with q | q
        · refine .inr ⟨h2, ?_⟩
          dsimp only
          rw [q]
          have := (@hi_iff v s (v / -s + 1) h2).mp
          omega
        · exact .inl (h.la _ q)
      · exact exists_snoc.mpr (.inl (h.ba z))
    · rw [if_neg h2]
      have hs : s = 0 := by omega
      subst hs
      by_cases h3 : v < 0
      · rw [if_pos h3]
        refine ⟨fun t => ?_, fun z => ?_, fun z => ?_, fun f z => exists_snoc.mpr (.inl (h.fa f z)), fun l z => exists_snoc.mpr (.inl (h.la l z)), fun _ => exists_snoc.mpr (.inr ⟨rfl, h3⟩)⟩
        · rw [forall_snoc]
          unfold inE
          dsimp only
          constructor
          · rintro ⟨a, _⟩
            cases a
          · rintro ⟨_, b⟩
            omega
        · rcases exists_snoc.mp z with z | z
          · exact h.fs z
          · dsimp only at z; omega
        · rcases exists_snoc.mp z with z | z
          · exact h.ls z
          · dsimp only at z; omega
      · rw [if_neg h3]
        refine ⟨fun t => ?_, fun z => ?_, fun z => ?_, fun f z => exists_snoc.mpr (.inl (h.fa f z)), fun l z => exists_snoc.mpr (.inl (h.la l z)), fun z => exists_snoc.mpr (.inl (h.ba z))⟩
        · rw [forall_snoc, ← h.iff t]
          dsimp only
          constructor
          · intro a
            exact ⟨a, by omega⟩
          · exact fun a => a.1
        · rcases exists_snoc.mp z with z | z
          · exact h.fs z
          · dsimp only at z; omega
        · rcases exists_snoc.mp z with z | z
          · exact h.ls z
          · dsimp only at z; omega
theorem endsFrom_ok : ∀ (rows pre : List (Int × Int)) (e : Ends), EndsOk pre e → EndsOk (pre ++ rows) (endsFrom e rows)
  | [], pre, e, h => by rw [List.append_nil]; exact h
  | r :: l, pre, e, h => by
    have := endsFrom_ok l (pre ++ [r]) _ (h.step r.1 r.2)
    rw [List.append_assoc] at this
    exact this
theorem ends_ok (rows : List (Int × Int)) : EndsOk rows (ends rows) := by
  have := endsFrom_ok rows [] _ EndsOk.nil
  exact this
theorem endsFrom_snoc : ∀ (rows : List (Int × Int)) (e : Ends) (r : Int × Int), endsFrom e (rows ++ [r]) = endStep (endsFrom e rows) r.1 r.2
  | [], _, _ => rfl
  | _ :: l, _, r => endsFrom_snoc l _ r
/-! ### the bounds -/
structure Bnd where
  low : Int
  high : Option Int
  first : Int
  rounds : Option Int
def spares (b : Bnd) (q : Int × Int) : List Int :=
  [q.1 - b.first, (q.2 - q.1) - b.low] ++ (match b.high with | none => [] | some h => [h - (q.2 - q.1)]) ++ (match b.rounds with | none => [] | some n => [n - 1 - q.2])
def slopes (b : Bnd) (st : Int × Int) : List Int :=
  [st.1, st.2 - st.1] ++ (match b.high with | none => [] | some _ => [st.1 - st.2]) ++ (match b.rounds with | none => [] | some _ => [-st.2])
theorem len_eq (b : Bnd) (q st : Int × Int) : (spares b q).length = (slopes b st).length := by
  unfold spares slopes
  cases b.high <;> cases b.rounds <;> rfl
def rows (b : Bnd) (q st : Int × Int) : List (Int × Int) := (spares b q).zip (slopes b st)
/-- the rows of the pair t steps after -/
theorem rows_after (b : Bnd) (q st : Int × Int) (t : Int) : rows b (after q st t) st = (rows b q st).map fun r => (r.1 + r.2 * t, r.2) := by
  unfold rows spares slopes after
  cases b.high <;> cases b.rounds <;> simp only [List.append_nil, List.nil_append, List.zip_cons_cons, List.zip_nil_right, List.cons_append, List.map_cons, List.map_nil, List.cons.injEq, Prod.mk.injEq, and_true, true_and] <;>
    (simp only [Int.sub_mul, Int.neg_mul]; omega)
def keeps (b : Bnd) (q : Int × Int) : Prop := ∀ v ∈ spares b q, 0 ≤ v
theorem keeps_iff (b : Bnd) (q : Int × Int) : keeps b q ↔ b.first ≤ q.1 ∧ b.low ≤ q.2 - q.1 ∧ (∀ h, b.high = some h → q.2 - q.1 ≤ h) ∧ ∀ n, b.rounds = some n → q.2 < n := by
  unfold keeps spares
  obtain ⟨lo, hi, fi, ro⟩ := b
  cases hi <;> cases ro <;> simp <;> omega
theorem keeps_rows (b : Bnd) (q st : Int × Int) (t : Int) : keeps b (after q st t) ↔ ∀ r ∈ rows b q st, 0 ≤ r.1 + r.2 * t := by
  have e : (rows b (after q st t) st).map (·.1) = spares b (after q st t) := by
    unfold rows
    rw [List.map_fst_zip]
    exact Nat.le_of_eq (len_eq b _ st)
  unfold keeps
  rw [← e, rows_after]
  simp only [List.map_map, List.mem_map, Function.comp]
  constructor
  · intro h r hr
    exact h _ ⟨r, hr, rfl⟩
  · rintro h v ⟨r, hr, rfl⟩
    exact h r hr
end Mt
set_option maxHeartbeats 1000000
/-! Meetings: the nearest pair, and what papers say -/
namespace Mt
def isEmpty (has : Bool) (e : Ends) : Bool := (!has || e.2.2) || (match e.1, e.2.1 with | some f, some l => decide (l < f) | _, _ => false)
def endBy (q0 st : Int × Int) (e : Ends) (g : Int) : Option (Int × Int) := (if 0 < g then e.1 else e.2.1).map (after q0 st)
def growth (st : Int × Int) : Int := if st.2 ≠ 0 then st.2 else st.1
def way (st : Int × Int) : Int := if st.2 ≠ st.1 then st.2 - st.1 else growth st
def nearest (has : Bool) (q0 st : Int × Int) (e : Ends) : Option (Int × Int) := if isEmpty has e = true then none else endBy q0 st e (way st)
structure MetOk (p o : Int × Int) (b : Bnd) (has : Bool) (q0 st : Int × Int) (e : Ends) : Prop where
  he : e = ends (rows b q0 st)
  yes : has = true → Line p o q0 st
  no : has = false → q0 = (0, 0) ∧ st = (0, 0) ∧ ∀ q, ¬ meets p o q
def good (p o : Int × Int) (b : Bnd) (q : Int × Int) : Prop := meets p o q ∧ keeps b q
section
variable {p o q0 st q : Int × Int} {b : Bnd} {has : Bool} {e : Ends}
theorem MetOk.inE_iff (M : MetOk p o b has q0 st e) (t : Int) : inE e t ↔ keeps b (after q0 st t) := by
  rw [keeps_rows, M.he]
  exact (ends_ok _).iff t
theorem MetOk.good_iff (M : MetOk p o b has q0 st e) (h : has = true) (t : Int) : good p o b (after q0 st t) ↔ inE e t := by
  rw [M.inE_iff]
  exact ⟨fun h => h.2, fun z => ⟨(M.yes h).at t, z⟩⟩
theorem way_ne (h : ¬ (st.1 = 0 ∧ st.2 = 0)) : way st ≠ 0 := by
  unfold way growth
  split
  · omega
  · split <;> omega
/-- the slopes of the first two rows -/
theorem row_mem1 (b : Bnd) (q st : Int × Int) : ∃ v, (v, st.1) ∈ rows b q st := ⟨q.1 - b.first, by unfold rows spares slopes; simp⟩
theorem row_mem2 (b : Bnd) (q st : Int × Int) : ∃ v, (v, st.2 - st.1) ∈ rows b q st := ⟨(q.2 - q.1) - b.low, by unfold rows spares slopes; simp⟩
theorem way_some (M : MetOk p o b has q0 st e) (h : ¬ (st.1 = 0 ∧ st.2 = 0)) : (0 < way st → ∃ f, e.1 = some f) ∧ (way st < 0 → ∃ l, e.2.1 = some l) := by
  have O := ends_ok (rows b q0 st)
  rw [← M.he] at O
  obtain ⟨v1, m1⟩ := row_mem1 b q0 st
  obtain ⟨v2, m2⟩ := row_mem2 b q0 st
  unfold way growth
  by_cases h1 : st.2 ≠ st.1
  · rw [if_pos h1]
    exact ⟨fun z => O.fs ⟨_, m2, z⟩, fun z => O.ls ⟨_, m2, z⟩⟩
  · rw [if_neg h1]
    have h2 : st.2 ≠ 0 := by omega
    rw [if_pos h2]
    exact ⟨fun z => O.fs ⟨_, m1, by dsimp only; omega⟩, fun z => O.ls ⟨_, m1, by dsimp only; omega⟩⟩
theorem empty_false : isEmpty has e = false ↔ has = true ∧ e.2.2 = false ∧ ∀ f l, e.1 = some f → e.2.1 = some l → f ≤ l := by
  obtain ⟨f, l, c⟩ := e
  unfold isEmpty
  cases has <;> cases c <;> cases f <;> cases l <;> simp
/-- what is not empty has a nearest pair -/
theorem near_end (M : MetOk p o b has q0 st e) (h : isEmpty has e = false) :
    ∃ t, nearest has q0 st e = some (after q0 st t) ∧ inE e t ∧ ¬ inE e (if 0 < way st then t - 1 else t + 1) := by
  obtain ⟨hh, hb, hfl⟩ := empty_false.mp h
  have L := M.yes hh
  have w0 := way_ne L.ne
  obtain ⟨wf, wl⟩ := way_some M L.ne
  unfold nearest
  rw [h, if_neg Bool.false_ne_true]
  unfold endBy
  by_cases hw : 0 < way st
  · obtain ⟨f, ef⟩ := wf hw
    refine ⟨f, by rw [if_pos hw, ef]; rfl, ⟨hb, fun g z => ?_, fun l z => hfl f l ef z⟩, fun z => ?_⟩
    · rw [ef] at z; cases z; exact Int.le_refl _
    · rw [if_pos hw] at z
      have := z.2.1 f ef
      omega
  · obtain ⟨l, el⟩ := wl (by omega)
    refine ⟨l, by rw [if_neg hw, el]; rfl, ⟨hb, fun g z => hfl g l z el, fun g z => ?_⟩, fun z => ?_⟩
    · rw [el] at z; cases z; exact Int.le_refl _
    · rw [if_neg hw] at z
      have := z.2.2 l el
      omega
/-- an interval has one such end -/
theorem end_unique {t u w : Int} (h1 : inE e t) (h2 : ¬ inE e (if 0 < w then t - 1 else t + 1)) (h3 : inE e u) (h4 : ¬ inE e (if 0 < w then u - 1 else u + 1)) : t = u := by
  obtain ⟨a1, a2, a3⟩ := h1
  obtain ⟨c1, c2, c3⟩ := h3
  unfold inE at h2 h4
  by_cases hw : 0 < w
  · rw [if_pos hw] at h2 h4
    rcases Int.lt_trichotomy t u with z | z | z
    · exact absurd ⟨a1, fun f q => by have := a2 f q; omega, fun l q => by have := c3 l q; omega⟩ h4
    · exact z
    · exact absurd ⟨a1, fun f q => by have := c2 f q; omega, fun l q => by have := a3 l q; omega⟩ h2
  · rw [if_neg hw] at h2 h4
    rcases Int.lt_trichotomy t u with z | z | z
    · exact absurd ⟨a1, fun f q => by have := a2 f q; omega, fun l q => by have := c3 l q; omega⟩ h2
    · exact z
    · exact absurd ⟨a1, fun f q => by have := c2 f q; omega, fun l q => by have := a3 l q; omega⟩ h4
theorem empty_no (M : MetOk p o b has q0 st e) (h : isEmpty has e = true) : ¬ good p o b q := by
  rintro ⟨h1, h2⟩
  cases hh : has with
  | false => exact (M.no hh).2.2 q h1
  | true =>
    obtain ⟨t, rfl⟩ := (M.yes hh).all h1
    obtain ⟨a, f, l⟩ := (M.inE_iff t).mpr h2
    have : isEmpty has e = false := empty_false.mpr ⟨hh, a, fun g k z y => by have := f g z; have := l k y; omega⟩
    rw [h] at this
    cases this
theorem after_after (q st : Int × Int) (t u : Int) : after (after q st t) st u = after q st (t + u) := by
  unfold after
  dsimp only
  rw [Int.mul_add, Int.mul_add]
  ext <;> dsimp only <;> omega
/-- the law's own way of telling the nearest pair: st' the step -/
def lway (st : Int × Int) : Int := if st.2 ≠ st.1 then st.2 - st.1 else st.2
def isNear (p o : Int × Int) (b : Bnd) (st q : Int × Int) : Prop := good p o b q ∧ ¬ good p o b (after q st (if 0 < lway st then -1 else 1))
theorem lway_eq (h : ¬ (st.1 = 0 ∧ st.2 = 0)) : lway st = way st := by
  unfold lway way growth
  split
  · rfl
  · rw [if_pos (by omega)]
theorem near_iff {st' : Int × Int} (M : MetOk p o b has q0 st e) (hs : has = true → st' = st) : nearest has q0 st e = some q ↔ isNear p o b st' q := by
  cases h : isEmpty has e with
  | true =>
    constructor
    · intro z
      unfold nearest at z
      rw [h, if_pos rfl] at z
      cases z
    · intro z
      exact absurd z.1 (empty_no M h)
  | false =>
    obtain ⟨hh, _, _⟩ := empty_false.mp h
    have L := M.yes hh
    have e1 := hs hh
    subst e1
    obtain ⟨t, en, i1, i2⟩ := near_end M h
    unfold isNear
    rw [lway_eq L.ne]
    constructor
    · intro z
      rw [en] at z
      cases z
      refine ⟨(M.good_iff hh t).mpr i1, fun z => i2 ?_⟩
      rw [after_after] at z
      have := (M.good_iff hh _).mp z
      split at this
      · rw [if_pos (by assumption)]; exact this
      · rw [if_neg (by assumption)]; exact this
    · rintro ⟨g1, g2⟩
      obtain ⟨u, rfl⟩ := L.all g1.1
      have j1 := (M.good_iff hh u).mp g1
      have j2 : ¬ inE e (if 0 < way st' then u - 1 else u + 1) := fun z => g2 (by
        rw [after_after]
        refine (M.good_iff hh _).mpr ?_
        split
        · rw [if_pos (by assumption)] at z; exact z
        · rw [if_neg (by assumption)] at z; exact z)
      rw [en, end_unique i1 i2 j1 j2]
/-! ### gaps -/
def gapRows (rs : List (Int × Int)) : Prop := (∃ r ∈ rs, r.1 < 0 ∧ 0 ≤ r.2) ∧ ∃ r ∈ rs, r.1 + r.2 < 0 ∧ r.2 ≤ 0
def gapAt (e : Ends) : Int := if e.2.2 = true then 0 else (e.1.getD 0) - 1
theorem gap_ok (M : MetOk p o b has q0 st e) (h : isEmpty has e = true) (hh : has = true) : (e.2.2 = false → ∃ f, e.1 = some f) ∧ meets p o (after q0 st (gapAt e)) ∧ gapRows (rows b (after q0 st (gapAt e)) st) := by
  have O := ends_ok (rows b q0 st)
  rw [← M.he] at O
  have key : e.2.2 = false → ∃ f l, e.1 = some f ∧ e.2.1 = some l ∧ l < f := by
    intro hb
    obtain ⟨f, l, c⟩ := e
    dsimp only at hb
    subst hb
    subst hh
    unfold isEmpty at h
    cases f <;> cases l <;> simp at h
    exact ⟨_, _, rfl, rfl, h⟩
  refine ⟨fun hb => ?_, (M.yes hh).at _, ?_⟩
  · obtain ⟨f, l, ef, _⟩ := key hb
    exact ⟨f, ef⟩
  · rw [rows_after]
    unfold gapRows gapAt
    cases hb : e.2.2 with
    | true =>
      rw [if_pos rfl]
      obtain ⟨r, hr, r2, r1⟩ := O.ba hb
      exact ⟨⟨_, List.mem_map.mpr ⟨r, hr, rfl⟩, by dsimp only; omega, by dsimp only; omega⟩, ⟨_, List.mem_map.mpr ⟨r, hr, rfl⟩, by dsimp only; omega, by dsimp only; omega⟩⟩
    | false =>
      rw [if_neg Bool.false_ne_true]
      obtain ⟨f, l, ef, el, hlf⟩ := key hb
      rw [ef]
      obtain ⟨r, hr, r2, r1⟩ := O.fa f ef
      obtain ⟨u, hu, u2, u1⟩ := O.la l el
      refine ⟨⟨_, List.mem_map.mpr ⟨r, hr, rfl⟩, by dsimp only [Option.getD]; exact r1, by dsimp only; omega⟩, ⟨_, List.mem_map.mpr ⟨u, hu, rfl⟩, ?_, by dsimp only; omega⟩⟩
      dsimp only [Option.getD]
      have a1 : u.2 * (f - 1) + u.2 = u.2 * f := by rw [Int.mul_sub]; omega
      have a2 : u.2 * f ≤ u.2 * (l + 1) := Int.mul_le_mul_of_nonpos_left (by omega) (by omega)
      omega
end
end Mt
set_option maxHeartbeats 1000000
/-! Meetings: what is told of them depends on the set of their pairs alone -/
namespace Mt
def lt2 (a b : Int × Int) : Prop := a.2 < b.2 ∨ (a.2 = b.2 ∧ a.1 < b.1)
abbrev PS := Int × Int → Prop
def IsNear (S : PS) (q : Int × Int) : Prop := S q ∧ ∀ r, S r → q.2 - q.1 < r.2 - r.1 ∨ (q.2 - q.1 = r.2 - r.1 ∧ q.2 ≤ r.2)
def IsSoon (S : PS) (q : Int × Int) : Prop := S q ∧ ∀ r, S r → q.2 < r.2 ∨ (q.2 = r.2 ∧ r.1 ≤ q.1)
def IsLate (S : PS) (q : Int × Int) : Prop := S q ∧ ∀ r, S r → r.1 < q.1 ∨ (r.1 = q.1 ∧ q.2 ≤ r.2)
def Card (S : PS) (n : Nat) : Prop := ∃ L : List (Int × Int), L.Nodup ∧ (∀ q, q ∈ L ↔ S q) ∧ L.length = n
section
variable {S S' : PS} {q r : Int × Int}
theorem IsNear.unique (a : IsNear S q) (b : IsNear S r) : q = r := by
  have h1 := a.2 r b.1
  have h2 := b.2 q a.1
  obtain ⟨q1, q2⟩ := q
  obtain ⟨r1, r2⟩ := r
  dsimp only at h1 h2
  have e1 : q1 = r1 := by omega
  have e2 : q2 = r2 := by omega
  rw [e1, e2]
theorem IsSoon.unique (a : IsSoon S q) (b : IsSoon S r) : q = r := by
  have h1 := a.2 r b.1
  have h2 := b.2 q a.1
  obtain ⟨q1, q2⟩ := q
  obtain ⟨r1, r2⟩ := r
  dsimp only at h1 h2
  have e1 : q1 = r1 := by omega
  have e2 : q2 = r2 := by omega
  rw [e1, e2]
theorem IsLate.unique (a : IsLate S q) (b : IsLate S r) : q = r := by
  have h1 := a.2 r b.1
  have h2 := b.2 q a.1
  obtain ⟨q1, q2⟩ := q
  obtain ⟨r1, r2⟩ := r
  dsimp only at h1 h2
  have e1 : q1 = r1 := by omega
  have e2 : q2 = r2 := by omega
  rw [e1, e2]
theorem IsNear.of (h : ∀ q, S q ↔ S' q) (a : IsNear S q) : IsNear S' q := ⟨(h q).mp a.1, fun r z => a.2 r ((h r).mpr z)⟩
theorem IsSoon.of (h : ∀ q, S q ↔ S' q) (a : IsSoon S q) : IsSoon S' q := ⟨(h q).mp a.1, fun r z => a.2 r ((h r).mpr z)⟩
theorem IsLate.of (h : ∀ q, S q ↔ S' q) (a : IsLate S q) : IsLate S' q := ⟨(h q).mp a.1, fun r z => a.2 r ((h r).mpr z)⟩
theorem Card.of (h : ∀ q, S q ↔ S' q) {n : Nat} (a : Card S n) : Card S' n := by
  obtain ⟨L, h1, h2, h3⟩ := a
  exact ⟨L, h1, fun q => (h2 q).trans (h q), h3⟩
end
theorem nodup_le {α : Type} [DecidableEq α] : ∀ {l1 l2 : List α}, l1.Nodup → (∀ x ∈ l1, x ∈ l2) → l1.length ≤ l2.length
  | [], l2, _, _ => Nat.zero_le _
  | a :: l1, l2, hn, hs => by
    have h1 := List.nodup_cons.mp hn
    have ha : a ∈ l2 := hs a (List.mem_cons_self ..)
    have ih := nodup_le (l1 := l1) (l2 := l2.erase a) h1.2 fun x hx => by
      have : x ≠ a := fun z => h1.1 (z ▸ hx)
      exact (List.mem_erase_of_ne this).mpr (hs x (List.mem_cons_of_mem _ hx))
    have := List.length_erase_of_mem ha
    have : 0 < l2.length := List.length_pos_of_mem ha
    simp only [List.length_cons]
    omega
theorem Card.unique {S : PS} {n m : Nat} (a : Card S n) (b : Card S m) : n = m := by
  obtain ⟨L, h1, h2, h3⟩ := a
  obtain ⟨L', k1, k2, k3⟩ := b
  have := nodup_le h1 fun x hx => (k2 x).mpr ((h2 x).mp hx)
  have := nodup_le k1 fun x hx => (h2 x).mpr ((k2 x).mp hx)
  omega
theorem Card.union {S A B : PS} {n m : Nat} (a : Card A n) (b : Card B m) (hs : ∀ q, S q ↔ A q ∨ B q) (hd : ∀ q, A q → ¬ B q) : Card S (n + m) := by
  obtain ⟨L, h1, h2, h3⟩ := a
  obtain ⟨L', k1, k2, k3⟩ := b
  refine ⟨L ++ L', List.nodup_append.mpr ⟨h1, k1, fun x hx y hy z => ?_⟩, fun q => ?_, by rw [List.length_append]; omega⟩
  · subst z
    exact hd x ((h2 x).mp hx) ((k2 x).mp hy)
  · rw [List.mem_append, h2, k2, hs]
/-- a part of what is finite is finite -/
theorem Card.part {S A : PS} {n : Nat} (a : Card S n) (h : ∀ q, A q → S q) (hd : ∀ q, A q ∨ ¬ A q) : ∃ m, Card A m := by
  obtain ⟨L, h1, h2, h3⟩ := a
  clear h3
  classical
  exact ⟨_, L.filter (fun q => decide (A q)), h1.filter _, fun q => by rw [List.mem_filter, h2]; simp; exact fun z => h q z, rfl⟩
theorem Card.empty {S : PS} (h : ∀ q, ¬ S q) : Card S 0 := ⟨[], List.nodup_nil, fun q => by simp; exact h q, rfl⟩
theorem Card.single {S : PS} {r : Int × Int} (h : ∀ q, S q ↔ q = r) : Card S 1 := ⟨[r], by simp, fun q => by rw [h]; simp, rfl⟩

def soonest (has : Bool) (q0 st : Int × Int) (e : Ends) : Option (Int × Int) := if isEmpty has e = true then none else endBy q0 st e (if st.2 ≠ 0 then st.2 else -st.1)
def latest (has : Bool) (q0 st : Int × Int) (e : Ends) : Option (Int × Int) := if isEmpty has e = true then none else endBy q0 st e (if st.1 ≠ 0 then -st.1 else st.2)
def amount (has : Bool) (e : Ends) : Option Int := if isEmpty has e = true then some 0 else match e.1, e.2.1 with | some f, some l => some (l - f + 1) | _, _ => none
def distance (has : Bool) (q0 st : Int × Int) (e : Ends) : Option Int := (nearest has q0 st e).map fun q => q.2 - q.1
def sgn (st : Int × Int) : Int := if 0 < growth st then 1 else -1
def eachP (q st : Int × Int) (k : Nat) : Int × Int := after q st (sgn st * k)
def howMany (has : Bool) (e : Ends) (n : Nat) : Nat := match amount has e with | none => n | some m => min n m.toNat
def firsts (has : Bool) (q0 st : Int × Int) (e : Ends) (n : Nat) : List (Int × Int) :=
  if isEmpty has e = true then [] else match endBy q0 st e (sgn st) with | none => [] | some q => (List.range (howMany has e n)).map (eachP q st)

theorem mul_sign {g d : Int} (h1 : 0 < g → 0 ≤ d) (h2 : ¬ 0 < g → d ≤ 0) : 0 ≤ g * d := by
  by_cases h : 0 < g
  · exact Int.mul_nonneg (by omega) (h1 h)
  · have := Int.mul_nonneg (a := -g) (b := -d) (by omega) (by have := h2 h; omega)
    rwa [Int.neg_mul_neg] at this
theorem mul_ne {g d : Int} (h1 : g ≠ 0) (h2 : d ≠ 0) : g * d ≠ 0 := Int.mul_ne_zero h1 h2
section
variable {p o q0 st q : Int × Int} {b : Bnd} {has : Bool} {e : Ends}
theorem end_spec (h : isEmpty has e = false) {g : Int} (hq : endBy q0 st e g = some q) : ∃ t, q = after q0 st t ∧ inE e t ∧ ∀ u, inE e u → (0 < g → 0 ≤ u - t) ∧ (¬ 0 < g → u - t ≤ 0) := by
  obtain ⟨hh, hb, hfl⟩ := empty_false.mp h
  unfold endBy at hq
  by_cases hw : 0 < g
  · rw [if_pos hw] at hq
    cases ef : e.1 with
    | none => rw [ef] at hq; cases hq
    | some f =>
      rw [ef] at hq
      cases hq
      refine ⟨f, rfl, ⟨hb, fun g z => by rw [ef] at z; cases z; exact Int.le_refl _, fun l z => hfl f l ef z⟩, fun u hu => ⟨fun _ => by have := hu.2.1 f ef; omega, fun z => absurd hw z⟩⟩
  · rw [if_neg hw] at hq
    cases el : e.2.1 with
    | none => rw [el] at hq; cases hq
    | some l =>
      rw [el] at hq
      cases hq
      refine ⟨l, rfl, ⟨hb, fun g z => hfl g l z el, fun g z => by rw [el] at z; cases z; exact Int.le_refl _⟩, fun u hu => ⟨fun z => absurd z hw, fun _ => by have := hu.2.2 l el; omega⟩⟩
theorem mul_split (a t u : Int) : a * u = a * t + a * (u - t) := by rw [Int.mul_sub]; omega
/-- a pair of the set, by its place on the line -/
theorem MetOk.on (M : MetOk p o b has q0 st e) (hh : has = true) {r : Int × Int} (h : good p o b r) : ∃ u, r = after q0 st u ∧ inE e u := by
  obtain ⟨u, rfl⟩ := (M.yes hh).all h.1
  exact ⟨u, rfl, (M.good_iff hh u).mp h⟩
theorem near_spec (M : MetOk p o b has q0 st e) (h : isEmpty has e = false) : ∃ q, nearest has q0 st e = some q ∧ IsNear (good p o b) q := by
  obtain ⟨t0, e0, _, _⟩ := near_end M h
  refine ⟨_, e0, ?_⟩
  obtain ⟨hh, hb, hfl⟩ := empty_false.mp h
  have L := M.yes hh
  have w0 := way_ne L.ne
  unfold nearest at e0
  rw [h, if_neg Bool.false_ne_true] at e0
  obtain ⟨t, e1, i1, m⟩ := end_spec h e0
  rw [e1]
  refine ⟨(M.good_iff hh t).mpr i1, fun r hr => ?_⟩
  obtain ⟨u, rfl, iu⟩ := M.on hh hr
  obtain ⟨m1, m2⟩ := m u iu
  have z := mul_sign m1 m2
  have s1 := mul_split st.1 t u
  have s2 := mul_split st.2 t u
  unfold after
  dsimp only
  unfold way growth at z
  by_cases c : st.2 ≠ st.1
  · rw [if_pos c, Int.sub_mul] at z
    by_cases d : u - t = 0
    · rw [d, Int.mul_zero] at s1 s2
      omega
    · have nz := mul_ne (g := st.2 - st.1) (by omega) d
      rw [Int.sub_mul] at nz
      omega
  · rw [if_neg c] at z
    have c2 : st.2 ≠ 0 := fun x => L.ne ⟨by omega, x⟩
    have c3 : st.1 = st.2 := by omega
    rw [if_pos c2] at z
    rw [c3] at s1 ⊢
    omega
theorem growth_ne (h : ¬ (st.1 = 0 ∧ st.2 = 0)) : growth st ≠ 0 := by
  unfold growth
  split <;> omega
theorem sgn_pos : 0 < sgn st ↔ 0 < growth st := by
  unfold sgn
  split <;> omega
/-- the ends that always are -/
theorem soon_some (M : MetOk p o b has q0 st e) (h : ¬ (st.1 = 0 ∧ st.2 = 0)) : ∃ q, endBy q0 st e (if st.2 ≠ 0 then st.2 else -st.1) = some q := by
  have O := ends_ok (rows b q0 st)
  rw [← M.he] at O
  obtain ⟨v1, m1⟩ := row_mem1 b q0 st
  obtain ⟨v2, m2⟩ := row_mem2 b q0 st
  unfold endBy
  by_cases c : st.2 ≠ 0
  · rw [if_pos c]
    by_cases hw : 0 < st.2
    · rw [if_pos hw]
      have : ∃ f, e.1 = some f := by
        by_cases h1 : 0 < st.1
        · exact O.fs ⟨_, m1, h1⟩
        · exact O.fs ⟨_, m2, by dsimp only; omega⟩
      obtain ⟨f, ef⟩ := this
      rw [ef]; exact ⟨_, rfl⟩
    · rw [if_neg hw]
      have : ∃ f, e.2.1 = some f := by
        by_cases h1 : st.1 < 0
        · exact O.ls ⟨_, m1, h1⟩
        · exact O.ls ⟨_, m2, by dsimp only; omega⟩
      obtain ⟨f, ef⟩ := this
      rw [ef]; exact ⟨_, rfl⟩
  · rw [if_neg c]
    by_cases hw : 0 < -st.1
    · rw [if_pos hw]
      obtain ⟨f, ef⟩ := O.fs ⟨_, m2, by dsimp only; omega⟩
      rw [ef]; exact ⟨_, rfl⟩
    · rw [if_neg hw]
      obtain ⟨f, ef⟩ := O.ls ⟨_, m2, by dsimp only; omega⟩
      rw [ef]; exact ⟨_, rfl⟩
theorem start_some (M : MetOk p o b has q0 st e) (h : ¬ (st.1 = 0 ∧ st.2 = 0)) : ∃ q, endBy q0 st e (sgn st) = some q := by
  have O := ends_ok (rows b q0 st)
  rw [← M.he] at O
  obtain ⟨v1, m1⟩ := row_mem1 b q0 st
  obtain ⟨v2, m2⟩ := row_mem2 b q0 st
  have gn := growth_ne h
  unfold endBy
  by_cases hw : 0 < growth st
  · rw [if_pos (sgn_pos.mpr hw)]
    unfold growth at hw
    have : ∃ f, e.1 = some f := by
      by_cases h1 : 0 < st.1
      · exact O.fs ⟨_, m1, h1⟩
      · by_cases c : st.2 ≠ 0
        · rw [if_pos c] at hw
          exact O.fs ⟨_, m2, by dsimp only; omega⟩
        · rw [if_neg c] at hw
          omega
    obtain ⟨f, ef⟩ := this
    rw [ef]; exact ⟨_, rfl⟩
  · rw [if_neg (fun z => hw (sgn_pos.mp z))]
    unfold growth at hw gn
    have : ∃ f, e.2.1 = some f := by
      by_cases h1 : st.1 < 0
      · exact O.ls ⟨_, m1, h1⟩
      · by_cases c : st.2 ≠ 0
        · rw [if_pos c] at hw
          exact O.ls ⟨_, m2, by dsimp only; omega⟩
        · rw [if_neg c] at hw gn
          omega
    obtain ⟨f, ef⟩ := this
    rw [ef]; exact ⟨_, rfl⟩
theorem soon_spec (M : MetOk p o b has q0 st e) (h : isEmpty has e = false) : ∃ q, soonest has q0 st e = some q ∧ IsSoon (good p o b) q := by
  obtain ⟨hh, hb, hfl⟩ := empty_false.mp h
  have L := M.yes hh
  obtain ⟨q, eq⟩ := soon_some M L.ne
  refine ⟨q, by unfold soonest; rw [h, if_neg Bool.false_ne_true]; exact eq, ?_⟩
  obtain ⟨t, e1, i1, m⟩ := end_spec h eq
  rw [e1]
  refine ⟨(M.good_iff hh t).mpr i1, fun r hr => ?_⟩
  obtain ⟨u, rfl, iu⟩ := M.on hh hr
  obtain ⟨m1, m2⟩ := m u iu
  have z := mul_sign m1 m2
  have s1 := mul_split st.1 t u
  have s2 := mul_split st.2 t u
  unfold after
  dsimp only
  by_cases c : st.2 ≠ 0
  · rw [if_pos c] at z
    by_cases d : u - t = 0
    · rw [d, Int.mul_zero] at s1 s2
      omega
    · have nz := mul_ne c d
      omega
  · rw [if_neg c, Int.neg_mul] at z
    have c2 : st.2 = 0 := by omega
    rw [c2] at s2 ⊢
    simp only [Int.zero_mul, true_and] at s2 ⊢
    omega
theorem late_spec (M : MetOk p o b has q0 st e) (h : isEmpty has e = false) : (∀ q, latest has q0 st e = some q → IsLate (good p o b) q) ∧ (latest has q0 st e = none → ∀ q, ¬ IsLate (good p o b) q) := by
  obtain ⟨hh, hb, hfl⟩ := empty_false.mp h
  have L := M.yes hh
  have l1 : latest has q0 st e = endBy q0 st e (if st.1 ≠ 0 then -st.1 else st.2) := by unfold latest; rw [h, if_neg Bool.false_ne_true]
  rw [l1]
  refine ⟨fun q eq => ?_, fun eq q Lq => ?_⟩
  · obtain ⟨t, e1, i1, m⟩ := end_spec h eq
    rw [e1]
    refine ⟨(M.good_iff hh t).mpr i1, fun r hr => ?_⟩
    obtain ⟨u, rfl, iu⟩ := M.on hh hr
    obtain ⟨m1, m2⟩ := m u iu
    have z := mul_sign m1 m2
    have s1 := mul_split st.1 t u
    have s2 := mul_split st.2 t u
    unfold after
    dsimp only
    by_cases c : st.1 ≠ 0
    · rw [if_pos c, Int.neg_mul] at z
      by_cases d : u - t = 0
      · rw [d, Int.mul_zero] at s1 s2
        omega
      · have nz := mul_ne c d
        omega
    · rw [if_neg c] at z
      have c2 : st.1 = 0 := by omega
      rw [c2] at s1 ⊢
      simp only [Int.zero_mul, true_and] at s1 ⊢
      omega
  · obtain ⟨t, rfl, it⟩ := M.on hh Lq.1
    unfold endBy at eq
    by_cases hw : 0 < (if st.1 ≠ 0 then -st.1 else st.2)
    · rw [if_pos hw] at eq
      have e1 : e.1 = none := by cases z : e.1 with | none => rfl | some f => rw [z] at eq; cases eq
      have i2 : inE e (t - 1) := ⟨hb, fun f z => (by rw [e1] at z; cases z), fun l z => by have := it.2.2 l z; omega⟩
      have := Lq.2 _ ((M.good_iff hh _).mpr i2)
      unfold after at this
      dsimp only at this
      have s1 := mul_split st.1 t (t - 1)
      have s2 := mul_split st.2 t (t - 1)
      rw [show t - 1 - t = -1 by omega] at s1 s2
      by_cases c : st.1 ≠ 0
      · rw [if_pos c] at hw
        omega
      · rw [if_neg c] at hw
        omega
    · rw [if_neg hw] at eq
      have e1 : e.2.1 = none := by cases z : e.2.1 with | none => rfl | some f => rw [z] at eq; cases eq
      have i2 : inE e (t + 1) := ⟨hb, fun l z => by have := it.2.1 l z; omega, fun f z => by rw [e1] at z; cases z⟩
      have := Lq.2 _ ((M.good_iff hh _).mpr i2)
      unfold after at this
      dsimp only at this
      have s1 := mul_split st.1 t (t + 1)
      have s2 := mul_split st.2 t (t + 1)
      rw [show t + 1 - t = 1 by omega] at s1 s2
      have ne := L.ne
      by_cases c : st.1 ≠ 0
      · rw [if_pos c] at hw
        omega
      · rw [if_neg c] at hw
        omega
theorem after_inj (h : ¬ (st.1 = 0 ∧ st.2 = 0)) {t u : Int} (hq : after q0 st t = after q0 st u) : t = u := by
  unfold after at hq
  have h1 := congrArg Prod.fst hq
  have h2 := congrArg Prod.snd hq
  dsimp only at h1 h2
  have s1 := mul_split st.1 t u
  have s2 := mul_split st.2 t u
  by_cases d : u - t = 0
  · omega
  · by_cases c : st.1 = 0
    · have nz := mul_ne (g := st.2) (fun z => h ⟨c, z⟩) d
      omega
    · have nz := mul_ne c d
      omega
theorem nodup_map {α : Type} {f : Nat → α} (hf : ∀ i j, f i = f j → i = j) (n : Nat) : ((List.range n).map f).Nodup := by
  unfold List.Nodup
  rw [List.pairwise_map]
  exact (List.nodup_range (n := n)).imp fun h z => h (hf _ _ z)
theorem amount_spec (M : MetOk p o b has q0 st e) : (∀ n, amount has e = some n → 0 ≤ n ∧ Card (good p o b) n.toNat) ∧ (amount has e = none → ∀ n, ¬ Card (good p o b) n) := by
  cases h : isEmpty has e with
  | true =>
    have e1 : amount has e = some 0 := by unfold amount; rw [h, if_pos rfl]
    rw [e1]
    refine ⟨fun n z => ?_, fun z => by cases z⟩
    cases z
    exact ⟨Int.le_refl _, Card.empty fun q => empty_no M h⟩
  | false =>
    obtain ⟨hh, hb, hfl⟩ := empty_false.mp h
    have L := M.yes hh
    have e1 : amount has e = (match e.1, e.2.1 with | some f, some l => some (l - f + 1) | _, _ => none) := by unfold amount; rw [h, if_neg Bool.false_ne_true]
    rw [e1]
    obtain ⟨t0, _, i0, _⟩ := near_end M h
    have inf : ∀ s : Int, (∀ k : Nat, inE e (t0 + s * k)) → s ≠ 0 → ∀ n, ¬ Card (good p o b) n := fun s hs s0 n ⟨Lx, h1, h2, h3⟩ => by
      have hinj : ∀ i j : Nat, after q0 st (t0 + s * i) = after q0 st (t0 + s * j) → i = j := fun i j z => by
        have := after_inj L.ne z
        have z2 : s * (i : Int) = s * j := by omega
        have := Int.eq_of_mul_eq_mul_left s0 z2
        omega
      have := nodup_le (nodup_map hinj (n + 1)) (l2 := Lx) fun x hx => by
        obtain ⟨k, _, rfl⟩ := List.mem_map.mp hx
        exact (h2 _).mpr ((M.good_iff hh _).mpr (hs k))
      rw [List.length_map, List.length_range] at this
      omega
    cases ef : e.1 with
    | none =>
      refine ⟨fun n z => (by cases z), fun _ => inf (-1) (fun k => ⟨hb, fun f z => (by rw [ef] at z; cases z), fun l z => by have := i0.2.2 l z; omega⟩) (by decide)⟩
    | some f =>
      cases el : e.2.1 with
      | none =>
        refine ⟨fun n z => (by cases z), fun _ => inf 1 (fun k => ⟨hb, fun g z => by have := i0.2.1 g z; omega, fun l z => by rw [el] at z; cases z⟩) (by decide)⟩
      | some l =>
        refine ⟨fun n z => ?_, fun z => by cases z⟩
        cases z
        have hle := hfl f l ef el
        refine ⟨by omega, (List.range (l - f + 1).toNat).map (fun i : Nat => after q0 st (f + i)), nodup_map (fun i j z => by have := after_inj L.ne z; omega) _, fun q => ⟨fun hq => ?_, fun hq => ?_⟩, by simp⟩
        · obtain ⟨k, hk, rfl⟩ := List.mem_map.mp hq
          have hk := List.mem_range.mp hk
          exact (M.good_iff hh _).mpr ⟨hb, fun g z => by rw [ef] at z; cases z; omega, fun g z => by rw [el] at z; cases z; omega⟩
        · obtain ⟨u, rfl, iu⟩ := M.on hh hq
          have u1 := iu.2.1 f ef
          have u2 := iu.2.2 l el
          refine List.mem_map.mpr ⟨(u - f).toNat, List.mem_range.mpr (by omega), ?_⟩
          congr 1
          omega
/-- the pairs one by one -/
theorem each_spec (M : MetOk p o b has q0 st e) (h : isEmpty has e = false) : ∃ q, endBy q0 st e (sgn st) = some q ∧ (∀ k : Nat, (∀ n, amount has e = some n → (k : Int) < n) → good p o b (eachP q st k)) ∧
    (∀ r, good p o b r → ∃ k : Nat, r = eachP q st k ∧ ∀ n, amount has e = some n → (k : Int) < n) ∧ ∀ j k : Nat, j < k → lt2 (eachP q st j) (eachP q st k) := by
  obtain ⟨hh, hb, hfl⟩ := empty_false.mp h
  have L := M.yes hh
  obtain ⟨q, eq⟩ := start_some M L.ne
  refine ⟨q, eq, ?_⟩
  have e1 : amount has e = (match e.1, e.2.1 with | some f, some l => some (l - f + 1) | _, _ => none) := by unfold amount; rw [h, if_neg Bool.false_ne_true]
  have mono : ∀ j k : Nat, j < k → lt2 (eachP q st j) (eachP q st k) := fun j k hjk => by
    unfold lt2 eachP after
    dsimp only
    have gn := growth_ne L.ne
    have s1 := mul_split st.1 (sgn st * j) (sgn st * k)
    have s2 := mul_split st.2 (sgn st * j) (sgn st * k)
    have ed : sgn st * (k : Int) - sgn st * j = sgn st * ((k : Int) - j) := by rw [Int.mul_sub]
    rw [ed] at s1 s2
    have pos : 0 < growth st * (sgn st * ((k : Int) - j)) := by
      rw [← Int.mul_assoc]
      refine Int.mul_pos ?_ (by omega)
      unfold sgn
      split
      · omega
      · omega
    unfold growth at pos
    by_cases c : st.2 ≠ 0
    · rw [if_pos c] at pos
      omega
    · rw [if_neg c] at pos
      have c2 : st.2 = 0 := by omega
      rw [c2] at s2 ⊢
      simp only [Int.zero_mul, true_and] at s2 ⊢
      omega
  by_cases hw : 0 < growth st
  · have es : sgn st = 1 := by unfold sgn; rw [if_pos hw]
    unfold endBy at eq
    rw [es, if_pos (by decide)] at eq
    cases ef : e.1 with
    | none => rw [ef] at eq; cases eq
    | some f =>
      rw [ef] at eq
      cases eq
      have ek : ∀ k : Nat, eachP (after q0 st f) st k = after q0 st (f + k) := fun k => by
        unfold eachP
        rw [es, after_after, Int.one_mul]
      refine ⟨fun k hk => ?_, fun r hr => ?_, mono⟩
      · rw [ek]
        refine (M.good_iff hh _).mpr ⟨hb, fun g z => by rw [ef] at z; cases z; omega, fun l z => ?_⟩
        have := hk (l - f + 1) (by rw [e1, ef, z])
        omega
      · obtain ⟨u, rfl, iu⟩ := M.on hh hr
        have u1 := iu.2.1 f ef
        refine ⟨(u - f).toNat, by rw [ek]; congr 1; omega, fun n hn => ?_⟩
        rw [e1, ef] at hn
        cases el : e.2.1 with
        | none => rw [el] at hn; cases hn
        | some l =>
          rw [el] at hn
          cases hn
          have u2 := iu.2.2 l el
          omega
  · have es : sgn st = -1 := by unfold sgn; rw [if_neg hw]
    unfold endBy at eq
    rw [es, if_neg (by decide)] at eq
    cases el : e.2.1 with
    | none => rw [el] at eq; cases eq
    | some l =>
      rw [el] at eq
      cases eq
      have ek : ∀ k : Nat, eachP (after q0 st l) st k = after q0 st (l - k) := fun k => by
        unfold eachP
        rw [es, after_after]
        congr 1
        omega
      refine ⟨fun k hk => ?_, fun r hr => ?_, mono⟩
      · rw [ek]
        refine (M.good_iff hh _).mpr ⟨hb, fun f z => ?_, fun g z => by rw [el] at z; cases z; omega⟩
        have := hk (l - f + 1) (by rw [e1, el, z])
        omega
      · obtain ⟨u, rfl, iu⟩ := M.on hh hr
        have u1 := iu.2.2 l el
        refine ⟨(l - u).toNat, by rw [ek]; congr 1; omega, fun n hn => ?_⟩
        rw [e1, el] at hn
        cases ef : e.1 with
        | none => rw [ef] at hn; cases hn
        | some f =>
          rw [ef] at hn
          cases hn
          have u2 := iu.2.1 f ef
          omega
theorem empty_iff (M : MetOk p o b has q0 st e) : isEmpty has e = true ↔ ∀ q, ¬ good p o b q := by
  constructor
  · exact fun h q => empty_no M h
  · intro h
    cases z : isEmpty has e with
    | true => rfl
    | false =>
      obtain ⟨q, _, hq, _⟩ := near_spec M z
      exact absurd hq (h q)
end

/-! ### the same pairs: the same is told -/
section
variable {p o q0 st p' o' q0' st' : Int × Int} {b b' : Bnd} {has has' : Bool} {e e' : Ends}
theorem same_empty (M : MetOk p o b has q0 st e) (M' : MetOk p' o' b' has' q0' st' e') (h : ∀ q, good p o b q ↔ good p' o' b' q) : isEmpty has e = isEmpty has' e' := by
  cases z : isEmpty has e with
  | true => exact ((empty_iff M').mpr fun q hq => (empty_iff M).mp z q ((h q).mpr hq)).symm
  | false =>
    cases z' : isEmpty has' e' with
    | false => rfl
    | true =>
      have : isEmpty has e = true := (empty_iff M).mpr fun q hq => (empty_iff M').mp z' q ((h q).mp hq)
      rw [z] at this; cases this
theorem same_nearest (M : MetOk p o b has q0 st e) (M' : MetOk p' o' b' has' q0' st' e') (h : ∀ q, good p o b q ↔ good p' o' b' q) : nearest has q0 st e = nearest has' q0' st' e' := by
  have es := same_empty M M' h
  cases z : isEmpty has e with
  | true =>
    unfold nearest
    rw [← es, z, if_pos rfl, if_pos rfl]
  | false =>
    obtain ⟨q, e1, n1⟩ := near_spec M z
    obtain ⟨q', e2, n2⟩ := near_spec M' (es ▸ z)
    rw [e1, e2, (n1.of h).unique n2]
theorem same_soonest (M : MetOk p o b has q0 st e) (M' : MetOk p' o' b' has' q0' st' e') (h : ∀ q, good p o b q ↔ good p' o' b' q) : soonest has q0 st e = soonest has' q0' st' e' := by
  have es := same_empty M M' h
  cases z : isEmpty has e with
  | true =>
    unfold soonest
    rw [← es, z, if_pos rfl, if_pos rfl]
  | false =>
    obtain ⟨q, e1, n1⟩ := soon_spec M z
    obtain ⟨q', e2, n2⟩ := soon_spec M' (es ▸ z)
    rw [e1, e2, (n1.of h).unique n2]
theorem same_latest (M : MetOk p o b has q0 st e) (M' : MetOk p' o' b' has' q0' st' e') (h : ∀ q, good p o b q ↔ good p' o' b' q) : latest has q0 st e = latest has' q0' st' e' := by
  have es := same_empty M M' h
  cases z : isEmpty has e with
  | true =>
    unfold latest
    rw [← es, z, if_pos rfl, if_pos rfl]
  | false =>
    obtain ⟨a1, a2⟩ := late_spec M z
    obtain ⟨c1, c2⟩ := late_spec M' (es ▸ z)
    cases l1 : latest has q0 st e with
    | none =>
      cases l2 : latest has' q0' st' e' with
      | none => rfl
      | some q => exact absurd ((c1 q l2).of fun r => (h r).symm) (a2 l1 q)
    | some q =>
      cases l2 : latest has' q0' st' e' with
      | none => exact absurd ((a1 q l1).of h) (c2 l2 q)
      | some q' => rw [((a1 q l1).of h).unique (c1 q' l2)]
theorem same_amount (M : MetOk p o b has q0 st e) (M' : MetOk p' o' b' has' q0' st' e') (h : ∀ q, good p o b q ↔ good p' o' b' q) : amount has e = amount has' e' := by
  obtain ⟨a1, a2⟩ := amount_spec M
  obtain ⟨c1, c2⟩ := amount_spec M'
  cases l1 : amount has e with
  | none =>
    cases l2 : amount has' e' with
    | none => rfl
    | some n => exact absurd ((c1 n l2).2.of fun r => (h r).symm) (a2 l1 _)
  | some n =>
    cases l2 : amount has' e' with
    | none => exact absurd ((a1 n l1).2.of h) (c2 l2 _)
    | some m =>
      have := ((a1 n l1).2.of h).unique (c1 m l2).2
      have := (a1 n l1).1
      have := (c1 m l2).1
      congr 1
      omega
theorem lt2_irrefl {a : Int × Int} : ¬ lt2 a a := by unfold lt2; omega
theorem lt2_asymm {a c : Int × Int} (h : lt2 a c) : ¬ lt2 c a := by unfold lt2 at *; omega
/-- two ascending walks through one set are one -/
theorem walk_unique {S : PS} {E E' : Nat → Int × Int} {d : Nat → Prop} (hd : ∀ j k, j < k → d k → d j) (s1 : ∀ k, d k → S (E k)) (o1 : ∀ r, S r → ∃ k, r = E k ∧ d k) (m1 : ∀ j k, j < k → lt2 (E j) (E k))
    (s2 : ∀ k, d k → S (E' k)) (o2 : ∀ r, S r → ∃ k, r = E' k ∧ d k) (m2 : ∀ j k, j < k → lt2 (E' j) (E' k)) : ∀ k, d k → E k = E' k := by
  intro k
  induction k using Nat.strongRecOn with
  | ind k ih =>
    intro hk
    obtain ⟨j, e1, dj⟩ := o2 _ (s1 k hk)
    obtain ⟨i, e2, di⟩ := o1 _ (s2 k hk)
    rcases Nat.lt_trichotomy j k with h | h | h
    · have := ih j h dj
      have q := m1 j k h
      rw [this, ← e1] at q
      exact absurd q lt2_irrefl
    · rw [e1, h]
    · rcases Nat.lt_trichotomy i k with h' | h' | h'
      · have := ih i h' di
        have q := m2 i k h'
        rw [← this, ← e2] at q
        exact absurd q lt2_irrefl
      · rw [e2, h']
      · have q1 := m1 k i h'
        have q2 := m2 k j h
        rw [← e2] at q1
        rw [← e1] at q2
        exact absurd q2 (lt2_asymm q1)
theorem same_firsts (M : MetOk p o b has q0 st e) (M' : MetOk p' o' b' has' q0' st' e') (h : ∀ q, good p o b q ↔ good p' o' b' q) (n : Nat) : firsts has q0 st e n = firsts has' q0' st' e' n := by
  have es := same_empty M M' h
  have ea := same_amount M M' h
  cases z : isEmpty has e with
  | true =>
    unfold firsts
    rw [← es, z, if_pos rfl, if_pos rfl]
  | false =>
    obtain ⟨q, e1, s1, o1, m1⟩ := each_spec M z
    obtain ⟨q', e2, s2, o2, m2⟩ := each_spec M' (es ▸ z)
    unfold firsts
    rw [← es, z, if_neg Bool.false_ne_true, if_neg Bool.false_ne_true, e1, e2]
    have em : howMany has e n = howMany has' e' n := by unfold howMany; rw [ea]
    dsimp only
    rw [← em]
    refine List.map_congr_left fun k hk => ?_
    have hk := List.mem_range.mp hk
    refine walk_unique (S := good p o b) (d := fun k => ∀ n, amount has e = some n → (k : Int) < n) (fun j k hjk hd n hn => by have := hd n hn; omega) s1 o1 m1 (fun k hd => (h _).mpr (s2 k (by rw [← ea]; exact hd))) (fun r hr => ?_) m2 k (fun n' hn => ?_)
    · obtain ⟨k, e3, d3⟩ := o2 r ((h r).mp hr)
      exact ⟨k, e3, by rw [ea]; exact d3⟩
    · unfold howMany at hk
      rw [hn] at hk
      dsimp only at hk
      have := (amount_spec M).1 n' hn
      omega
theorem same_distance (M : MetOk p o b has q0 st e) (M' : MetOk p' o' b' has' q0' st' e') (h : ∀ q, good p o b q ↔ good p' o' b' q) : distance has q0 st e = distance has' q0' st' e' := by
  unfold distance
  rw [same_nearest M M' h]
end
end Mt
set_option maxHeartbeats 4000000
/-! {e for x in l}: a set comprehension, for any reading O of the new set; sets of ints and texts; len of them -/
namespace Lf
open PySem PySem.Spec PyProof.Rows L2 Evl PpSet
section
variable {X : Cx} {τ : Type}
/-- an empty set as it is made -/
abbrev set0 (w : World) : Obj := { cls := .type "set", dict := none, data := .set #[] 0 (.fresh 0 0 (!w.params.followText "set-order")) }
/-- how a set is read: O, from z on; A says what an element makes of it -/
structure Fam (P : Program) (w : World) (τ : Type) where
  O : Addr → τ → HO
  z : τ
  A : V → τ → τ → Prop
  new : ∀ (H : Hp) (h : Heap), ObjOk P w H (h.push (set0 w)) h.objs.size (O h.objs.size z)
  add : ∀ {Y : Cx} {pins : List (Addr × Obj)} {σ : L2.St} {H : Hp} {s : Shared} {a : Addr} {y : V} {u : Value} {t t' : τ} {E : Value → Shared → Prop} {Q : Value → Shared → Prop}, Y.prog = P → Y.w = w → Inv Y pins σ H s → H a = some (O a t) → A y t t' → RelV y u →
    (∀ s', Inv Y pins σ (upd H a (O a t')) s' → Q .none s') → wpAny (model Y.prog Y.w) Y.A (call (.builtin "set.add") [.ref a, u]) Q E s
def tScF (F : Fam X.prog X.w τ) (wi : TI) (g : TG) (tt : TT) (te : TE) (vs : List Nat) : TE := fun σ H Q => wi σ H fun J H1 => ∀ D, H1 D = none → ∃ W : Nat → Nat → Hp → Prop, (∃ m, W 0 m (upd H1 D (F.O D F.z))) ∧ ∀ i m H, W i m H →
  (J.stop i H ∧ Q (.ref D) H) ∨ (J.go i H ∧ ∃ Nx : Hp → Prop, (∀ H', Nx H' → ∃ m', m' < m ∧ W (i + 1) m' H') ∧ ∀ x H', J.yld i H x H' → g x (wipe σ vs) H' fun σ2 H2 => wipe σ2 vs = wipe σ vs ∧ tt σ2 H2 fun b H3 =>
    if b = true then te σ2 H3 fun y H4 => ∃ t t', H4 D = some (F.O D t) ∧ F.A y t t' ∧ Nx (upd H4 D (F.O D t')) else Nx H3)
abbrev ceAt (X : Cx) (scope : Scope) (n : Nat) : Env := compEnvC scope (cellsFrom (n + 1) scope.names (cloFrom X.env.cells scope.names [])) n X.env
theorem pe_scF (F : Fam X.prog X.w τ) {elt tg iter : Expr} {ifs : List Expr} {scope : Scope} {own : List (Str × Nat)} {pos : Pos} {wi : TI} {g : TG} {tt : TT} {te : TE} (calm : X.calm = true) (nd : X.N.Nodup) (pi : PI X tg iter wi) (ok : BlkOk X.N X.env.scope scope own)
    (pg : ∀ (s : Shared) (H : Hp) (C : Addr) (cl : List (Str × Addr)) (fp : List Addr), PG (X.blk s H scope (compEnvC scope cl C X.env) fp) tg g) (pt : ∀ (s : Shared) (H : Hp) (C : Addr) (cl : List (Str × Addr)) (fp : List Addr), PTs (X.blk s H scope (compEnvC scope cl C X.env) fp) ifs tt)
    (pe : ∀ (s : Shared) (H : Hp) (C : Addr) (cl : List (Str × Addr)) (fp : List Addr), PE (X.blk s H scope (compEnvC scope cl C X.env) fp) elt te) (fo : ∀ x, foldedSetIterable iter X.env x = pure x := by intro _; rfl) :
    PE X (.SetComp elt [⟨tg, iter, ifs, 0⟩] scope pos) (tScF F wi g tt te (own.map (·.2))) := by
  refine ⟨fun pins s σ H Q I h => ?_⟩
  rw [eval_SetComp]
  have cells : ∀ y ∈ scope.names, y.2 = .free → ∃ c, X.env.cells.lookup y.1 = some c := fun y hy e => (ok.free y hy e).elim (fun k => I.ok.has _ (.inl k)) fun k => I.ok.has _ (.inr k)
  refine wpAny_comprehension_free rfl fo (closure_ok cells) ok.kind (fun y hy e => by rw [ok.uniq y hy, e]) ?_
  refine thn (pi.run pins s σ H _ I h) fun xv s1 hx => thn hx fun itv s2 ⟨it, fp, tn, J, H2, e, I2, T, st2, f2, q⟩ => ?_
  subst e
  refine newSet_ok (newEnv_comp ?_)
  obtain ⟨W, ⟨m0, w0⟩, turn⟩ := q s2.heap.objs.size (I2.hok.fresh (Nat.le_refl _))
  generalize eD : s2.heap.objs.size = D at w0 turn ⊢
  -- the set is there
  generalize e3 : ({ s2 with heap := s2.heap.push (set0 X.w) } : Shared) = s3
  have hp3 : s3.heap = s2.heap.push (set0 X.w) := by rw [← e3]
  generalize eH : upd H2 D (F.O D F.z) = H3 at w0
  have I3 : Inv X pins σ H3 s3 := by
    rw [← e3, ← eH, ← eD]
    exact I2.laid (t' := s2.toks) (fun b o z => Heap.get?_push_of_some _ z) (Nat.le_refl _) (F.new _ _)
  have lt2 : ∀ b ∈ fp, b < s2.heap.objs.size := fun b hb => by
    obtain ⟨o, z, _⟩ := T.obj _ _ st2 b hb
    exact Heap.lt_size z
  have f3 : ∀ b ∈ fp, FpOk X pins H3 b ∧ b < s3.heap.objs.size := fun b hb => by
    have lt := lt2 b hb
    refine ⟨⟨?_, (f2 b hb).2⟩, by rw [hp3, Heap.size_push]; exact Nat.lt_succ_of_lt lt⟩
    rw [← eH, upd_ne (by rw [← eD]; exact Nat.ne_of_lt lt)]
    exact (f2 b hb).1
  have st3 : tn 0 s3.heap := T.keep _ _ _ st2 fun b _ o z => by
    rw [hp3]
    exact Heap.get?_push_of_some _ z
  have I4 := block_start I3 ok nd f3
  generalize eN : s3.heap.objs.size = n3 at I4
  have pg := pg s3 H3 n3 (cellsFrom (n3 + 1) scope.names (cloFrom X.env.cells scope.names [])) fp
  have pt := pt s3 H3 n3 (cellsFrom (n3 + 1) scope.names (cloFrom X.env.cells scope.names [])) fp
  have pe := pe s3 H3 n3 (cellsFrom (n3 + 1) scope.names (cloFrom X.env.cells scope.names [])) fp
  have cL : (ceAt X scope n3).locals = n3 := rfl
  change PG (X.blk s3 H3 scope (ceAt X scope n3) fp) tg g at pg
  change PTs (X.blk s3 H3 scope (ceAt X scope n3) fp) ifs tt at pt
  change PE (X.blk s3 H3 scope (ceAt X scope n3) fp) elt te at pe
  have none3 : ∀ b ∈ fp, H3 b = none := fun b hb => (f3 b hb).1.1
  generalize ec : ceAt X scope n3 = ce at cL pg pt pe
  have I4' : Inv (X.blk s3 H3 scope ce fp) [] (wipe σ (own.map (·.2))) H3 { s3 with heap := pushCells (s3.heap.push { cls := .type "dict", data := .dict #[] }) scope.names } := by
    rw [← ec]
    exact I4
  clear I4
  have goal4 : ∀ s4 : Shared, s4 = { s3 with heap := pushCells (s3.heap.push { cls := .type "dict", data := .dict #[] }) scope.names } → Inv (X.blk s3 H3 scope ce fp) [] (wipe σ (own.map (·.2))) H3 s4 →
      codeAny (model X.prog X.w) X.A (.compStart (.SetComp elt [⟨tg, iter, ifs, 0⟩] scope pos) 0 (.ref it) (.ref D) ce) (compPost (model X.prog X.w) X.A X.xe none (EP X pins σ Q) (.ref D) n3) s4 := fun s4 e4 I4 => by
    have st4 : tn 0 s4.heap := T.keep _ _ _ st3 fun b _ o z => by
      rw [e4]
      exact pushCells_keeps _ _ _ _ (Heap.get?_push_of_some _ z)
    have fpk : ∀ {σ' : L2.St} {H' : Hp} {s' : Shared}, Inv (X.blk s3 H3 scope ce fp) [] σ' H' s' → (∀ b ∈ fp, H' b = none) → ∀ b ∈ fp, FpOk (X.blk s3 H3 scope ce fp) [] H' b := fun {σ' H' s'} I' z b hb =>
      ⟨z b hb, (I'.ok.exf b hb).1, I'.ok.exfs b hb, .inl hb, fun x c e => (I'.ok.exf b hb).2 x c e, fun p hp => absurd (show p ∈ ([] : List (Addr × Obj)) ++ [] from hp) (by simp)⟩
    refine codeAny_compStart_set ?loop (T.self X.A 0 _ _ _ st4 ?loop)
    refine compLoopS_any (fun n s' => ∃ i H', Inv (X.blk s3 H3 scope ce fp) [] (wipe σ (own.map (·.2))) H' s' ∧ tn i s'.heap ∧ (∀ b ∈ fp, H' b = none) ∧ W i n H') ?_ m0 ⟨0, H3, I4, st4, none3, w0⟩
    rintro n s5 ⟨i, H5, I5, st5, n5, w5⟩
    rcases turn i n H5 w5 with ⟨stop, done⟩ | ⟨go, Nx, less, step⟩
    · refine thnF (T.done (X.blk s3 H3 scope ce fp) rfl rfl rfl calm i [] s5 _ H5 (fun _ _ => False) I5 (fpk I5 n5) st5 stop) fun r s6 ⟨er, I6⟩ => ?_
      subst er
      have I7 : Inv X pins σ H5 s6 := I3.call' (ch := fp) I6.os I6.base I6.hok I6.bare fun b hb => ⟨(f3 b hb).1.2.2.2.1, (f3 b hb).1.2.1, (f3 b hb).1.2.2.2.2.1, (f3 b hb).1.2.2.2.2.2⟩
      have free : H5 n3 = none := by
        have z : H5 ce.locals = none := I6.free
        rwa [cL] at z
      obtain ⟨m, nsm, _⟩ := I6.loc
      have nsm : s6.heap.Ns ce.locals m := nsm
      rw [cL] at nsm
      refine ⟨m, nsm, fun h'' sb => ?_⟩
      have fk := I3.fpOk (b := n3) (by rw [eN]; exact Nat.le_refl _) free
      obtain ⟨g0, g1, g2, g3, g4, g5⟩ := fk
      exact ⟨.ref D, H5, I7.turned (t' := s6.toks) (fun b o hb z => (sb.2 b hb).trans z) g0 g1 g3 g4 g5, rfl, done⟩
    · refine thnF (T.item (X.blk s3 H3 scope ce fp) rfl rfl rfl calm i [] s5 _ H5 (fun _ _ => False) I5 (fpk I5 n5) st5 go) fun r s6 ⟨u, er, h6⟩ => ?_
      subst er
      refine thnF h6 fun _ s7 ⟨x, H7, I7, r7, y7, st7, n7⟩ => ?_
      refine thnF (pg.run _ s7 _ H7 x u _ (I7.pinned (fpk I7 n7) (T.obj _ _ st7)) r7 (step x H7 y7)) fun _ s8 ⟨σ8, H8, I8, ew, q8⟩ => ?_
      refine thnF (pt.run _ s8 σ8 H8 _ I8 q8) fun b s9 ⟨H9, I9, q9⟩ => ?_
      have close : ∀ {s' : Shared} {H' : Hp}, Inv (X.blk s3 H3 scope ce fp) ([] ++ pinsAt fp s7.heap) σ8 H' s' → Nx H' → ∃ m, m < n ∧ ∃ i H', Inv (X.blk s3 H3 scope ce fp) [] (wipe σ (own.map (·.2))) H' s' ∧ tn i s'.heap ∧ (∀ b ∈ fp, H' b = none) ∧ W i m H' := fun {s' H'} I' nx => by
        obtain ⟨m', lt, w'⟩ := less H' nx
        have pinned : ∀ b ∈ fp, ∀ o, s7.heap.get? b = some o → s'.heap.get? b = some o ∧ H' b = none := fun b hb o z =>
          have y := I'.pin (b, o) (List.mem_append_right _ (List.mem_append_right _ (mem_pinsAt hb z)))
          ⟨y.1, y.2.1⟩
        refine ⟨m', lt, i + 1, H', (I'.unpinned (pins := [])).weak (by rw [← ew, wipe_length]) (fun j v z => ?_), T.keep _ _ _ st7 fun b hb o z => (pinned b hb o z).1, fun b hb => ?_, w'⟩
        · rw [← ew] at z
          exact (wipe_some z).1
        · obtain ⟨o, z, _⟩ := T.obj _ _ st7 b hb
          exact (pinned b hb o z).2
      cases b with
      | false =>
        rw [if_neg Bool.false_ne_true] at q9 ⊢
        exact close I9 q9
      | true =>
        rw [if_pos rfl] at q9 ⊢
        refine thnF (pe.run _ s9 σ8 H9 _ I9 q9) fun v s10 ⟨y, H10, I10, r10, t, t', hD, ha, nx⟩ => ?_
        exact F.add (Y := X.blk s3 H3 scope ce fp) rfl rfl I10 hD ha r10 fun s11 I11 => close I11 nx
  have fin := goal4 _ rfl I4'
  rw [← ec] at fin
  subst eN
  exact fin
end
/-! ### sets of ints and texts -/
/-- a set of keys: what is in it, how many -/
def famK (P : Program) (w : World) : Fam P w ((Key → Bool) × Nat) where
  O := fun a t => SetK P w a t.1 t.2
  z := (fun _ => false, 0)
  A := fun y t t' => ∃ k : Key, y = kV k ∧ t.2 + 1 < scanBound ∧ t' = (fun j => t.1 j || decide (j = k), if t.1 k = true then t.2 else t.2 + 1)
  new := fun H h => by
    have R : (h.push (set0 w)).SetOf (mixKind P w) h.objs.size (fun _ => false) 0 := ⟨_, #[], 0, _, Heap.get?_push_size _ rfl, ⟨rfl, rfl, rfl⟩, rfl, (fun e he => by simp at he), (fun k => by simp), (by decide), (by rfl), rfl⟩
    exact setK_new R
  add := fun {Y pins σ H s a y u t t' E Q} e1 e2 I ha hA r k => by
    subst e1
    subst e2
    obtain ⟨key, rfl, room, rfl⟩ := hA
    refine call_set_add (kV_is r) (key_scan r) (setK_get I ha) room fun h' sb R => ?_
    have there : ∃ u, h'.get? a = some u := by
      have ⟨o, _, _, _, ho, _⟩ := R
      exact ⟨o, ho⟩
    exact k _ (I.write (e := a) (t' := s.toks + 1) (by rw [ha]; trivial) (.inl rfl) (fun b u hb hu => (sb.2 b hb).trans hu) there (setK_new R))
/-- len of such a set -/
def rLenK (P : Program) (w : World) : List V → Hp → VK → Prop := fun xs H Q => ∃ (a : Addr) (S : Key → Bool) (n : Nat), xs = [.ref a] ∧ H a = some (SetK P w a S n) ∧ Q (.int (n : Nat)) H
theorem cr_lenK {X : Cx} : CallR X (.builtin "len") (rLenK X.prog X.w) := by
  intro pins s σ H xs us Q I r h
  obtain ⟨a, S, n, rfl, ha, q⟩ := h
  obtain ⟨u, rfl, ru⟩ := r.one
  cases ru
  obtain ⟨o, es, ep, t, ho, ex, hd, _, _, small, fits, hn⟩ := setK_get I ha
  have hs : (es.size : Int) < 2 ^ 63 := by unfold scanBound at small; omega
  exact call_len_set ho ex hd fits hs ⟨.int (n : Nat), H, I.tok _, ⟨_, by rw [hn]⟩, q⟩
/-- the texts of a list, each once -/
def uniq (l : List Str) : List Str := l.foldl (fun acc x => if x ∈ acc then acc else acc ++ [x]) []
theorem uniq_snoc (l : List Str) (x : Str) : uniq (l ++ [x]) = if x ∈ uniq l then uniq l else uniq l ++ [x] := by
  unfold uniq
  rw [List.foldl_append]
  rfl
theorem snoc_ind {α : Type} {p : List α → Prop} (h0 : p []) (h1 : ∀ l x, p l → p (l ++ [x])) (l : List α) : p l := by
  have key : ∀ n (l : List α), l.length = n → p l := fun n => by
    induction n with
    | zero => intro l e; rw [List.length_eq_zero_iff.mp e]; exact h0
    | succ n ih =>
      intro l e
      have ne : l ≠ [] := fun z => by rw [z] at e; cases e
      rw [← List.dropLast_concat_getLast ne]
      exact h1 _ _ (ih _ (by rw [List.length_dropLast, e]; rfl))
  exact key _ l rfl
def inS (l : List Str) : Key → Bool
  | .inr x => decide (x ∈ l)
  | .inl _ => false
theorem inS_snoc (l : List Str) (y : Str) : inS (l ++ [y]) = fun j => inS l j || decide (j = Sum.inr y) := by
  funext k
  cases k with
  | inl i => rfl
  | inr x =>
    show decide _ = (decide _ || decide _)
    rw [← Bool.decide_or, decide_eq_decide, List.mem_append, List.mem_singleton]
    simp
theorem inS_same {l : List Str} {y : Str} (h : y ∈ l) : inS l = fun j => inS l j || decide (j = Sum.inr y) := by
  funext k
  cases k with
  | inl i => rfl
  | inr x =>
    show decide _ = (decide _ || decide _)
    rw [← Bool.decide_or, decide_eq_decide]
    constructor
    · exact .inl
    · rintro (z | z)
      · exact z
      · cases z
        exact h
theorem uniq_le : ∀ (l : List Str), (uniq l).length ≤ l.length := by
  refine snoc_ind (Nat.le_refl _) fun l x ih => ?_
  rw [uniq_snoc, List.length_append]
  split
  · omega
  · rw [List.length_append]
    omega
theorem mem_uniq {l : List Str} {x : Str} : x ∈ uniq l ↔ x ∈ l := by
  refine snoc_ind (p := fun l => x ∈ uniq l ↔ x ∈ l) Iff.rfl (fun l y ih => ?_) l
  rw [uniq_snoc, List.mem_append, List.mem_singleton]
  by_cases c : y ∈ uniq l
  · rw [if_pos c]
    constructor
    · exact fun h => .inl (ih.mp h)
    · rintro (h | rfl)
      · exact ih.mpr h
      · exact c
  · rw [if_neg c, List.mem_append, List.mem_singleton, ih]
/-- as many as there are: no text stands twice -/
theorem uniq_all {l : List Str} : (uniq l).length = l.length ↔ l.Nodup := by
  refine snoc_ind (p := fun l => (uniq l).length = l.length ↔ l.Nodup) ⟨fun _ => List.nodup_nil, fun _ => rfl⟩ (fun l x ih => ?_) l
  rw [uniq_snoc, List.length_append, List.nodup_append]
  have le := uniq_le l
  by_cases c : x ∈ uniq l
  · rw [if_pos c]
    constructor
    · intro h
      simp only [List.length_cons, List.length_nil] at h
      omega
    · rintro ⟨_, _, h⟩
      exact absurd rfl (h x (mem_uniq.mp c) x (by simp))
  · rw [if_neg c, List.length_append]
    constructor
    · intro h
      refine ⟨ih.mp (by simp only [List.length_cons, List.length_nil] at h; omega), by simp, fun a ha b hb => ?_⟩
      rw [List.mem_singleton.mp hb]
      rintro rfl
      exact c (mem_uniq.mpr ha)
    · rintro ⟨h, _, _⟩
      rw [ih.mpr h]
section
variable {P : Program} {w : World} {K : PySem.W.Frag} {σ : L2.St} {G : Hp} {tl te : TE} {ds : List PyData}
/-- len({e for x in t}), e a text -/
theorem ev_lenScT {j : Nat} {vs : List Nat} {X : Cx} (f : PyData → Str) (h : EvD tl σ G (.tuple ds)) (hz : ds.length ≤ 1000) (hw : ∀ x, wipe ((wipe σ vs).set j (some x)) vs = wipe σ vs)
    (he : ∀ d ∈ ds, ∀ v G1, Ex G G1 → Da G1 v d → Ev te ((wipe σ vs).set j (some v)) G1 (.str (f d))) :
    Ev (tCB (rLenK X.prog X.w) (tCons (tScF (famK X.prog X.w) (iTup K tl) (gName j) tYes te vs) tNil)) σ G (.int ((uniq (ds.map f)).length : Nat)) := fun H0 x0 Q q => h G H0 (Ex.refl _) x0 _ fun v G1 H1 r hd => by
  obtain ⟨a, xs, rfl, ea, hs⟩ := hd.tup_
  let T := fun (i : Nat) => (inS (uniq ((ds.take i).map f)), (uniq ((ds.take i).map f)).length)
  refine ⟨a, rfl, ⟨xs, SqT.of (r.s _ _ ea)⟩, fun D hD => ⟨fun i m H' => m = xs.length - i ∧ i ≤ xs.length ∧ Ex H1 H' ∧ H' D = some ((famK X.prog X.w).O D (T i)), ⟨xs.length, by simp, Nat.zero_le _, Ex.new hD, by rw [upd_same, show (famK X.prog X.w).z = T 0 from Prod.ext (funext fun k => by cases k <;> rfl) rfl]⟩, ?_⟩⟩
  rintro i m H' ⟨rfl, hi, e1, e2⟩
  have sq : SqT K H' a xs := SqT.of (e1 _ _ (r.s _ _ ea))
  by_cases lt : i < xs.length
  · refine .inr ⟨⟨xs, xs[i], sq, by simp [lt]⟩, fun H3 => Ex H1 H3 ∧ H3 D = some ((famK X.prog X.w).O D (T (i + 1))), fun H3 ⟨y1, y2⟩ => ⟨xs.length - (i + 1), by omega, rfl, lt, y1, y2⟩, fun x H3 y => ?_⟩
    obtain ⟨rfl, y⟩ := y
    have ex : xs[i]? = some x := y xs sq
    obtain ⟨d, hdi, hdv⟩ := hs.at ex
    refine ⟨hw x, ?_⟩
    change te _ _ _
    have g1 : Ex G1 _ := r.s.trans e1
    refine he d (List.mem_of_getElem? hdi) x G1 r.g hdv _ g1 _ fun H4 x4 => ⟨T i, T (i + 1), x4 _ _ e2, ⟨Sum.inr (f d), rfl, ?_, ?_⟩, Ex.mut (e1.trans x4) hD, upd_same⟩
    · have := uniq_le ((ds.take i).map f)
      rw [List.length_map, List.length_take] at this
      show (uniq ((ds.take i).map f)).length + 1 < scanBound
      unfold scanBound
      omega
    · have tk : (ds.take (i + 1)).map f = (ds.take i).map f ++ [f d] := by rw [take_da hdi, List.map_append]; rfl
      show (inS (uniq ((ds.take (i + 1)).map f)), (uniq ((ds.take (i + 1)).map f)).length) = (fun j => inS (uniq ((ds.take i).map f)) j || decide (j = Sum.inr (f d)), if inS (uniq ((ds.take i).map f)) (Sum.inr (f d)) = true then (uniq ((ds.take i).map f)).length else (uniq ((ds.take i).map f)).length + 1)
      rw [tk, uniq_snoc]
      by_cases c : f d ∈ uniq ((ds.take i).map f)
      · rw [if_pos c, ← inS_same c, if_pos (show inS (uniq ((ds.take i).map f)) (Sum.inr (f d)) = true from decide_eq_true c)]
      · rw [if_neg c, inS_snoc, if_neg (show ¬ inS (uniq ((ds.take i).map f)) (Sum.inr (f d)) = true from fun z => c (of_decide_eq_true z)), List.length_append]
        rfl
  · have e : i = xs.length := by omega
    subst e
    refine .inl ⟨⟨xs, sq, Nat.le_refl _⟩, D, _, _, rfl, e2, ?_⟩
    have : (uniq ((ds.take xs.length).map f)).length = (uniq (ds.map f)).length := by rw [hs.len, List.take_length]
    show Q (.int ((uniq ((ds.take xs.length).map f)).length : Nat)) H'
    rw [this]
    exact q H' (r.h.trans e1)
end
end Lf
set_option maxHeartbeats 4000000
/-! When statements are those of a body; plain -/
namespace Tr
open PySem Lf
/-- two places ever meet -/
def Meet (p o : Int × Int) : Prop := ∃ q : Int × Int, Mt.meets p o q ∧ 0 ≤ q.1 ∧ 0 ≤ q.2
noncomputable def meetB (p o : Int × Int) : Bool := @decide (Meet p o) (Classical.propDecidable _)
theorem meetB_iff {p o : Int × Int} : meetB p o = true ↔ Meet p o := @decide_eq_true_iff _ (Classical.propDecidable _)
def atN : PyData → Str
  | .tuple [_, .str x, _] => x
  | _ => Str.empty
def atD : PyData → Int
  | .tuple [_, _, .int i] => i
  | _ => 0
def setNames (sts : List PyData) : List Str := (sts.filter isSet).map stName
/-- the "at" trees of a statement read what they may -/
def atsOk (known names : List Str) (s : PyData) : Bool := (ats 4 (stTree s)).all fun a => decide (atN a ∈ if atD a = 0 then known else names)
def readsOk (names : List Str) : List Str → List PyData → Bool
  | _, [] => true
  | known, s :: r => atsOk known names s && readsOk names (if isSet s = true then known ++ [stName s] else known) r
def readsB (sts : List PyData) : Bool := readsOk (setNames sts) [] sts
def isStore (s : PyData) : Bool := isS "store" (hd0 s)
def stArr : PyData → Str
  | .tuple [_, _, .str a, _, _, _] => a
  | _ => Str.empty
def stPl : PyData → Int × Int
  | .tuple [_, _, _, .int p, .int q, _] => (p, q)
  | _ => (0, 0)
noncomputable def clash (s t : PyData) : Bool := decide (stArr s = stArr t) && meetB (stPl s) (stPl t)
noncomputable def apartOk (before : List PyData) : List PyData → Bool
  | [] => true
  | s :: r => (before.all fun t => !clash s t) && apartOk (before ++ [s]) r
noncomputable def apartB (sts : List PyData) : Bool := apartOk [] (sts.filter isStore)
def nodesN (sts : List PyData) : Nat := (sts.map fun s => (opsS s).length).sum
noncomputable def bodyB (sts : List PyData) : Bool := !sts.isEmpty && sts.all isSt && decide ((sts.map stName).Nodup) && decide (nodesN sts ≤ 24) && readsB sts && apartB sts
theorem readsOk_take {names : List Str} : ∀ (sts : List PyData) (known : List Str), readsOk names known sts = true ↔ ∀ i s, sts[i]? = some s → atsOk (known ++ setNames (sts.take i)) names s = true
  | [], known => ⟨fun _ i s h => by simp at h, fun _ => rfl⟩
  | t :: r, known => by
    rw [readsOk, Bool.and_eq_true, readsOk_take r]
    have e : ∀ i, (if isSet t = true then known ++ [stName t] else known) ++ setNames (r.take i) = known ++ setNames ((t :: r).take (i + 1)) := fun i => by
      rw [List.take_succ_cons]
      unfold setNames
      by_cases c : isSet t = true
      · rw [if_pos c, List.filter_cons_of_pos c, List.map_cons, List.append_assoc]
        rfl
      · rw [if_neg c, List.filter_cons_of_neg c]
    constructor
    · rintro ⟨h1, h2⟩ i s h
      cases i with
      | zero =>
        cases h
        rw [List.take_zero]
        show atsOk (known ++ []) names t = true
        rw [List.append_nil]
        exact h1
      | succ i =>
        rw [← e]
        exact h2 i s (by simpa using h)
    · intro h
      refine ⟨?_, fun i s hi => ?_⟩
      · have := h 0 t rfl
        rw [List.take_zero] at this
        rw [show known ++ setNames [] = known from List.append_nil _] at this
        exact this
      · rw [e]
        exact h (i + 1) s (by simpa using hi)
theorem apartOk_take : ∀ (sts before : List PyData), apartOk before sts = true ↔ ∀ i s, sts[i]? = some s → ∀ t ∈ before ++ sts.take i, clash s t = false
  | [], before => ⟨fun _ i s h => by simp at h, fun _ => by unfold apartOk; rfl⟩
  | a :: r, before => by
    rw [apartOk, Bool.and_eq_true, List.all_eq_true, apartOk_take r]
    constructor
    · rintro ⟨h1, h2⟩ i s h t ht
      cases i with
      | zero =>
        cases h
        rw [List.take_zero, List.append_nil] at ht
        simpa using h1 t ht
      | succ i =>
        refine h2 i s (by simpa using h) t ?_
        rw [List.take_succ_cons] at ht
        simpa using ht
    · intro h
      refine ⟨fun t ht => by simpa using h 0 a rfl t (by rw [List.take_zero, List.append_nil]; exact ht), fun i s hi t ht => h (i + 1) s (by simpa using hi) t ?_⟩
      rw [List.take_succ_cons]
      simpa using ht
/-- the bounds of plain meetings -/
def bnd0 : Mt.Bnd := { low := 0, high := none, first := 0, rounds := none }
theorem keeps0 (q : Int × Int) : Mt.keeps bnd0 q ↔ 0 ≤ q.1 ∧ 0 ≤ q.2 - q.1 := by
  rw [Mt.keeps_iff]
  exact ⟨fun h => ⟨h.1, h.2.1⟩, fun h => ⟨h.1, h.2, (fun x z => by cases z), (fun x z => by cases z)⟩⟩
theorem meet_two {p o : Int × Int} : Meet p o ↔ (∃ q, Mt.good p o bnd0 q) ∨ ∃ q, Mt.good o p bnd0 q := by
  constructor
  · rintro ⟨q, h, h1, h2⟩
    by_cases c : q.1 ≤ q.2
    · exact .inl ⟨q, h, (keeps0 q).mpr ⟨h1, by omega⟩⟩
    · refine .inr ⟨(q.2, q.1), ?_, (keeps0 _).mpr ⟨h2, by dsimp only; omega⟩⟩
      unfold Mt.meets at h ⊢
      exact h.symm
  · rintro (⟨q, h, k⟩ | ⟨q, h, k⟩)
    · have := (keeps0 q).mp k
      exact ⟨q, h, this.1, by omega⟩
    · have := (keeps0 q).mp k
      refine ⟨(q.2, q.1), ?_, by dsimp only; omega, this.1⟩
      unfold Mt.meets at h ⊢
      exact h.symm
/-- places with one step and other rests never meet -/
theorem meet_rest {p o : Int × Int} (h : o.1 = p.1 ∨ o.1 = -p.1) (r : ¬ p.2 % p.1 = o.2 % p.1) : ¬ Meet p o := by
  rintro ⟨q, m, _, _⟩
  unfold Mt.meets at m
  apply r
  rcases h with h | h
  · rw [h] at m
    have e : p.2 = o.2 + p.1 * (q.2 - q.1) := by rw [Int.mul_sub]; omega
    rw [e, Int.add_mul_emod_self_left]
  · rw [h] at m
    have e : p.2 = o.2 + p.1 * (-q.2 - q.1) := by
      rw [Int.mul_sub, Int.mul_neg]
      rw [Int.neg_mul] at m
      omega
    rw [e, Int.add_mul_emod_self_left]
/-- what an "at" is -/
theorem ats_form : ∀ (n : Nat) (d : PyData), isTr n d = true → ∀ a ∈ ats n d, ∃ (x : Str) (i : Int), a = .tuple [.str "at", .str x, .int i] ∧ isNm (.str x) = true ∧ 0 ≤ i ∧ i ≤ 3 := by
  intro n
  induction n with
  | zero => intro d h; cases h
  | succ n ih =>
    intro d h a ha
    obtain ⟨w, nm, ts, rfl⟩ := isTr_tup h
    obtain ⟨h3, hall⟩ := isTr_sub h
    rw [ats] at ha
    split at ha
    · rename_i c
      have c : isS "at" w = true := c
      cases List.mem_singleton.mp ha
      rw [isTr_cons] at h
      have w1 := isS_eq c
      subst w1
      by_cases c1 : ts.length = 1
      · rw [if_pos ⟨c1, c⟩, Bool.and_eq_true] at h
        match ts, c1 with
        | [t], _ =>
          have hw : within 0 3 t = true := h.2
          cases nm with
          | str x =>
            cases t with
            | int i =>
              have hw : (isIn (.int i) && (decide (0 ≤ i) && decide (i ≤ 3))) = true := hw
              simp only [Bool.and_eq_true, decide_eq_true_eq] at hw
              exact ⟨x, i, rfl, h.1, hw.2.1, hw.2.2⟩
            | _ => simp [within] at hw
          | _ => cases h.1
      · rw [if_neg (fun z => c1 z.1), if_neg (fun z => absurd z.2 (by decide +kernel)), if_neg (by decide +kernel)] at h
        cases h
    · obtain ⟨t, ht, ha⟩ := List.mem_flatMap.mp ha
      exact ih t (hall t ht) a ha
end Tr
set_option maxHeartbeats 4000000
/-! sorted(x), x a list of data that are alike -/
namespace Lf
open PySem PySem.Spec PyProof.Rows L2 Evl
def sortD (ds : List PyData) : List PyData := ds.mergeSort (PySem.W.dataLe false id)
def SortOk (ds : List PyData) : Prop := flatDs ds = true ∧ PySem.W.AllAlike ds ∧ PySem.W.Sortable ds ∧ ∀ d ∈ ds, d.depth ≤ 32
def rSortedD (K : PySem.W.Frag) : List V → Hp → VK → Prop := fun vs H Q => ∃ (G : Hp) (a : Addr) (xs : List V) (ds : List PyData), vs = [V.ref a] ∧ H a = some (.lst xs) ∧ Ex G H ∧ DaAll G xs ds ∧ SortOk ds ∧ ds.length ≤ 100000 ∧
  ∀ p ys, H p = none → DaAll G ys (sortD ds) → Q (.ref p) (upd H p (.lst ys))
theorem each_da {H : Hp} {us : List Value} {xs : List V} {ds : List PyData} (r : Vals xs us) (h : DaAll H xs ds) : PySem.W.EachIs (fun u d => ∃ v, RelV v u ∧ Da H v d) us ds := by
  induction r generalizing ds with
  | nil => cases h; exact .nil
  | cons a _ ih => cases h with | cons h t => exact .cons ⟨_, a, h⟩ (ih t)
theorem da_each {H : Hp} {us : List Value} {ds : List PyData} (h : PySem.W.EachIs (fun u d => ∃ v, RelV v u ∧ Da H v d) us ds) : ∃ xs, Vals xs us ∧ DaAll H xs ds := by
  induction h with
  | nil => exact ⟨[], .nil, .nil⟩
  | cons a _ ih =>
    obtain ⟨v, r, d⟩ := a
    obtain ⟨xs, r2, d2⟩ := ih
    exact ⟨v :: xs, .cons r r2, .cons d d2⟩
theorem sortD_perm (ds : List PyData) : (sortD ds).Perm ds := List.mergeSort_perm _ _
theorem sortOk_strs (l : List Str) : SortOk (l.map PyData.str) := by
  refine ⟨?_, fun d hd d' hd' => ?_, .inr fun d hd => ?_, fun d hd => ?_⟩
  · induction l with
    | nil => rfl
    | cons a l ih => rw [List.map_cons, flatDs, ih]; rfl
  · obtain ⟨a, _, rfl⟩ := List.mem_map.mp hd
    obtain ⟨b, _, rfl⟩ := List.mem_map.mp hd'
    rfl
  · obtain ⟨a, _, rfl⟩ := List.mem_map.mp hd
    exact ⟨(fun z => by cases z), (fun xs z => by cases z)⟩
  · obtain ⟨a, _, rfl⟩ := List.mem_map.mp hd
    unfold PyData.depth
    exact Nat.zero_le _
theorem flat_mem {ds : List PyData} (h : flatDs ds = true) {d : PyData} (hd : d ∈ ds) : flatD d = true := by
  induction ds with
  | nil => cases hd
  | cons e ds ih =>
    rw [flatDs, Bool.and_eq_true] at h
    rcases List.mem_cons.mp hd with rfl | hd
    · exact h.1
    · exact ih h.2 hd
section
variable {X : Cx} {n : Nat}
theorem cr_sortedD (hr : Room n X.A) : CallR X (.builtin "sorted") (rSortedD X.K) := by
  intro pins s σ H vs us Q I r h
  obtain ⟨G, a, xs, ds, rfl, hs, sg, hd, ⟨hf, ha, hk, hdep⟩, hlen, q⟩ := h
  obtain ⟨its, rv, hl, hz⟩ := I.list (SqL.of hs)
  obtain ⟨u, rfl, ru⟩ := vals1 r
  obtain rfl : u = Value.ref a := ru
  have e := each_da rv hd
  have hu := hr.units
  have el := e.length
  refine PySem.W.sorted_data (enc := id) (bs := ds) hl.isList e ?_ (by rw [List.map_id]; exact ha) (by rw [List.map_id]; exact hk) (Nat.le_trans hlen (by decide)) (fun b hb => ?_) fun out ho hout => ?_
  · refine (PySem.W.each_mem e).mono fun u d ⟨⟨v, r1, r2⟩, hm⟩ => ?_
    exact Dp.reads I _ _ _ (Da.dp d v (r2.up sg) (flat_mem hf hm)) r1
  · have := hdep b hb
    show X.A.units + 2 + b.depth < cLine
    omega
  · obtain ⟨ys, ry, dy⟩ := da_each hout
    have hn := I.hok.fresh (a := s.heap.objs.size + 1) (Nat.le_succ _)
    refine ⟨.ref (s.heap.objs.size + 1), upd H (s.heap.objs.size + 1) (.lst ys), I.laid (t' := s.toks) (fun b o e => sortedAll_old e) (Nat.le_succ _) ⟨?_, out, ?_, ry, ?_⟩, rfl, q _ ys hn dy⟩
    · rw [ry.length, ho]
      exact Nat.le_trans hlen (by decide)
    · exact (sortedAll_at s.heap its out.toArray).choose
    · exact (sortedAll_at s.heap its out.toArray).choose_spec
end
end Lf
set_option maxHeartbeats 400000
/-! {k: v for x in s}: dict comprehensions over data, keys texts, all different -/
namespace Lf
open PySem L2 Evl
section
variable {K : PySem.W.Frag} {σ : L2.St} {G H : Hp} {tl tk tv : TE} {ds : List PyData}
def rowK (kf : PyData → Str) (vf : PyData → PyData) (d : PyData) : PyData × PyData := (.str (kf d), vf d)
theorem dc_step {j : Nat} {vs : List Nat} {kf : PyData → Str} {vf : PyData → PyData} {D x : Addr} {v : V} {G1 H1 H' : Hp} {i : Nat} {d : PyData} {N : Hp → Prop} (hw : ∀ x, wipe ((wipe σ vs).set j (some x)) vs = wipe σ vs) (nd : (ds.map kf).Nodup) (hz : ds.length ≤ 50000)
    (hk : Ev tk ((wipe σ vs).set j (some v)) G1 (.str (kf d))) (he : EvD tv ((wipe σ vs).set j (some v)) G1 (vf d)) (hi : ds[i]? = some d) (S : ∃ G', St noX G1 H1 G' H' [(D, .dic ((ds.take i).map (rowK kf vf)))])
    (k : ∀ H2, (∃ G', St noX G1 H1 G' H2 [(D, .dic ((ds.take (i + 1)).map (rowK kf vf)))]) → N H2) :
    gName j v (wipe σ vs) H' fun σ2 H2 => wipe σ2 vs = wipe σ vs ∧ tYes σ2 H2 fun b H3 => if b = true then tk σ2 H3 fun y H4 => tv σ2 H4 fun z H5 => ∃ kvs k, y = kV k ∧ H5 D = some (.dK kvs) ∧ kvs.length < sizeLine ∧ N (upd H5 D (.dK (putK kvs k z))) else N H3 := by
  refine ⟨hw v, ?_⟩
  show tk _ _ _
  obtain ⟨G', S⟩ := S
  refine hk H' (S.g.trans S.s) _ fun H4 x4 => ?_
  have S4 := S.keep x4
  refine he G' H4 S.g S4.s _ fun z G5 H5 r5 hd => ?_
  have S5 := S4.ev r5
  obtain ⟨kvs, e, hkv⟩ := (S5.l _ (.head _)).2.2
  have hlt := (List.getElem?_eq_some_iff.mp hi).1
  refine ⟨kvs, .inr (kf d), rfl, e, ?_, k _ ⟨G5, ?_⟩⟩
  · rw [DaKvs.len hkv, List.length_map, List.length_take]
    have : sizeLine = 16777216 := by decide
    omega
  · have nk : valV kvs (Sum.inr (kf d)) = none := by
      refine DaKvs.not hkv fun m => ?_
      obtain ⟨p, hp, e1⟩ := List.mem_map.mp m
      obtain ⟨d', hd', e2⟩ := List.mem_map.mp hp
      have e3 : kf d' = kf d := by
        have : p.1 = .str (kf d') := by rw [← e2]; rfl
        rw [this] at e1
        exact PyData.str.inj e1
      have hm := nd
      have et : ds.take (i + 1) = ds.take i ++ [d] := take_da hi
      rw [← List.take_append_drop (i + 1) ds, et, List.map_append, List.map_append] at hm
      have h2 := (List.nodup_append.mp (List.nodup_append.mp hm).1).2.2
      exact h2 (kf d') (List.mem_map.mpr ⟨d', hd', rfl⟩) (kf d) (by simp) e3
    rw [putK_new z nk, take_da hi, List.map_append]
    exact S5.mut ⟨_, rfl, hkv.app (.cons hd .nil)⟩
theorem evd_dcT {j : Nat} {vs : List Nat} (kf : PyData → Str) (vf : PyData → PyData) (h : EvD tl σ G (.tuple ds)) (hz : ds.length ≤ 50000) (nd : (ds.map kf).Nodup) (hw : ∀ x, wipe ((wipe σ vs).set j (some x)) vs = wipe σ vs)
    (hk : ∀ d ∈ ds, ∀ v G1, Ex G G1 → Da G1 v d → Ev tk ((wipe σ vs).set j (some v)) G1 (.str (kf d))) (he : ∀ d ∈ ds, ∀ v G1, Ex G G1 → Da G1 v d → EvD tv ((wipe σ vs).set j (some v)) G1 (vf d)) :
    EvD (tDc (iTup K tl) (gName j) tYes tk tv vs) σ G (.dict (ds.map (rowK kf vf))) := fun G0 H0 x0 s0 Q q => h G0 H0 x0 s0 _ fun v0 G1 H1 r1 hd => by
  obtain ⟨a, xs, rfl, ea, hs⟩ := hd.tup_
  refine ⟨a, rfl, ⟨xs, SqT.of (r1.s _ _ ea)⟩, fun D hD => dc_tup (K := K) (a := a) (xs := xs) (fun i H' => ∃ G', St noX G1 H1 G' H' [(D, .dic ((ds.take i).map (rowK kf vf)))]) ⟨G1, (St.pure r1.s).new hD ⟨[], rfl, .nil⟩⟩ (fun i H' _ I => SqT.of (I.elim fun G' S => S.s _ _ (S.g _ _ ea))) ?_ ?_⟩
  · rintro i x H' hx I
    obtain ⟨d, hdi, hdv⟩ := hs.at hx
    have mem := List.mem_of_getElem? hdi
    exact dc_step (x := a) hw nd hz (hk d mem x G1 (x0.trans r1.g) hdv) (he d mem x G1 (x0.trans r1.g) hdv) hdi I fun H2 I2 => I2
  · rintro H' ⟨G', S⟩
    rw [hs.len, List.take_length] at S
    obtain ⟨G2, _, S2, h2⟩ := S.putD (fun z => z)
    exact q (.ref D) G2 H' (r1.trans S2.gr) h2
theorem evd_dcL {j : Nat} {vs : List Nat} (kf : PyData → Str) (vf : PyData → PyData) (h : EvD tl σ G (.list ds)) (hz : ds.length ≤ 50000) (nd : (ds.map kf).Nodup) (hw : ∀ x, wipe ((wipe σ vs).set j (some x)) vs = wipe σ vs)
    (hk : ∀ d ∈ ds, ∀ v G1, Ex G G1 → Da G1 v d → Ev tk ((wipe σ vs).set j (some v)) G1 (.str (kf d))) (he : ∀ d ∈ ds, ∀ v G1, Ex G G1 → Da G1 v d → EvD tv ((wipe σ vs).set j (some v)) G1 (vf d)) :
    EvD (tDc (iList K tl) (gName j) tYes tk tv vs) σ G (.dict (ds.map (rowK kf vf))) := fun G0 H0 x0 s0 Q q => h G0 H0 x0 s0 _ fun v0 G1 H1 r1 hd => by
  obtain ⟨a, xs, rfl, ea, hs⟩ := hd.lst_
  refine ⟨a, rfl, ⟨xs, SqL.of (r1.s _ _ ea)⟩, fun D hD => ?_⟩
  have ae : ∀ {H' : Hp} {i : Nat}, (∃ G', St noX G1 H1 G' H' [(D, .dic ((ds.take i).map (rowK kf vf)))]) → SqL K H' a xs := fun I => SqL.of (I.elim fun G' S => S.s _ _ (S.g _ _ ea))
  refine ⟨fun i m H' => m = xs.length - i ∧ i ≤ xs.length ∧ ∃ G', St noX G1 H1 G' H' [(D, .dic ((ds.take i).map (rowK kf vf)))], ⟨xs.length, by simp, Nat.zero_le _, ⟨G1, (St.pure r1.s).new hD ⟨[], rfl, .nil⟩⟩⟩, ?_⟩
  rintro i m H' ⟨rfl, hi, I⟩
  by_cases hlt : i < xs.length
  · refine .inr ⟨⟨xs, xs[i], ae I, by simp [hlt]⟩, fun H2 => ∃ G', St noX G1 H1 G' H2 [(D, .dic ((ds.take (i + 1)).map (rowK kf vf)))], fun H2 p' => ⟨xs.length - (i + 1), by omega, rfl, hlt, p'⟩, fun x H2 y => ?_⟩
    obtain ⟨e, y⟩ := y
    subst e
    obtain ⟨d, hdi, hdv⟩ := hs.at (y xs (ae I))
    have mem := List.mem_of_getElem? hdi
    exact dc_step (x := a) hw nd hz (hk d mem x G1 (x0.trans r1.g) hdv) (he d mem x G1 (x0.trans r1.g) hdv) hdi I fun H2 I2 => I2
  · have e : i = xs.length := by omega
    subst e
    refine .inl ⟨⟨xs, ae I, Nat.le_refl _⟩, ?_⟩
    obtain ⟨G', S⟩ := I
    rw [hs.len, List.take_length] at S
    obtain ⟨G2, _, S2, h2⟩ := S.putD (fun z => z)
    exact q (.ref D) G2 _ (r1.trans S2.gr) h2
end
end Lf
set_option maxHeartbeats 400000
/-! self.f = e with an object that is still written; list(d); sorted(l) -/
namespace Lf
open PySem L2 Evl
theorem putF_newL {f : Str} {v : V} : ∀ {fs : List (Str × V)}, fs.lookup f = none → putF f v fs = fs ++ [(f, v)]
  | [], _ => rfl
  | (g, x) :: r, h => by
    rw [List.lookup_cons] at h
    by_cases e : g = f
    · subst e
      rw [show (g == g) = true from by simp] at h
      cases h
    · rw [show (f == g) = false from by simp; exact fun z => e z.symm] at h
      rw [putF, if_neg e, putF_newL h]
      rfl
section
variable {X : Addr → Prop} {G0 H0 G H : Hp} {B : List (Addr × Lo)} {K : PySem.W.Frag} {σ : L2.St} {te : TE} {tz : TS} {D : Ends} {i : Nat} {d : PyData} {ds : List PyData} {x C dx : Addr} {fs : List (Str × V)} {f : Str}
theorem St.ofIns (s : Ex G H) (gx : G x = none) (hx : H x = some (.ins C dx fs)) : St (fun a => a = x) G H G H [(x, .ins C dx fs)] := ⟨fun _ _ _ h => h, Ex.refl _, s, fun _ _ h => h, fun _ _ h => .inl h, (fun a e => by rw [e, hx]; exact fun z => by cases z), (fun q h => by
  cases List.mem_singleton.mp h
  exact ⟨.inl rfl, gx, fs, hx, rfl⟩), by simp⟩
theorem q_fldS (S : St X G0 H0 G H ((x, .ins C dx fs) :: B)) (hσ : σ[i]? = some (some (.ref x))) (c : Cls K C) (n : NoAttr K C f) (hn : fs.lookup f = none) (hl : fs.length < 1000) (h : EvD te σ G d)
    (k : ∀ v G1 H1, St X G0 H0 G1 H1 ((x, .ins C dx (fs ++ [(f, v)])) :: B) → Ex G G1 → Da G1 v d → tz D σ H1) : tSeq (sFld K (tVar i) te f) tz D σ H := h.go S.s fun v G1 H1 r hd => by
  have S1 := S.ev r
  obtain ⟨xs, e, rfl⟩ := (S1.l _ (.head _)).2.2
  refine ⟨_, hσ, x, C, dx, xs, rfl, e, c, n, hl, ?_⟩
  rw [putF_newL hn]
  exact k v G1 _ (S1.mut ⟨_, rfl, rfl⟩) r.g hd
theorem s_fldS (S : St X G0 H0 G H ((x, .ins C dx fs) :: B)) (hσ : σ[i]? = some (some (.ref x))) (c : Cls K C) (n : NoAttr K C f) (hn : fs.lookup f = none) (hl : fs.length < 1000) (h : EvD te σ G d)
    (k : ∀ v G1 H1, St X G0 H0 G1 H1 ((x, .ins C dx (fs ++ [(f, v)])) :: B) → Ex G G1 → Da G1 v d → D.nx σ H1) : sFld K (tVar i) te f D σ H := q_fldS (tz := fun D => D.nx) S hσ c n hn hl h k
/-- list(d), the keys texts -/
theorem evd_listD {kvs : List (PyData × PyData)} (h : EvD te σ G (.dict kvs)) (hk : ∀ p ∈ kvs, ∃ x, p.1 = .str x ∧ x.length ≤ 1000) : EvD (tCB rListD (tCons te tNil)) σ G (.list (kvs.map Prod.fst)) := fun G1 H1 x s Q q => h G1 H1 x s _ fun v G2 H2 r hd => by
  cases hd with
  | @dct a us _ ea ha =>
    refine ⟨a, us, rfl, r.s _ _ ea, fun l hl => ?_⟩
    have r2 := r.trans (Gr.new (o := .lst (us.map fun kv => kV kv.1)) r.s hl rfl)
    refine q _ _ _ r2 (.lst upd_same ?_)
    have keys : ∀ (us : List (Key × V)) (kvs : List (PyData × PyData)), DaKvs G2 us kvs → (∀ p ∈ kvs, ∃ x, p.1 = .str x ∧ x.length ≤ 1000) → ∀ G3, DaAll G3 (us.map fun kv => kV kv.1) (kvs.map Prod.fst) := by
      intro us kvs hu
      induction kvs generalizing us with
      | nil => intro _ G3; cases hu; exact .nil
      | cons p kvs ih =>
        intro hk G3
        cases hu with
        | @cons k v us' d _ h1 t =>
          obtain ⟨y, e, hy⟩ := hk _ (.head _)
          refine .cons ?_ (ih _ t (fun p hp => hk p (.tail _ hp)) G3)
          cases k with
          | inl i => cases e
          | inr z => exact .str z (by cases e; exact hy)
    exact keys us kvs ha hk _
theorem evd_sortedD (h : EvD te σ G (.list ds)) (o : SortOk ds) (hl : ds.length ≤ 100000) : EvD (tCB (rSortedD K) (tCons te tNil)) σ G (.list (sortD ds)) := fun G1 H1 x s Q q => h G1 H1 x s _ fun v G2 H2 r hd => by
  obtain ⟨a, xs, rfl, e, hs⟩ := hd.lst_
  refine ⟨G2, a, xs, ds, rfl, r.s _ _ e, r.s, hs, o, hl, fun p ys hp hy => ?_⟩
  refine q _ _ _ (r.trans (Gr.new (o := .lst ys) r.s hp rfl)) (.lst upd_same (hy.up (Ex.new ?_)))
  cases z : G2 p with
  | none => rfl
  | some o => rw [r.s _ _ z] at hp; cases hp
/-- x not in d -/
theorem ev_dnin {ti : TE} {k0 : Str} {ds : List (PyData × PyData)} (hi : Ev ti σ G (.str k0)) (h : EvD te σ G (.dict ds)) (nd : (ds.map Prod.fst).Nodup) : Ev (tDNotIn ti te) σ G (.bl (!keyIn k0 ds)) := fun H1 x Q q => hi H1 x _ fun H2 x2 => h G H2 (Ex.refl _) (x.trans x2) _ fun v G3 H3 r hd => by
  cases hd with
  | @dct a kvs _ ea ha =>
    refine ⟨a, valV kvs (.inr k0), rfl, DGet.k (k := Sum.inr k0) (r.s _ _ ea), ?_⟩
    have e : (valV kvs (.inr k0)).isSome = keyIn k0 ds := by
      by_cases c : keyIn k0 ds = true
      · rw [c]
        obtain ⟨⟨k', d'⟩, hm, e0⟩ := List.mem_map.mp (keyIn_iff.mp c)
        cases (show k' = PyData.str k0 from e0)
        obtain ⟨u, e1, _⟩ := ha.get (k := .inr k0) nd hm
        rw [e1]
        rfl
      · rw [ha.not (k := .inr k0) (fun z => c (keyIn_iff.mpr z)), Bool.eq_false_iff.mpr c]
        rfl
    rw [e]
    exact q H3 (x2.trans r.h)
end
end Lf
set_option maxHeartbeats 400000
/-! All operations of a body; plain -/
namespace Tr
open PySem Lf
def allOps (ds : List PyData) : List (Str × PyData) := ds.flatMap opsS
def txtD : PyData → Str
  | .str x => x
  | _ => Str.empty
def lookO (l : List (Str × PyData)) (x : Str) : PyData := ((l.find? fun p => decide (p.1 = x)).map Prod.snd).getD .none
def keysS (l : List (Str × PyData)) : List PyData := sortD ((l.map Prod.fst).map PyData.str)
def nodesOf (ds : List PyData) : List (PyData × PyData) := (keysS (allOps ds)).map (rowK txtD fun d => lookO (allOps ds) (txtD d))
theorem keysN_short (n : Nat) : ∀ (d : PyData) (op k : Str), isTr n d = true → k ∈ keysN n d op → k.length ≤ op.length + 2 * n := by
  induction n with
  | zero => intro d op k _ h; cases h
  | succ n ih =>
    intro d op k ht h
    obtain ⟨w, nm, ts, rfl⟩ := isTr_tup ht
    obtain ⟨h3, hall⟩ := isTr_sub ht
    rw [keysN] at h
    split at h
    · cases h
    · rcases List.mem_cons.mp h with rfl | h
      · omega
      · obtain ⟨j, hj, h⟩ := List.mem_flatMap.mp h
        have hj := List.mem_range.mp hj
        have := ih _ _ _ (hall _ (getD_mem hj)) h
        rw [kO_len (by omega)] at this
        omega
theorem opsS_short {s : PyData} (h : isSt s = true) {k : Str} (hk : k ∈ (opsS s).map Prod.fst) : k.length ≤ 20 := by
  rw [opsS_keys] at hk
  rcases st_cases h with ⟨x, t, rfl, h1, h2, h3⟩ | ⟨x, a, p, q, t, rfl, h1, h2, h3, h4, h5, h6⟩
  · rw [if_pos (isSet_set x t)] at hk
    have := keysN_short 4 t x k h2 hk
    have := nm_le h1
    omega
  · rw [if_neg (isSet_store x a p q t)] at hk
    have l1 := nm_le h1
    rcases List.mem_cons.mp hk with e | hk
    · rw [e]
      have : (stName (.tuple [.str "store", .str x, .str a, .int p, .int q, t])).length = x.length := rfl
      omega
    · have e : k ∈ keysN 4 t (nm0 x) := hk
      have := keysN_short 4 t (nm0 x) k h6 e
      rw [nm0_kO, kO_len (by decide)] at this
      omega
theorem stName_nm {s : PyData} (h : isSt s = true) : isNm (.str (stName s)) = true := by
  rcases st_cases h with ⟨x, t, rfl, h1, _⟩ | ⟨x, a, p, q, t, rfl, h1, _⟩
  · exact h1
  · exact h1
theorem allOps_app (a b : List PyData) : allOps (a ++ b) = allOps a ++ allOps b := List.flatMap_append
theorem allOps_succ {ds : List PyData} {i : Nat} {s : PyData} (h : ds[i]? = some s) : allOps (ds.take (i + 1)) = allOps (ds.take i) ++ opsS s := by
  rw [take_da h, allOps_app]
  simp [allOps]
theorem allOps_mem {ds : List PyData} {k : Str} (h : k ∈ (allOps ds).map Prod.fst) : ∃ s ∈ ds, k ∈ (opsS s).map Prod.fst := by
  obtain ⟨p, hp, rfl⟩ := List.mem_map.mp h
  obtain ⟨s, hs, hp⟩ := List.mem_flatMap.mp hp
  exact ⟨s, hs, List.mem_map.mpr ⟨p, hp, rfl⟩⟩
theorem allOps_nodup : ∀ (ds : List PyData), (∀ s ∈ ds, isSt s = true) → (ds.map stName).Nodup → ((allOps ds).map Prod.fst).Nodup
  | [], _, _ => List.nodup_nil
  | s :: r, h, nd => by
    rw [List.map_cons, List.nodup_cons] at nd
    have e : allOps (s :: r) = opsS s ++ allOps r := by simp [allOps]
    rw [e, List.map_append, List.nodup_append]
    refine ⟨opsS_nodup (h s (.head _)), allOps_nodup r (fun t ht => h t (.tail _ ht)) nd.2, fun a ha b hb z => ?_⟩
    subst z
    obtain ⟨t, ht, hk⟩ := allOps_mem hb
    have e := goes_one (stName_nm (h s (.head _))) (stName_nm (h t (.tail _ ht))) (opsS_goes ha) (opsS_goes hk)
    exact nd.1 (List.mem_map.mpr ⟨t, ht, e.symm⟩)
theorem allOps_len (ds : List PyData) : (allOps ds).length = nodesN ds := by
  unfold allOps nodesN
  rw [List.length_flatMap]
theorem take_len {ds : List PyData} (i : Nat) : (allOps (ds.take i)).length ≤ (allOps ds).length := by
  have : allOps ds = allOps (ds.take i) ++ allOps (ds.drop i) := by rw [← allOps_app, List.take_append_drop]
  rw [this, List.length_append]
  omega
theorem lookO_mem {l : List (Str × PyData)} {x : Str} (h : x ∈ l.map Prod.fst) : (x, lookO l x) ∈ l := by
  obtain ⟨p, hp, rfl⟩ := List.mem_map.mp h
  unfold lookO
  cases e : l.find? fun q => decide (q.1 = p.1) with
  | none => exact absurd (List.find?_eq_none.mp e p hp) (by simp)
  | some q =>
    have h1 := List.mem_of_find?_eq_some e
    have h2 : q.1 = p.1 := by simpa using List.find?_some e
    show (p.1, q.2) ∈ l
    rw [← h2]
    exact h1
theorem keysS_mem {l : List (Str × PyData)} {d : PyData} (h : d ∈ keysS l) : ∃ x, d = .str x ∧ x ∈ l.map Prod.fst := by
  have := (sortD_perm _).mem_iff.mp h
  obtain ⟨x, hx, rfl⟩ := List.mem_map.mp this
  exact ⟨x, rfl, hx⟩
theorem keysS_len (l : List (Str × PyData)) : (keysS l).length = l.length := by
  unfold keysS
  rw [(sortD_perm _).length_eq, List.length_map, List.length_map]
theorem txt_map (l : List Str) : (l.map PyData.str).map txtD = l := by
  rw [List.map_map]
  exact List.map_id' l
theorem keysS_nodup {l : List (Str × PyData)} (h : (l.map Prod.fst).Nodup) : ((keysS l).map txtD).Nodup := by
  have p := (sortD_perm ((l.map Prod.fst).map PyData.str)).map txtD
  rw [txt_map] at p
  exact p.nodup_iff.mpr h
end Tr
set_option maxHeartbeats 400000
/-! Drawn trees; plain -/
namespace Tr
open PySem Lf
/-- a tree of at most n levels that reads what it may -/
def Drt (n : Nat) (kn se : List Str) (d : PyData) : Prop := isTr n d = true ∧ ∀ a ∈ ats n d, atN a ∈ (if atD a = 0 then kn else se)
theorem drt_at {k : Nat} {kn se : List Str} {x : Str} {z : Int} (hx : isNm (.str x) = true) (h0 : 0 ≤ z) (h3 : z ≤ 3) (hm : x ∈ (if z = 0 then kn else se)) : Drt (k + 1) kn se (.tuple [.str "at", .str x, .int z]) := by
  have l : (3 : Int) < lim := by decide +kernel
  have l0 : -lim < 0 := by decide +kernel
  refine ⟨?_, fun a ha => ?_⟩
  · rw [isTr_cons, if_pos ⟨rfl, by decide +kernel⟩, hx, Bool.true_and]
    show ((decide (-lim < z) && decide (z < lim)) && (decide (0 ≤ z) && decide (z ≤ 3))) = true
    simp only [Bool.and_eq_true, decide_eq_true_eq]
    omega
  · rw [ats, if_pos (show isS "at" (List.getD [PyData.str "at", .str x, .int z] 0 .none) = true from (show isS "at" (.str "at") = true by decide +kernel))] at ha
    cases List.mem_singleton.mp ha
    exact hm
theorem drt_load {k : Nat} {kn se : List Str} {x : Str} {p q : Int} (hx : isNm (.str x) = true) (hp : isIn (.int p) = true) (hq : isIn (.int q) = true) : Drt (k + 1) kn se (.tuple [.str "load", .str x, .int p, .int q]) := by
  refine ⟨?_, fun a ha => ?_⟩
  · rw [isTr_cons, if_neg (fun z => absurd z.1 (by simp)), if_pos ⟨rfl, by decide +kernel⟩, hx]
    show (isIn (.int p) && isIn (.int q)) = true
    rw [hp, hq]
    rfl
  · rw [ats, if_neg (show ¬ isS "at" (List.getD [PyData.str "load", .str x, .int p, .int q] 0 .none) = true from (show ¬ isS "at" (.str "load") = true by decide +kernel))] at ha
    have : subs [.str "load", .str x, .int p, .int q] = [] := by
      show (if isS "op" (.str "load") = true then [PyData.int p, .int q] else []) = []
      rw [if_neg (by decide +kernel)]
    rw [this] at ha
    cases ha
theorem drt_op {k : Nat} {kn se : List Str} {f : Str} {es : List PyData} (hf : isNm (.str f) = true) (hl : es.length ≤ 3) (h : ∀ e ∈ es, Drt k kn se e) : Drt (k + 1) kn se (.tuple (.str "op" :: .str f :: es)) := by
  have so : isS "op" (.str "op") = true := by decide +kernel
  refine ⟨?_, fun a ha => ?_⟩
  · rw [isTr_cons, if_neg (fun z => absurd z.2 (by decide +kernel)), if_neg (fun z => absurd z.2 (by decide +kernel)), if_pos so, hf, decide_eq_true hl]
    simp only [Bool.true_and, List.all_eq_true]
    exact fun e he => (h e he).1
  · rw [ats, if_neg (show ¬ isS "at" (List.getD (PyData.str "op" :: .str f :: es) 0 .none) = true from (show ¬ isS "at" (.str "op") = true by decide +kernel))] at ha
    have : subs (.str "op" :: .str f :: es) = es := by
      show (if isS "op" (.str "op") = true then es else []) = es
      rw [if_pos so]
    rw [this] at ha
    obtain ⟨e, he, ha⟩ := List.mem_flatMap.mp ha
    exact (h e he).2 a ha
theorem isIn_small {i : Int} (h : i.natAbs < 10 ^ 20) : isIn (.int i) = true := by
  have : (10 : Nat) ^ 20 = 100000000000000000000 := by decide
  have l : (100000000000000000000 : Int) < lim := by decide +kernel
  show (decide (-lim < i) && decide (i < lim)) = true
  simp only [Bool.and_eq_true, decide_eq_true_eq]
  omega
end Tr
set_option maxHeartbeats 1000000
/-! Operations as a name and indices; what trees and statements are made of; plain -/
namespace Tr
open PySem Lf
def dig (j : Nat) : Str := Str.ofString (toString ((j : Nat) : Int))
def pth (x : Str) (js : List Nat) : Str := js.foldl kO x
theorem kO_app (x : Str) (j : Nat) : kO x j = x ++ Str.ofString "." ++ dig j := by
  apply Str.ext'
  apply Array.toList_inj.mp
  unfold kO dig
  rw [app_cps, app_cps, app_cps, app_cps, app_cps]
  rfl
theorem str_assoc (a b c : Str) : a ++ b ++ c = a ++ (b ++ c) := by
  apply Str.ext'
  apply Array.toList_inj.mp
  rw [app_cps, app_cps, app_cps, app_cps, List.append_assoc]
theorem join_snoc (y : Str) : ∀ (l : List Str) (a b : Str), Str.join y (a :: l ++ [b]) = Str.join y (a :: l) ++ y ++ b
  | [], a, b => rfl
  | c :: l, a, b => by
    show a ++ y ++ Str.join y (c :: l ++ [b]) = (a ++ y ++ Str.join y (c :: l)) ++ y ++ b
    rw [join_snoc y l c b]
    simp only [str_assoc]
theorem pth_snoc (x : Str) (js : List Nat) (j : Nat) : pth x (js ++ [j]) = kO (pth x js) j := by
  unfold pth
  rw [List.foldl_append]
  rfl
theorem pth_join (x : Str) (js : List Nat) : pth x js = Txt.join "." (x :: js.map dig) := by
  rw [TL.join_eq]
  have : ∀ r : List Nat, pth x r.reverse = Str.join "." (x :: r.reverse.map dig) := by
    intro r
    induction r with
    | nil => rfl
    | cons j r ih =>
      rw [List.reverse_cons, pth_snoc, ih, kO_app, List.map_append]
      show _ = Str.join _ (x :: List.map dig r.reverse ++ [dig j])
      rw [join_snoc]
  have h := this js.reverse
  rwa [List.reverse_reverse] at h
theorem dig_tl {j : Nat} (h : j < 3) : (dig j).cps.toList = [48 + j] := by
  have : j = 0 ∨ j = 1 ∨ j = 2 := by omega
  rcases this with rfl | rfl | rfl <;> decide +kernel
theorem nm_no {x : Str} (h : isNm (.str x) = true) : ∀ c ∈ x.cps.toList, 97 ≤ c ∧ c ≤ 122 := by
  have h : (decide (1 ≤ x.length) && decide (x.length ≤ 8) && lets x) = true := h
  rw [Bool.and_eq_true] at h
  have h2 := h.2
  unfold lets at h2
  rw [List.all_eq_true] at h2
  intro c hc
  have := h2 c hc
  rw [mem_letters] at this
  unfold inz at this
  rw [Bool.and_eq_true, decide_eq_true_eq, decide_eq_true_eq] at this
  exact this
theorem split_pth {x : Str} {js : List Nat} (h : isNm (.str x) = true) (hj : ∀ j ∈ js, j < 3) : Txt.split (pth x js) "." = x :: js.map dig := by
  rw [pth_join]
  refine TL.split_join (s := 46) (S := []) (by decide +kernel) (by decide +kernel) (by simp) fun p hp => ?_
  rcases List.mem_cons.mp hp with rfl | hp
  · intro z
    have := nm_no h 46 z
    omega
  · obtain ⟨j, hj', rfl⟩ := List.mem_map.mp hp
    show 46 ∉ (dig j).cps.toList
    rw [dig_tl (hj j hj')]
    intro z
    have := List.mem_singleton.mp z
    omega
theorem keysN_pth (n : Nat) : ∀ (d : PyData) (op k : Str), isTr n d = true → k ∈ keysN n d op → ∃ js : List Nat, k = pth op js ∧ js.length < n ∧ ∀ j ∈ js, j < 3 := by
  induction n with
  | zero => intro d op k _ h; cases h
  | succ n ih =>
    intro d op k ht h
    obtain ⟨w, nm, ts, rfl⟩ := isTr_tup ht
    obtain ⟨h3, hall⟩ := isTr_sub ht
    rw [keysN] at h
    split at h
    · cases h
    · rcases List.mem_cons.mp h with rfl | h
      · exact ⟨[], rfl, by simp, (fun j hj => by cases hj)⟩
      · obtain ⟨j, hj, h⟩ := List.mem_flatMap.mp h
        have hj := List.mem_range.mp hj
        obtain ⟨js, rfl, h1, h2⟩ := ih _ _ _ (hall _ (getD_mem hj)) h
        refine ⟨j :: js, rfl, by simp; omega, fun i hi => ?_⟩
        rcases List.mem_cons.mp hi with rfl | hi
        · omega
        · exact h2 i hi
/-- an operation of a statement: its name and at most four indices, of four the first is 0 -/
theorem opsS_pth {s : PyData} (h : isSt s = true) {k : Str} (hk : k ∈ (opsS s).map Prod.fst) : ∃ js : List Nat, k = pth (stName s) js ∧ js.length ≤ 4 ∧ (∀ j ∈ js, j < 3) ∧ (js.length = 4 → js.head? = some 0) := by
  rw [opsS_keys] at hk
  rcases st_cases h with ⟨x, t, rfl, h1, h2, h3⟩ | ⟨x, a, p, q, t, rfl, h1, h2, h3, h4, h5, h6⟩
  · rw [if_pos (isSet_set x t)] at hk
    obtain ⟨js, e, hl, hj⟩ := keysN_pth 4 t x k h2 hk
    exact ⟨js, e, by omega, hj, fun z => by omega⟩
  · rw [if_neg (isSet_store x a p q t)] at hk
    rcases List.mem_cons.mp hk with e | hk
    · exact ⟨[], e, by simp, (fun j hj => by cases hj), (fun z => by cases z)⟩
    · have e : k ∈ keysN 4 t (nm0 x) := hk
      obtain ⟨js, e, hl, hj⟩ := keysN_pth 4 t (nm0 x) k h6 e
      refine ⟨0 :: js, ?_, by simp; omega, fun j hj' => ?_, fun _ => rfl⟩
      · rw [e, nm0_kO]
        rfl
      · rcases List.mem_cons.mp hj' with rfl | hj'
        · decide
        · exact hj j hj'
theorem allOps_pth {sts : List PyData} (hall : ∀ s ∈ sts, isSt s = true) {k : Str} (hk : k ∈ (allOps sts).map Prod.fst) : ∃ s ∈ sts, ∃ js : List Nat, k = pth (stName s) js ∧ js.length ≤ 4 ∧ (∀ j ∈ js, j < 3) ∧ (js.length = 4 → js.head? = some 0) := by
  obtain ⟨s, hs, hk⟩ := allOps_mem hk
  exact ⟨s, hs, opsS_pth (hall s hs) hk⟩
/-- texts that are no operations -/
theorem no_empty {sts : List PyData} (hall : ∀ s ∈ sts, isSt s = true) : (Str.ofString "") ∉ (allOps sts).map Prod.fst := fun h => by
  obtain ⟨s, hs, js, e, _, hj, _⟩ := allOps_pth hall h
  have e2 := split_pth (stName_nm (hall s hs)) hj
  rw [← e, show Txt.split (Str.ofString "") "." = [Str.ofString ""] by decide +kernel] at e2
  have := (List.cons.inj e2).1
  have hn := stName_nm (hall s hs)
  rw [← this] at hn
  exact absurd hn (by decide +kernel)
theorem no_word {sts : List PyData} (hall : ∀ s ∈ sts, isSt s = true) {z : Str} (hz : isNm (.str z) = true) (hn : ∀ s ∈ sts, stName s ≠ z) : z ∉ (allOps sts).map Prod.fst := fun h => by
  obtain ⟨s, hs, js, e, _, hj, _⟩ := allOps_pth hall h
  have e2 := split_pth (stName_nm (hall s hs)) hj
  have e3 := split_pth (js := []) hz (fun j hj => by cases hj)
  have e4 : z = pth (stName s) js := e
  rw [← e4] at e2
  have e5 : Txt.split z "." = [z] := e3
  rw [e5] at e2
  exact hn s hs (List.cons.inj e2).1.symm
theorem no_deep {sts : List PyData} (hall : ∀ s ∈ sts, isSt s = true) {x : Str} (hx : isNm (.str x) = true) : x ++ Str.ofString ".2.2.2.2" ∉ (allOps sts).map Prod.fst := fun h => by
  obtain ⟨s, hs, js, e, _, hj, h0⟩ := allOps_pth hall h
  have e2 := split_pth (stName_nm (hall s hs)) hj
  have e3 := split_pth (js := [2, 2, 2, 2]) hx (by decide)
  have ex : x ++ Str.ofString ".2.2.2.2" = pth x [2, 2, 2, 2] := by
    apply Str.ext'
    apply Array.toList_inj.mp
    unfold pth
    simp only [List.foldl_cons, List.foldl_nil, kO_app, app_cps, List.append_assoc]
    congr 1
  rw [← ex, e, e2] at e3
  have e4 := (List.cons.inj e3).2
  have l : js.length = 4 := by
    have := congrArg List.length e4
    simpa using this
  have h1 := h0 l
  match js, l, h1, e4 with
  | [a, b, c, d], _, h1, e4 =>
    cases h1
    have := (List.cons.inj e4).1
    exact absurd this (by decide +kernel)
/-! ### what can be compared -/
def okD (d : PyData) : Bool := flatD d && d.canLay0
theorem str_ok {x : Str} (h : ∀ c ∈ x.cps.toList, c < 1114112) : PyData.strOk x = true := by
  unfold PyData.strOk
  rw [Array.all_eq_true_iff_forall_mem]
  intro c hc
  exact decide_eq_true (h c (Array.mem_toList_iff.mpr hc))
theorem nm_strOk {x : Str} (h : isNm (.str x) = true) : PyData.strOk x = true := str_ok fun c hc => by have := nm_no h c hc; omega
theorem pth_strOk {x : Str} {js : List Nat} (h : isNm (.str x) = true) (hj : ∀ j ∈ js, j < 3) : PyData.strOk (pth x js) = true := by
  have : ∀ (js : List Nat) (x : Str), (∀ c ∈ x.cps.toList, c < 1114112) → (∀ j ∈ js, j < 3) → ∀ c ∈ (pth x js).cps.toList, c < 1114112 := by
    intro js
    induction js with
    | nil => intro x h _; exact h
    | cons j js ih =>
      intro x h hj
      refine ih (kO x j) (fun c hc => ?_) fun i hi => hj i (.tail _ hi)
      rw [kO_app, app_cps, app_cps, List.mem_append, List.mem_append, dig_tl (hj j (.head _))] at hc
      rcases hc with (hc | hc) | hc
      · exact h c hc
      · have e : (Str.ofString ".").cps.toList = [46] := by decide +kernel
        rw [e] at hc
        cases List.mem_singleton.mp hc
        decide
      · cases List.mem_singleton.mp hc
        have := hj j (.head _)
        omega
  exact str_ok (this js x (fun c hc => by have := nm_no h c hc; omega) hj)
theorem okD_cons {d : PyData} {ds : List PyData} (h : okD d = true) (hs : (flatDs ds && PyData.canLayAll0 ds) = true) : (flatDs (d :: ds) && PyData.canLayAll0 (d :: ds)) = true := by
  unfold okD at h
  rw [Bool.and_eq_true] at h hs
  show ((flatD d && flatDs ds) && (PyData.canLay0 d && PyData.canLayAll0 ds)) = true
  rw [h.1, h.2, hs.1, hs.2]
  rfl
theorem okD_all {ds : List PyData} (h : ∀ d ∈ ds, okD d = true) : (flatDs ds && PyData.canLayAll0 ds) = true := by
  induction ds with
  | nil => rfl
  | cons d ds ih => exact okD_cons (h d (.head _)) (ih fun e he => h e (.tail _ he))
theorem okD_tup {ds : List PyData} (h : ∀ d ∈ ds, okD d = true) : okD (.tuple ds) = true := okD_all h
theorem okD_lst {ds : List PyData} (h : ∀ d ∈ ds, okD d = true) : okD (.list ds) = true := okD_all h
theorem okD_str {x : Str} (h : PyData.strOk x = true) : okD (.str x) = true := by
  show (true && PyData.strOk x) = true
  rw [h]; rfl
theorem okD_nm {d : PyData} (h : isNm d = true) : okD d = true := by
  cases d with
  | str x => exact okD_str (nm_strOk h)
  | _ => cases h
theorem okD_int (i : Int) : okD (.int i) = true := rfl
theorem depth_all {ds : List PyData} {n : Nat} (h : ∀ d ∈ ds, d.depth ≤ n) : PyData.depthAll ds ≤ n := by
  induction ds with
  | nil => exact Nat.zero_le _
  | cons d ds ih =>
    show max d.depth (PyData.depthAll ds) ≤ n
    exact Nat.max_le.mpr ⟨h d (.head _), ih fun e he => h e (.tail _ he)⟩
theorem depth_tup {ds : List PyData} {n : Nat} (h : ∀ d ∈ ds, d.depth ≤ n) : (PyData.tuple ds).depth ≤ n + 1 := by
  show PyData.depthAll ds + 1 ≤ n + 1
  have := depth_all h
  omega
theorem nm_depth {d : PyData} (h : isNm d = true) : d.depth = 0 := by
  cases d with
  | str x => rfl
  | _ => cases h
theorem tr_okD : ∀ (n : Nat) {d : PyData}, isTr n d = true → okD d = true ∧ d.depth ≤ n := by
  intro n
  induction n with
  | zero => intro d h; cases h
  | succ n ih =>
    intro d h
    obtain ⟨w, nm, ts, rfl⟩ := isTr_tup h
    rw [isTr_cons] at h
    have two : ∀ {a b : PyData} {l : List PyData} {Q : PyData → Prop}, Q a → Q b → (∀ d ∈ l, Q d) → ∀ d ∈ a :: b :: l, Q d := fun h1 h2 h3 d hd => by
      rcases List.mem_cons.mp hd with rfl | hd
      · exact h1
      · rcases List.mem_cons.mp hd with rfl | hd
        · exact h2
        · exact h3 d hd
    have wd : ∀ {z : Str} {w : PyData}, isS z w = true → PyData.strOk z = true → okD w = true ∧ w.depth ≤ n := fun c hz => by
      rw [isS_eq c]
      exact ⟨okD_str hz, Nat.zero_le _⟩
    split at h
    · rename_i c
      match ts, c.1 with
      | [t], _ =>
        rw [Bool.and_eq_true] at h
        have ht : within 0 3 t = true := h.2
        cases t with
        | int i =>
          have hw := wd c.2 (by decide +kernel)
          exact ⟨okD_tup (two hw.1 (okD_nm h.1) fun d hd => by cases List.mem_singleton.mp hd; rfl), depth_tup (two hw.2 (by rw [nm_depth h.1]; exact Nat.zero_le _) fun d hd => by cases List.mem_singleton.mp hd; exact Nat.zero_le _)⟩
        | _ => cases ht
    · split at h
      · rename_i c
        match ts, c.1 with
        | [t, u], _ =>
          simp only [Bool.and_eq_true] at h
          obtain ⟨i, rfl⟩ := isIn_int (show isIn t = true from h.2.1)
          obtain ⟨j, rfl⟩ := isIn_int (show isIn u = true from h.2.2)
          have hw := wd c.2 (by decide +kernel)
          refine ⟨okD_tup (two hw.1 (okD_nm h.1) fun d hd => ?_), depth_tup (two hw.2 (by rw [nm_depth h.1]; exact Nat.zero_le _) fun d hd => ?_)⟩
          · simp only [List.mem_cons, List.not_mem_nil, or_false] at hd
            rcases hd with rfl | rfl <;> rfl
          · simp only [List.mem_cons, List.not_mem_nil, or_false] at hd
            rcases hd with rfl | rfl <;> exact Nat.zero_le _
      · split at h
        · rename_i c
          simp only [Bool.and_eq_true, List.all_eq_true] at h
          have hw := wd c (by decide +kernel)
          exact ⟨okD_tup (two hw.1 (okD_nm h.1) fun d hd => (ih (h.2.2 d hd)).1), depth_tup (two hw.2 (by rw [nm_depth h.1]; exact Nat.zero_le _) fun d hd => (ih (h.2.2 d hd)).2)⟩
        · cases h
theorem st_okD {s : PyData} (h : isSt s = true) : okD s = true ∧ s.depth ≤ 5 := by
  rcases st_cases h with ⟨x, t, rfl, h1, h2, _⟩ | ⟨x, a, p, q, t, rfl, h1, h2, _, _, _, h6⟩
  · have ht := tr_okD 4 h2
    refine ⟨okD_tup fun d hd => ?_, depth_tup (n := 4) fun d hd => ?_⟩
    · simp only [List.mem_cons, List.not_mem_nil, or_false] at hd
      rcases hd with rfl | rfl | rfl
      · exact okD_str (by decide +kernel)
      · exact okD_nm h1
      · exact ht.1
    · simp only [List.mem_cons, List.not_mem_nil, or_false] at hd
      rcases hd with rfl | rfl | rfl
      · exact Nat.zero_le _
      · exact Nat.zero_le _
      · exact ht.2
  · have ht := tr_okD 4 h6
    refine ⟨okD_tup fun d hd => ?_, depth_tup (n := 4) fun d hd => ?_⟩
    · simp only [List.mem_cons, List.not_mem_nil, or_false] at hd
      rcases hd with rfl | rfl | rfl | rfl | rfl | rfl
      · exact okD_str (by decide +kernel)
      · exact okD_nm h1
      · exact okD_nm h2
      · rfl
      · rfl
      · exact ht.1
    · simp only [List.mem_cons, List.not_mem_nil, or_false] at hd
      rcases hd with rfl | rfl | rfl | rfl | rfl | rfl
      · exact Nat.zero_le _
      · exact Nat.zero_le _
      · exact Nat.zero_le _
      · exact Nat.zero_le _
      · exact Nat.zero_le _
      · exact ht.2
theorem ops_val (n : Nat) : ∀ (d : PyData) (op : Str), isTr n d = true → ∀ p ∈ ops n d op, isTr n p.2 = true := by
  induction n with
  | zero => intro d op h; cases h
  | succ n ih =>
    intro d op h p hp
    obtain ⟨w, nm, ts, rfl⟩ := isTr_tup h
    obtain ⟨h3, hall⟩ := isTr_sub h
    rw [ops] at hp
    split at hp
    · cases hp
    · rcases List.mem_cons.mp hp with rfl | hp
      · exact h
      · obtain ⟨j, hj, hp⟩ := List.mem_flatMap.mp hp
        exact isTr_succ _ _ (ih _ _ (hall _ (getD_mem (List.mem_range.mp hj))) p hp)
theorem opsS_val {s : PyData} (h : isSt s = true) : ∀ p ∈ opsS s, okD p.2 = true ∧ p.2.depth ≤ 5 := fun p hp => by
  have tr : ∀ {d : PyData}, isTr 4 d = true → okD d = true ∧ d.depth ≤ 5 := fun hd => ⟨(tr_okD 4 hd).1, Nat.le_succ_of_le (tr_okD 4 hd).2⟩
  unfold opsS at hp
  rcases st_cases h with ⟨x, t, rfl, h1, h2, _⟩ | ⟨x, a, p', q, t, rfl, h1, h2, _, _, _, h6⟩
  · rw [if_pos (isSet_set x t)] at hp
    exact tr (ops_val 4 t x h2 p hp)
  · rw [if_neg (isSet_store x a p' q t)] at hp
    rcases List.mem_cons.mp hp with rfl | hp
    · exact st_okD h
    · exact tr (ops_val 4 t _ h6 p hp)
theorem look_ok {sts : List PyData} (hall : ∀ s ∈ sts, isSt s = true) {x : Str} (h : x ∈ (allOps sts).map Prod.fst) : okD (lookO (allOps sts) x) = true ∧ (lookO (allOps sts) x).depth ≤ 5 := by
  obtain ⟨s, hs, hp⟩ := List.mem_flatMap.mp (lookO_mem h)
  exact opsS_val (hall s hs) _ hp
theorem okD_flat {d : PyData} (h : okD d = true) : flatD d = true := (Bool.and_eq_true_iff.mp h).1
theorem okD_shaped {d : PyData} (h : okD d = true) (hd : d.depth ≤ 64) : SeqAt.shaped d = true := by
  show (d.canLay0 && decide (d.depth ≤ 64)) = true
  rw [(Bool.and_eq_true_iff.mp h).2, decide_eq_true hd]
  rfl
theorem keys_okD {sts : List PyData} (hall : ∀ s ∈ sts, isSt s = true) : okD (.tuple (keysS (allOps sts))) = true ∧ (PyData.tuple (keysS (allOps sts))).depth ≤ 1 := by
  refine ⟨okD_tup fun d hd => ?_, depth_tup (n := 0) fun d hd => ?_⟩
  · obtain ⟨x, rfl, hx⟩ := keysS_mem hd
    obtain ⟨s, hs, js, rfl, _, hj, _⟩ := allOps_pth hall hx
    exact okD_str (pth_strOk (stName_nm (hall s hs)) hj)
  · obtain ⟨x, rfl, hx⟩ := keysS_mem hd
    exact Nat.zero_le _
end Tr
set_option maxHeartbeats 2000000
namespace My
open PySem L2 Lf Evl Tr
abbrev s_law_is_told : Stmt := top 37
theorem sc_law_is_told : FnScope ["_law_error", "_law_told", "_law_kinds"] ["_law_error", "_law_told"] (defScope s_law_is_told) := ⟨rfl, rfl, rfl, by decide +kernel, rfl, by decide +kernel, by decide +kernel⟩
abbrev s_law_families : Stmt := top 38
theorem sc_law_families : FnScope ["_law_error", "_law_found"] ["_law_error"] (defScope s_law_families) := ⟨rfl, rfl, rfl, by decide +kernel, rfl, by decide +kernel, by decide +kernel⟩
abbrev s_law_errors_right : Stmt := top 39
theorem sc_law_errors_right : FnScope ["_law_value", "_law_base", "_law_at", "_law_one", "_law_name", "_law_number", "_law_many", "_law_undo", "_law_broken", "_law_others", "_law_due", "_law_spot"] ["_law_value"] (defScope s_law_errors_right) := ⟨rfl, rfl, rfl, by decide +kernel, rfl, by decide +kernel, by decide +kernel⟩
structure TxR (P : Program) (K : PySem.W.Frag) (mg : Str → Option Value) (CN fI X0 X1 X2 X3 X4 X5 X6 X7 XF CP fIP CU fIU CM fIM CI fII CB fIB : Addr) : Prop extends Txt P K mg CN fI where
  g0 : mg "InvalidTree" = some (.ref X0)
  x0 : PySem.W.excIn K X0 [.type "ValueError", .type "Exception", .type "BaseException", .type "object"] "ValueError.__new__" = true
  k0 : PySem.W.keepIn K (.ref X0) = true
  b0 : PySem.W.subIn K (.ref X0) (.type "BaseException") = some true
  t0 : PySem.W.typeIn K (.ref X0) = some (.type "type")
  g1 : mg "InvalidBody" = some (.ref X1)
  x1 : PySem.W.excIn K X1 [.type "ValueError", .type "Exception", .type "BaseException", .type "object"] "ValueError.__new__" = true
  k1 : PySem.W.keepIn K (.ref X1) = true
  b1 : PySem.W.subIn K (.ref X1) (.type "BaseException") = some true
  t1 : PySem.W.typeIn K (.ref X1) = some (.type "type")
  g2 : mg "InvalidMachine" = some (.ref X2)
  x2 : PySem.W.excIn K X2 [.type "ValueError", .type "Exception", .type "BaseException", .type "object"] "ValueError.__new__" = true
  k2 : PySem.W.keepIn K (.ref X2) = true
  b2 : PySem.W.subIn K (.ref X2) (.type "BaseException") = some true
  t2 : PySem.W.typeIn K (.ref X2) = some (.type "type")
  g3 : mg "InvalidCover" = some (.ref X3)
  x3 : PySem.W.excIn K X3 [.type "ValueError", .type "Exception", .type "BaseException", .type "object"] "ValueError.__new__" = true
  k3 : PySem.W.keepIn K (.ref X3) = true
  b3 : PySem.W.subIn K (.ref X3) (.type "BaseException") = some true
  t3 : PySem.W.typeIn K (.ref X3) = some (.type "type")
  g4 : mg "InvalidJob" = some (.ref X4)
  x4 : PySem.W.excIn K X4 [.type "ValueError", .type "Exception", .type "BaseException", .type "object"] "ValueError.__new__" = true
  k4 : PySem.W.keepIn K (.ref X4) = true
  b4 : PySem.W.subIn K (.ref X4) (.type "BaseException") = some true
  t4 : PySem.W.typeIn K (.ref X4) = some (.type "type")
  g5 : mg "InvalidLives" = some (.ref X5)
  x5 : PySem.W.excIn K X5 [.type "ValueError", .type "Exception", .type "BaseException", .type "object"] "ValueError.__new__" = true
  k5 : PySem.W.keepIn K (.ref X5) = true
  b5 : PySem.W.subIn K (.ref X5) (.type "BaseException") = some true
  t5 : PySem.W.typeIn K (.ref X5) = some (.type "type")
  g6 : mg "InvalidKernel" = some (.ref X6)
  x6 : PySem.W.excIn K X6 [.type "ValueError", .type "Exception", .type "BaseException", .type "object"] "ValueError.__new__" = true
  k6 : PySem.W.keepIn K (.ref X6) = true
  b6 : PySem.W.subIn K (.ref X6) (.type "BaseException") = some true
  t6 : PySem.W.typeIn K (.ref X6) = some (.type "type")
  g7 : mg "InvalidArgument" = some (.ref X7)
  x7 : PySem.W.excIn K X7 [.type "ValueError", .type "Exception", .type "BaseException", .type "object"] "ValueError.__new__" = true
  k7 : PySem.W.keepIn K (.ref X7) = true
  b7 : PySem.W.subIn K (.ref X7) (.type "BaseException") = some true
  t7 : PySem.W.typeIn K (.ref X7) = some (.type "type")
  gF : mg "FoundryError" = some (.ref XF)
  xF : PySem.W.excIn K XF [.type "ValueError", .type "Exception", .type "BaseException", .type "object"] "ValueError.__new__" = true
  kF : PySem.W.keepIn K (.ref XF) = true
  bF : PySem.W.subIn K (.ref XF) (.type "BaseException") = some true
  tF : PySem.W.typeIn K (.ref XF) = some (.type "type")
  par : PySem.LfX.XTxt P K mg "ParseError" "line" "ValueError" "ValueError.__init__" "ValueError.__new__" [.type "ValueError", .type "Exception", .type "BaseException", .type "object"] CP fIP
  unk : PySem.LfXK.XTxtK P K mg "UnknownName" "wanted" "KeyError" "KeyError.__init__" "LookupError" "LookupError.__new__" CU fIU
  man : PySem.LfX.XTxt P K mg "TooMany" "limit" "OverflowError" "OverflowError.__init__" "OverflowError.__new__" [.type "OverflowError", .type "ArithmeticError", .type "Exception", .type "BaseException", .type "object"] CM fIM
  und : PySem.LfX.XTxt P K mg "NothingToUndo" "many" "IndexError" "IndexError.__init__" "IndexError.__new__" [.type "IndexError", .type "LookupError", .type "Exception", .type "BaseException", .type "object"] CI fII
  bro : PySem.LfX2.XTxt2 P K mg "Broken" "kind" "reason" "ArithmeticError" "ArithmeticError.__init__" "ArithmeticError.__new__" [.type "ArithmeticError", .type "Exception", .type "BaseException", .type "object"] CB fIB
/-- what isinstance says of the class C -/
def kinds7 (K : PySem.W.Frag) (C XF : Addr) : List (Option Bool) := [PySem.W.kitOne K (.ref C) (.type "ValueError"), PySem.W.kitOne K (.ref C) (.type "KeyError"), PySem.W.kitOne K (.ref C) (.type "RuntimeError"), PySem.W.kitOne K (.ref C) (.type "OverflowError"), PySem.W.kitOne K (.ref C) (.type "IndexError"), PySem.W.kitOne K (.ref C) (.type "ArithmeticError"), PySem.W.kitOne K (.ref C) (.ref XF)]
def KdC (K : PySem.W.Frag) (C XF : Addr) (ks : List Bool) : Prop := kinds7 K C XF = ks.map some
def FmC (K : PySem.W.Frag) (C : Addr) (Xs : List Addr) (fs : List Bool) : Prop := Xs.map (fun X => PySem.W.kitOne K (.ref C) (.ref X)) = fs.map some
theorem map_some_cons {o : Option Bool} {l : List (Option Bool)} {ks : List Bool} (h : o :: l = ks.map some) : ∃ b r, ks = b :: r ∧ o = some b ∧ l = r.map some := by
  cases ks with
  | nil => cases h
  | cons b r =>
    rw [List.map_cons] at h
    injection h with h1 h2
    exact ⟨b, r, rfl, h1, h2⟩
theorem map_some_nil {ks : List Bool} (h : [] = ks.map some) : ks = [] := by
  cases ks with
  | nil => rfl
  | cons b r => cases h
section
variable {K : PySem.W.Frag} {σ : L2.St} {G H : Hp} {te ta tc : TE} {a C : Addr} {fs : List (Str × V)} {b : Bool} {d : PyData} {n : Str}
theorem ev_isV {c : V} {cv : Value} (h : Ev te σ G (.ref a)) (hx : IsX G a C fs) (e : ExcC K C) (hc : Ev tc σ G c) (hcv : ∀ u, RelV c u → u = cv) (hk : PySem.W.kitOne K (.ref C) cv = some b) : Ev (tCB (rIsV K) (tCons te (tCons tc tNil))) σ G (.bl b) := fun H1 x Q q => h H1 x _ fun H2 x2 => hc H2 (x.trans x2) _ fun H3 x3 =>
  ⟨a, C, fs, c, cv, b, rfl, hx.up (x.trans (x2.trans x3)), e, hcv, hk, q H3 (x2.trans x3)⟩
theorem ev_isB {nm : String} (h : Ev te σ G (.ref a)) (hx : IsX G a C fs) (e : ExcC K C) (hk : PySem.W.kitOne K (.ref C) (.type nm) = some b) : EvD (tCB (rIsV K) (tCons te (tCons (tC (.ty nm)) tNil))) σ G (.bool b) := evd_bl (ev_isV h hx e ev_c (fun u r => r) hk)
theorem ev_isO {D : Addr} (h : Ev te σ G (.ref a)) (hx : IsX G a C fs) (e : ExcC K C) (hk : PySem.W.kitOne K (.ref C) (.ref D) = some b) : EvD (tCB (rIsV K) (tCons te (tCons (tC (.ref D)) tNil))) σ G (.bool b) := evd_bl (ev_isV h hx e ev_c (fun u r => r) hk)
theorem evd_xfV {v : V} (h : Ev te σ G (.ref a)) (hx : IsX G a C fs) (e : XfC K C) (hno : PySem.W.findIn K (.ref C) n = some none) (hl : fs.lookup n = some v) (hd : Da G v d) : EvD (tXfV K n te) σ G d := fun G1 H1 x s Q q => h H1 (x.trans s) _ fun H2 x2 =>
  ⟨a, C, fs, v, rfl, hx.up (x.trans (s.trans x2)), e, hno, hl, q v G1 H2 (Gr.keep s x2) (hd.up x)⟩
end
def boolsD (l : List Bool) : PyData := .list (l.map PyData.bool)
def spTold (K : PySem.W.Frag) (XF : Addr) : Sp := fun vs H Q _ => ∃ (G : Hp) (a C : Addr) (fs : List (Str × V)) (v : V) (ks es : List Bool), vs = [.ref a, v] ∧ Ex G H ∧ IsX G a C fs ∧ ExcC K C ∧ KdC K C XF ks ∧ Da G v (boolsD es) ∧ es.length ≤ 100 ∧ ∀ H', Ex H H' → Q (.bl (PyData.eqv (boolsD ks) (boolsD es))) H'
def spFam (K : PySem.W.Frag) (Xs : List Addr) : Sp := fun vs H Q _ => ∃ (G : Hp) (a C : Addr) (fs : List (Str × V)) (ks : List Bool), vs = [.ref a] ∧ Ex G H ∧ IsX G a C fs ∧ ExcC K C ∧ FmC K C Xs ks ∧ ∀ v G' H', Gr G H G' H' → Da G' v (boolsD ks) → Q v H'
theorem bools_flat (l : List Bool) : flatD (boolsD l) = true := by
  unfold boolsD
  induction l with
  | nil => rfl
  | cons b r ih => exact ih
theorem bools_shaped {l : List Bool} (h : l.length ≤ 100) : SeqAt.shaped (boolsD l) = true := okD_shaped (d := boolsD l) (okD_lst fun d hd => by
  obtain ⟨b, _, rfl⟩ := List.mem_map.mp hd
  cases b <;> rfl) (by
  have e : ∀ l : List Bool, PyData.depthAll (l.map PyData.bool) = 0 := fun l => by
    induction l with
    | nil => rfl
    | cons b r ih =>
      rw [List.map_cons, PyData.depthAll, ih]
      rfl
  show PyData.depthAll (l.map PyData.bool) + 1 ≤ 64
  rw [e]
  decide)
section
variable {P : Program} {w : World} {K : PySem.W.Frag} {mg : Str → Option Value} {base : Heap} {CN fI X0 X1 X2 X3 X4 X5 X6 X7 XF CP fIP CU fIU CM fIM CI fII CB fIB : Addr}
theorem ok_law_is_told (T : TxR P K mg CN fI X0 X1 X2 X3 X4 X5 X6 X7 XF CP fIP CU fIU CM fIM CI fII CB fIB) (D : Df K mg "_law_is_told" s_law_is_told) : DefOk P w K mg base CX0 1 "_law_is_told" ["_law_error", "_law_told"] (spTold K XF) := by
  refine D.ok sc_law_is_told (fun _ _ _ _ _ _ us hl => match us, hl with | [_, _], _ => rfl) (fun vs H Q E h => ?_) (fun f cdv A outer s H vs Q E hr h => ?_)
  · obtain ⟨_, _, _, _, _, _, _, rfl, _⟩ := h
    rfl
  obtain ⟨G, a, C, fs, v, ks, es, rfl, s, hx, eC, hk, hv, hl, k⟩ := h
  refine ⟨_, (pss_cons (ps_set (i := 2) sc_law_is_told.nd rfl (Or.inl rfl) (pe_lst (pa_cons (pe_callB call_isV (by rfl) T.n_isinstance (by decide +kernel) (pa_cons (pv 0) (pa_cons (pe_bltn (v := .ty "ValueError") (by rfl) T.n_ValueError (by decide +kernel) rfl) pa_nil))) (pa_cons (pe_callB call_isV (by rfl) T.n_isinstance (by decide +kernel) (pa_cons (pv 0) (pa_cons (pe_bltn (v := .ty "KeyError") (by rfl) T.n_KeyError (by decide +kernel) rfl) pa_nil))) (pa_cons (pe_callB call_isV (by rfl) T.n_isinstance (by decide +kernel) (pa_cons (pv 0) (pa_cons (pe_bltn (v := .ty "RuntimeError") (by rfl) T.n_RuntimeError (by decide +kernel) rfl) pa_nil))) pa_nil)))))
 (pss_cons (ps_set (i := 2) sc_law_is_told.nd rfl (Or.inl rfl) (pe_op op_cat (pv 2) (pe_lst (pa_cons (pe_callB call_isV (by rfl) T.n_isinstance (by decide +kernel) (pa_cons (pv 0) (pa_cons (pe_bltn (v := .ty "OverflowError") (by rfl) T.n_OverflowError (by decide +kernel) rfl) pa_nil))) (pa_cons (pe_callB call_isV (by rfl) T.n_isinstance (by decide +kernel) (pa_cons (pv 0) (pa_cons (pe_bltn (v := .ty "IndexError") (by rfl) T.n_IndexError (by decide +kernel) rfl) pa_nil))) pa_nil)))))
 (pss_cons (ps_set (i := 2) sc_law_is_told.nd rfl (Or.inl rfl) (pe_op op_cat (pv 2) (pe_lst (pa_cons (pe_callB call_isV (by rfl) T.n_isinstance (by decide +kernel) (pa_cons (pv 0) (pa_cons (pe_bltn (v := .ty "ArithmeticError") (by rfl) T.n_ArithmeticError (by decide +kernel) rfl) pa_nil))) (pa_cons (pe_callB call_isV (by rfl) T.n_isinstance (by decide +kernel) (pa_cons (pv 0) (pa_cons (pe_glob (v := V.ref XF) (by rfl) T.gF rfl) pa_nil))) pa_nil)))))
 (pss_one (ps_ret (pe_cmpR (op_eqD hr.units) (pv 2) (pv 1) (nomark _))))))), ?_⟩
  obtain ⟨b0, r, rfl, k0, hk⟩ := map_some_cons hk
  obtain ⟨b1, r, rfl, k1, hk⟩ := map_some_cons hk
  obtain ⟨b2, r, rfl, k2, hk⟩ := map_some_cons hk
  obtain ⟨b3, r, rfl, k3, hk⟩ := map_some_cons hk
  obtain ⟨b4, r, rfl, k4, hk⟩ := map_some_cons hk
  obtain ⟨b5, r, rfl, k5, hk⟩ := map_some_cons hk
  obtain ⟨b6, r, rfl, k6, hk⟩ := map_some_cons hk
  cases map_some_nil hk
  refine q_asgD s (evd_lst (evd_cons (ev_isB (ev_var rfl) hx eC k0) (evd_cons (ev_isB (ev_var rfl) hx eC k1) (evd_cons (ev_isB (ev_var rfl) hx eC k2) evd_nil))) (by simp)) fun v1 G1 H1 r1 h1 => ?_
  have hx := hx.up r1.g
  refine q_asgD r1.s (evd_catL (evd_var rfl h1) (evd_lst (evd_cons (ev_isB (ev_var rfl) hx eC k3) (evd_cons (ev_isB (ev_var rfl) hx eC k4) evd_nil)) (by simp)) (by simp)) fun v2 G2 H2 r2 h2 => ?_
  have hx := hx.up r2.g
  refine q_asgD r2.s (evd_catL (evd_var rfl h2) (evd_lst (evd_cons (ev_isB (ev_var rfl) hx eC k5) (evd_cons (ev_isO (ev_var rfl) hx eC k6) evd_nil)) (by simp)) (by simp)) fun v3 G3 H3 r3 h3 => ?_
  have g := (r1.g.trans r2.g).trans r3.g
  have h3 : Da G3 v3 (boolsD [b0, b1, b2, b3, b4, b5, b6]) := h3
  exact Ev.ret r3.s (ev_eqD (evd_var rfl h3) (evd_var rfl (hv.up g)) (bools_flat _) (bools_flat _) (bools_shaped (by simp)) (bools_shaped hl)) fun H4 x4 => k H4 (((r1.h.trans r2.h).trans r3.h).trans x4)
theorem ok_law_families (T : TxR P K mg CN fI X0 X1 X2 X3 X4 X5 X6 X7 XF CP fIP CU fIU CM fIM CI fII CB fIB) (D : Df K mg "_law_families" s_law_families) : DefOk P w K mg base CX0 1 "_law_families" ["_law_error"] (spFam K [X0, X1, X2, X3, X4, X5, X6, X7, CP]) := by
  refine D.ok sc_law_families (fun _ _ _ _ _ _ us hl => match us, hl with | [_], _ => rfl) (fun vs H Q E h => ?_) (fun f cdv A outer s H vs Q E hr h => ?_)
  · obtain ⟨_, _, _, _, _, rfl, _⟩ := h
    rfl
  obtain ⟨G, a, C, fs, ks, rfl, s, hx, eC, hk, k⟩ := h
  refine ⟨_, (pss_cons (ps_set (i := 1) sc_law_families.nd rfl (Or.inl rfl) (pe_lst (pa_cons (pe_callB call_isV (by rfl) T.n_isinstance (by decide +kernel) (pa_cons (pv 0) (pa_cons (pe_glob (v := V.ref X0) (by rfl) T.g0 rfl) pa_nil))) (pa_cons (pe_callB call_isV (by rfl) T.n_isinstance (by decide +kernel) (pa_cons (pv 0) (pa_cons (pe_glob (v := V.ref X1) (by rfl) T.g1 rfl) pa_nil))) (pa_cons (pe_callB call_isV (by rfl) T.n_isinstance (by decide +kernel) (pa_cons (pv 0) (pa_cons (pe_glob (v := V.ref X2) (by rfl) T.g2 rfl) pa_nil))) pa_nil)))))
 (pss_cons (ps_set (i := 1) sc_law_families.nd rfl (Or.inl rfl) (pe_op op_cat (pv 1) (pe_lst (pa_cons (pe_callB call_isV (by rfl) T.n_isinstance (by decide +kernel) (pa_cons (pv 0) (pa_cons (pe_glob (v := V.ref X3) (by rfl) T.g3 rfl) pa_nil))) (pa_cons (pe_callB call_isV (by rfl) T.n_isinstance (by decide +kernel) (pa_cons (pv 0) (pa_cons (pe_glob (v := V.ref X4) (by rfl) T.g4 rfl) pa_nil))) (pa_cons (pe_callB call_isV (by rfl) T.n_isinstance (by decide +kernel) (pa_cons (pv 0) (pa_cons (pe_glob (v := V.ref X5) (by rfl) T.g5 rfl) pa_nil))) pa_nil))))))
 (pss_cons (ps_set (i := 1) sc_law_families.nd rfl (Or.inl rfl) (pe_op op_cat (pv 1) (pe_lst (pa_cons (pe_callB call_isV (by rfl) T.n_isinstance (by decide +kernel) (pa_cons (pv 0) (pa_cons (pe_glob (v := V.ref X6) (by rfl) T.g6 rfl) pa_nil))) (pa_cons (pe_callB call_isV (by rfl) T.n_isinstance (by decide +kernel) (pa_cons (pv 0) (pa_cons (pe_glob (v := V.ref X7) (by rfl) T.g7 rfl) pa_nil))) pa_nil)))))
 (pss_one (ps_ret (pe_op op_cat (pv 1) (pe_lst (pa_cons (pe_callB call_isV (by rfl) T.n_isinstance (by decide +kernel) (pa_cons (pv 0) (pa_cons (pe_glob (v := V.ref CP) (by rfl) T.par.gC rfl) pa_nil))) pa_nil)))))))), ?_⟩
  obtain ⟨b0, r, rfl, k0, hk⟩ := map_some_cons hk
  obtain ⟨b1, r, rfl, k1, hk⟩ := map_some_cons hk
  obtain ⟨b2, r, rfl, k2, hk⟩ := map_some_cons hk
  obtain ⟨b3, r, rfl, k3, hk⟩ := map_some_cons hk
  obtain ⟨b4, r, rfl, k4, hk⟩ := map_some_cons hk
  obtain ⟨b5, r, rfl, k5, hk⟩ := map_some_cons hk
  obtain ⟨b6, r, rfl, k6, hk⟩ := map_some_cons hk
  obtain ⟨b7, r, rfl, k7, hk⟩ := map_some_cons hk
  obtain ⟨b8, r, rfl, k8, hk⟩ := map_some_cons hk
  cases map_some_nil hk
  refine q_asgD s (evd_lst (evd_cons (ev_isO (ev_var rfl) hx eC k0) (evd_cons (ev_isO (ev_var rfl) hx eC k1) (evd_cons (ev_isO (ev_var rfl) hx eC k2) evd_nil))) (by simp)) fun v1 G1 H1 r1 h1 => ?_
  have hx := hx.up r1.g
  refine q_asgD r1.s (evd_catL (evd_var rfl h1) (evd_lst (evd_cons (ev_isO (ev_var rfl) hx eC k3) (evd_cons (ev_isO (ev_var rfl) hx eC k4) (evd_cons (ev_isO (ev_var rfl) hx eC k5) evd_nil))) (by simp)) (by simp)) fun v2 G2 H2 r2 h2 => ?_
  have hx := hx.up r2.g
  refine q_asgD r2.s (evd_catL (evd_var rfl h2) (evd_lst (evd_cons (ev_isO (ev_var rfl) hx eC k6) (evd_cons (ev_isO (ev_var rfl) hx eC k7) evd_nil)) (by simp)) (by simp)) fun v3 G3 H3 r3 h3 => ?_
  have hx := hx.up r3.g
  exact s_retD r3.s (evd_catL (evd_var rfl h3) (evd_lst (evd_cons (ev_isO (ev_var rfl) hx eC k8) evd_nil) (by simp)) (by simp)) fun v4 G4 H4 r4 h4 => k v4 G4 H4 (((r1.trans r2).trans r3).trans r4) h4
end
end My
set_option maxHeartbeats 400000
/-! l.append(k.pop(draw)): lists that are still written -/
namespace Lf
open PySem L2 Evl
theorem DaAll.erase {H : Hp} {vs : List V} {ds : List PyData} (h : DaAll H vs ds) (k : Nat) : DaAll H (vs.eraseIdx k) (ds.eraseIdx k) := by
  induction ds generalizing vs k with
  | nil => cases h; exact .nil
  | cons d ds ih =>
    cases h with
    | cons h t =>
      cases k with
      | zero => exact t
      | succ k => exact .cons h (ih t k)
section
variable {X : Addr → Prop} {Lm : List V → Prop} {L p q : Addr} {G0 H0 G H : Hp} {B Ls : List (Addr × Lo)} {K : PySem.W.Frag} {σ : L2.St} {te : TE} {tz : TS} {D : Ends} {i j c : Nat} {ds ls fs : List PyData}
/-- a, b = list(l), [] -/
theorem q_parCopy (S : St X G0 H0 G H Ls) (h : EvD te σ G (.list ds)) (k : ∀ p q H1 G1, ¬ X p → ¬ X q → St X G0 H0 G1 H1 ((q, .lst []) :: (p, .lst ds) :: Ls) → Ex G G1 → tz D ((σ.set i (some (.ref p))).set j (some (.ref q))) H1) :
    tSeq (tPar i j (tCons (tCB (fun xs H_1 Q => ∃ p ys, xs = [V.ref p] ∧ (SqL K H_1 p ys ∨ SqT K H_1 p ys) ∧ ∀ l, H_1 l = none → Q (V.ref l) (upd H_1 l (HO.lst ys))) (tCons te tNil)) (tCons (tLst tNil) tNil))) tz D σ H := h.go S.s fun v G1 H1 r hd => by
  obtain ⟨a, xs, rfl, e, hs⟩ := hd.lst_
  have S1 := S.ev r
  refine ⟨a, xs, rfl, .inl (SqL.of (r.s _ _ e)), fun p hp => ?_⟩
  have S2 := S1.new (o := .lst xs) (lo := .lst ds) hp ⟨xs, rfl, hs⟩
  refine ⟨Nat.zero_le _, fun q hq => ⟨_, _, rfl, ?_⟩⟩
  exact k p q _ G1 (S1.notX hp) (S2.notX hq) (S2.new hq ⟨[], rfl, .nil⟩) r.g
/-- a.append(b.pop(draw(wheel, len(b)))) -/
theorem s_appPop {E : XK} {Pre : List PyData → Prop} {Post : List PyData → PyData → Prop} (S : St X G0 H0 G H ((q, .lst fs) :: (p, .lst ls) :: B)) (m : (L, Lo.whl Lm) ∈ B) (hX : X L) (hL : σ[c]? = some (some (.ref L))) (hp : σ[i]? = some (some (.ref p))) (hq : σ[j]? = some (some (.ref q)))
    (hn : 0 < ls.length) (hz : ls.length ≤ 50000) (hf : fs.length ≤ 50000) (pre : Pre [.int (ls.length : Nat)]) (post : ∀ d, Post [.int (ls.length : Nat)] d → ∃ r : Int, d = .int r ∧ 0 ≤ r ∧ r < ls.length)
    (k : ∀ (n : Nat) (h : n < ls.length) G1 H1, St X G0 H0 G1 H1 ((q, .lst (fs ++ [ls[n]])) :: (p, .lst (ls.eraseIdx n)) :: B) → Ex G G1 → D.nx σ H1) :
    tDrop (tBM K "list" rAppend (tVar j) (tCons (tBM K "list" rPopAt (tVar i) (tCons (tCallD (spDr Lm Pre Post) E (tCons (tVar c) (tCons (tCB (fun xs H_1 Q => ∃ p ys, xs = [V.ref p] ∧ (SqL K H_1 p ys ∨ SqT K H_1 p ys) ∧ Q (V.int ys.length) H_1) (tCons (tVar i) tNil)) tNil))) tNil)) tNil)) D σ H := by
  obtain ⟨ys, eq, hfs⟩ := (S.l (q, .lst fs) (.head _)).2.2
  obtain ⟨xs, ep, hls⟩ := (S.l (p, .lst ls) (.tail _ (.head _))).2.2
  refine ⟨_, hq, .inl ⟨rfl, _, SqL.of eq⟩, _, hp, .inl ⟨rfl, _, SqL.of ep⟩, _, hL, _, hp, p, xs, rfl, .inl (SqL.of ep), L, G, [.int (xs.length : Nat)], [.int (ls.length : Nat)], rfl, S.at_ (.tail _ (.tail _ m)), ?_, pre, fun v d G1 H1 r hP hv => ?_⟩
  · rw [hls.len]
    exact .cons (.int _) .nil
  · obtain ⟨z, rfl, z0, z1⟩ := post d hP
    cases hv.int_
    have S1 := S.roll (.tail _ (.tail _ m)) hX r
    obtain ⟨ys1, eq1, hfs1⟩ := (S1.l (q, .lst fs) (.head _)).2.2
    obtain ⟨xs1, ep1, hls1⟩ := (S1.l (p, .lst ls) (.tail _ (.head _))).2.2
    have hlen := hls1.len
    have hk : z.toNat < ls.length := by omega
    obtain ⟨y, ey, hy⟩ : ∃ y, xs1[z.toNat]? = some y ∧ Da G1 y ls[z.toNat] := by
      have hk1 : z.toNat < xs1.length := by omega
      have e1 := List.getElem?_eq_getElem hk1
      obtain ⟨d, hd1, hd2⟩ := hls1.at e1
      rw [List.getElem?_eq_getElem hk] at hd1
      rw [Option.some.inj hd1]
      exact ⟨_, e1, hd2⟩
    have nd := S1.d
    have qp : q ≠ p := fun e => by
      rw [List.map_cons, List.map_cons, List.nodup_cons] at nd
      exact nd.1 (by rw [e]; exact .head _)
    refine ⟨p, xs1, z, z.toNat, y, rfl, rfl, ep1, by omega, by omega, ?_, ey, ?_⟩
    · unfold seqIndex?
      have e : (if z < 0 then z + (xs1.length : Nat) else z) = z := if_neg (by omega)
      simp only [e]
      rw [if_pos (by simp; omega)]
    have S2 := (S1.sw).mut (o := .lst (xs1.eraseIdx z.toNat)) (lo2 := .lst (ls.eraseIdx z.toNat)) ⟨_, rfl, hls1.erase _⟩
    have S3 := S2.sw.mut (o := .lst (ys1 ++ [y])) (lo2 := .lst (fs ++ [ls[z.toNat]])) ⟨_, rfl, hfs1.app (.cons hy .nil)⟩
    refine ⟨q, ys1, y, rfl, rfl, by rw [upd_ne qp]; exact eq1, by rw [hfs1.len]; exact Nat.lt_of_le_of_lt hf (by decide), k z.toNat hk G1 _ S3 r.g⟩
end
end Lf
set_option maxHeartbeats 400000
/-! the state between two statements; [e for i in range(n) if c] -/
namespace Lf
open PySem L2 Evl
theorem q_cut {t tz : TS} {D : Ends} {σ : L2.St} {H : Hp} (M : L2.St → Hp → Prop) (k : ∀ σ' H', M σ' H' → tz D σ' H') (h : ∀ N : L2.St → Hp → Prop, (∀ σ' H', M σ' H' → N σ' H') → t { D with nx := N } σ H) : tSeq t tz D σ H := h (tz D) k
theorem s_ifR {Lm : List V → Prop} {L : Addr} {G H : Hp} {σ : L2.St} {D : Ends} {t : TT} {tu tw : TS} {P : Bool → Prop} (w : At Lm L G H) (h : DrT Lm L t σ G P) (h1 : P true → ∀ G1 H1, GrB Lm L G H G1 H1 → tu D σ H1) (h2 : P false → ∀ G1 H1, GrB Lm L G H G1 H1 → tw D σ H1) : tIfS t tu tw D σ H := q_ifR (tz := fun D => D.nx) w h h1 h2
theorem walk_rng {n : Nat} : Walk (Itr 0 n) n (fun _ => True) (fun i H x H' => H' = H ∧ x = .int (i : Nat)) := by
  refine ⟨fun i H hi _ => hi, fun H _ => Nat.le_refl _, fun i H x H' hi _ y => ?_⟩
  obtain ⟨h1, h2⟩ := y
  exact ⟨h1, by rw [h2]; simp⟩
section
variable {K : PySem.W.Frag} {σ : L2.St} {G : Hp} {te : TE} {t : TT} {ta : TA}
theorem evd_lcRng {j : Nat} {vs : List Nat} {n : Nat} (p : Nat → Bool) (f : Nat → PyData) (h : EvA ta σ G [.int (n : Nat)]) (hz : n ≤ 50000) (hw : ∀ x, wipe ((wipe σ vs).set j (some x)) vs = wipe σ vs)
    (ht : ∀ i, i < n → EvT t ((wipe σ vs).set j (some (.int (i : Nat)))) G (p i)) (he : ∀ i, i < n → p i = true → EvD te ((wipe σ vs).set j (some (.int (i : Nat)))) G (f i)) :
    EvD (tLc (iRng1 ta) (gName j) t te vs) σ G (.list (((List.range n).filter p).map f)) := fun G0 H0 x0 s0 Q q => h H0 (x0.trans s0) _ fun H1 x1 => by
  have s1 := s0.trans x1
  have tg : ∀ i, i < n → EvT t ((wipe σ vs).set j (some (.int (i : Nat)))) G0 (p i) := fun i hi H a Q q => ht i hi H (x0.trans a) Q q
  refine ⟨_, rfl, by omega, by omega, fun D hD => lc_it (walk_rng (n := ((n : Nat) : Int).toNat)) (fun i H' => LcI G0 H1 D H' ((((List.range n).take i).filter p).map f)) (LcI.start s1 hD) (fun _ _ _ _ => trivial) ?_ ?_⟩
  · rintro i x H' H'' hi I ⟨rfl, rfl⟩
    have hi : i < n := by simpa using hi
    exact ⟨hw _, I.turn (by simp [hi]) (by simpa using hz) (tg i hi) (fun hp => (he i hi hp).mono x0) fun H2 I2 => I2⟩
  · rintro H' I
    rw [show (((n : Nat) : Int).toNat) = n from by simp] at I
    rw [show (List.range n).take n = List.range n from by rw [List.take_of_length_le (by simp)]] at I
    obtain ⟨G2, r2, h2⟩ := I.done
    exact q (.ref D) G2 H' ((Gr.keep s0 x1).trans r2) h2
end
end Lf
set_option maxHeartbeats 4000000
namespace My
open PySem L2 Lf Evl Tr
def AllX (H : Hp) : List Addr → List (Addr × List (Str × V)) → Prop
  | [], [] => True
  | a :: as, (C, fs) :: l => IsX H a C fs ∧ AllX H as l
  | _, _ => False
theorem AllX.up {H H1 : Hp} (x : Ex H H1) : ∀ {as : List Addr} {l : List (Addr × List (Str × V))}, AllX H as l → AllX H1 as l
  | [], [], _ => trivial
  | _ :: _, (_, _) :: _, h => ⟨h.1.up x, AllX.up x h.2⟩
  | [], _ :: _, h => h.elim
  | _ :: _, [], h => h.elim
theorem AllX.len {H : Hp} : ∀ {as : List Addr} {l : List (Addr × List (Str × V))}, AllX H as l → as.length = l.length
  | [], [], _ => rfl
  | _ :: _, (_, _) :: _, h => by rw [List.length_cons, List.length_cons, AllX.len h.2]
  | [], _ :: _, h => h.elim
  | _ :: _, [], h => h.elim
theorem AllX.app {H : Hp} : ∀ {as bs : List Addr} {l m : List (Addr × List (Str × V))}, AllX H as l → AllX H bs m → AllX H (as ++ bs) (l ++ m)
  | [], _, [], _, _, h => h
  | _ :: _, _, (_, _) :: _, _, h, h2 => ⟨h.1, AllX.app h.2 h2⟩
  | [], _, _ :: _, _, h, _ => h.elim
  | _ :: _, _, [], _, h, _ => h.elim
theorem AllX.at {H : Hp} : ∀ {as : List Addr} {l : List (Addr × List (Str × V))} {i : Nat} {C : Addr} {fs : List (Str × V)}, AllX H as l → l[i]? = some (C, fs) → ∃ a, as[i]? = some a ∧ IsX H a C fs
  | [], [], _, _, _, _, e => by cases e
  | a :: as, (C, fs) :: l, 0, _, _, h, e => by cases e; exact ⟨a, rfl, h.1⟩
  | a :: as, (_, _) :: l, i + 1, _, _, h, e => AllX.at (i := i) h.2 e
  | [], _ :: _, _, _, _, h, _ => h.elim
  | _ :: _, [], _, _, _, h, _ => h.elim
/-- it evaluates to an error -/
def EvX (G : Hp) (C : Addr) (fs : List (Str × V)) (te : TE) (σ : L2.St) : Prop := ∀ H, Ex G H → ∀ Q : VK, (∀ a H', Ex H H' → IsX H' a C fs → Q (.ref a) H') → te σ H Q
def EvXs (G : Hp) (l : List (Addr × List (Str × V))) (ta : TA) (σ : L2.St) : Prop := ∀ H, Ex G H → ∀ Q : List V → Hp → Prop, (∀ as H', Ex H H' → AllX H' as l → Q (as.map V.ref) H') → ta σ H Q
section
variable {K : PySem.W.Frag} {σ : L2.St} {G H : Hp} {te : TE} {ta tr : TA} {tz : TS} {D : Ends} {C a p : Addr} {fs : List (Str × V)} {l m : List (Addr × List (Str × V))} {as : List Addr} {f g : Str} {v : V} {i j k : Nat}
theorem evx_o {z : Str} : EvX G C [] (fun σ H Q => (tC (.str z)) σ H fun _ H1 => ∀ a, H1 a = none → Q (.ref a) (upd H1 a (ExO (.ref C) a))) σ := fun H x Q q a ha => q a _ (Ex.new ha) (.inl ⟨upd_same, rfl⟩)
theorem isx_new {d e : Addr} (hd : H d = none) (he : H e = none) (ne : d ≠ e) : Ex H (upd (upd H d (.xd fs)) e (ExV C (some d) e)) ∧ IsX (upd (upd H d (.xd fs)) e (ExV C (some d) e)) e C fs := by
  have he' : (upd H d (.xd fs)) e = none := by rw [upd_ne (Ne.symm ne)]; exact he
  exact ⟨(Ex.new hd).trans (Ex.new he'), .inr ⟨d, upd_same, by rw [upd_ne ne, upd_same]⟩⟩
theorem evx_f (hσ : σ[i]? = some (some v)) : EvX G C [(f, v)] (tXV C f (tCons (tVar i) tNil)) σ := fun H x Q q => ⟨v, hσ, v, rfl, fun d e hd he ne => by
  obtain ⟨x1, h1⟩ := isx_new (fs := [(f, v)]) (C := C) hd he ne
  exact q e _ x1 h1⟩
theorem evx_var (hσ : σ[i]? = some (some (.ref a))) (h : IsX G a C fs) : EvX G C fs (tVar i) σ := fun H x Q q => ⟨_, hσ, q a H (Ex.refl _) (h.up x)⟩
theorem evxs_nil : EvXs G [] tNil σ := fun H x Q q => q [] H (Ex.refl _) trivial
theorem evxs_cons (h : EvX G C fs te σ) (hr : EvXs G l tr σ) : EvXs G ((C, fs) :: l) (tCons te tr) σ := fun H x Q q => h H x _ fun a H1 x1 h1 => hr H1 (x.trans x1) _ fun as H2 x2 h2 => q (a :: as) H2 (x1.trans x2) ⟨h1.up x2, h2⟩
theorem q_lstX (s : Ex G H) (h : EvXs G l ta σ) (hl : l.length ≤ 100) (k : ∀ p as H1, Ex H H1 → H1 p = some (.lst (as.map V.ref)) → AllX H1 as l → tz D (σ.set i (some (.ref p))) H1) : tSeq (tAsg (tLst ta) (gName i)) tz D σ H := h H s _ fun as H1 x1 h1 =>
  ⟨by rw [List.length_map, h1.len]; exact Nat.le_trans hl (by decide), fun p hp => k p as _ (x1.trans (Ex.new hp)) upd_same (h1.up (Ex.new hp))⟩
theorem q_catX (s : Ex G H) (hσ : σ[j]? = some (some (.ref p))) (hp : H p = some (.lst (as.map V.ref))) (ha : AllX H as m) (h : EvXs G l ta σ) (hl : l.length ≤ 100) (hm : m.length ≤ 100) (k : ∀ q as H1, Ex H H1 → H1 q = some (.lst (as.map V.ref)) → AllX H1 as (m ++ l) → tz D (σ.set i (some (.ref q))) H1) : tSeq (tAsg (tOp rCat (tVar j) (tLst ta)) (gName i)) tz D σ H :=
  ⟨_, hσ, h H s _ fun bs H1 x1 h1 => ⟨by rw [List.length_map, h1.len]; exact Nat.le_trans hl (by decide), fun q hq => ⟨p, q, as.map V.ref, bs.map V.ref, rfl, rfl, (x1.trans (Ex.new hq)) _ _ hp, upd_same, by rw [List.length_map, List.length_map, h1.len, ha.len]; exact Nat.le_trans (Nat.add_le_add hm hl) (by decide), fun r hr => by
    have x := (x1.trans (Ex.new (o := .lst (bs.map V.ref)) hq)).trans (Ex.new (o := .lst (as.map V.ref ++ bs.map V.ref)) hr)
    refine k r (as ++ bs) _ x ?_ (AllX.app (ha.up x) (h1.up ((Ex.new hq).trans (Ex.new hr))))
    rw [List.map_append]
    exact upd_same⟩⟩⟩
theorem q_par3X {C1 C2 C3 : Addr} {f1 f2 f3 : List (Str × V)} (s : Ex G H) (h : EvXs G [(C1, f1), (C2, f2), (C3, f3)] ta σ) (kk : ∀ a b c H1, Ex H H1 → IsX H1 a C1 f1 → IsX H1 b C2 f2 → IsX H1 c C3 f3 → tz D (((σ.set i (some (.ref a))).set j (some (.ref b))).set k (some (.ref c))) H1) : tSeq (tPar3 i j k ta) tz D σ H := h H s _ fun as H1 x1 h1 => by
  match as, h1 with
  | [a, b, c], ⟨h1, h2, h3, _⟩ => exact ⟨_, _, _, rfl, kk a b c H1 x1 h1 h2 h3⟩
end
end My
set_option maxHeartbeats 4000000
/-! x == y and x != y by an own __eq__, y an instance of the class or a tuple; len(set(ints)) -/
namespace LfN
open PySem PySem.Spec PyProof.Rows
section
variable {M : Model} {prog : Program} {w : World} {A : Around} {E : Value → Shared → Prop} {s : Shared} {K : PySem.W.Frag} {x C f : Addr} {y tb : Value} {ox : Obj} {od : Option Obj}
theorem sub_tup : PySem.W.subIn K (.type "tuple") (.ref C) = some false := by
  have e : fastBuiltinMro "tuple" = some [.type "tuple", .type "object"] := by decide +kernel
  show (fastBuiltinMro "tuple").map (·.contains (.ref C)) = some false
  rw [e]
  first
    | rfl
    | simp
theorem entry_ne {Q : Fin → Shared → Prop} (hu : A.units < cLine) (X : K.In s.heap) (I : PySem.W.InstAt s.heap x ox C od) (he : PySem.W.findIn K (.ref C) "__eq__" = some (some (.ref f))) (hf : PySem.W.isFn K (.ref f) = true)
    (h : wpAny (model prog w) A (call (.ref f) [.ref x, y]) (fun v s' => ∃ b, v = .bool b ∧ Q (.done (.ret (.bool (!b)))) s') E s) : wpAny (model prog w) A (Builtin.«object.__ne__» ⟨[.ref x, y], []⟩) Q E s := by
  unfold Builtin.«object.__ne__»
  repeat (first
    | with_reducible refine wpAny_cRoomFor hu ?_
    | (refine wpAny_bind (m := callSpecialIfBound? (.ref x) (Str.ofString "__eq__") [y]) (PySem.W.ifBound_K X I he hf (wpAny_mono h (fun r s' hr => by
          obtain ⟨b, rfl, hq⟩ := hr
          repeat (first | exact hq | exact wpAny_pure hq | exact wpAny_truthy_bool hq | (refine wpAny_bind (m := truthy (.bool _)) (wpAny_truthy_bool ?_)) | wp_step)) fun _ _ e => e)))
    | wp_step)
theorem call_objNe {Q : Value → Shared → Prop} (hu : A.units + 1 < cLine) (X : K.In s.heap) (I : PySem.W.InstAt s.heap x ox C od) (hm : PySem.W.mroIn K C (.type "object") = some true) (he : PySem.W.findIn K (.ref C) "__eq__" = some (some (.ref f))) (hf : PySem.W.isFn K (.ref f) = true)
    (h : wpAny (model prog w) A.in1 (call (.ref f) [.ref x, y]) (fun v s' => ∃ b, v = .bool b ∧ Q (.bool (!b)) s') E s) :
    wpAny (model prog w) A (call (.builtin "object.__ne__") [.ref x, y]) Q E s :=
  wpAny_call (codeAny_call_builtin F.cmp_object.ne.plain F.cmpEntry_ne (PySem.W.check_slot F.cmpKind_ne F.cmpSplit_ne (I.type.andThen (PySem.W.looks_mroIn X hm)) (F.cmpArgs_ne _ _) (entry_ne (A := A.in1) hu X I he hf h)))
theorem ifBound_objNe {args : List Value} {Q : Option Value → Shared → Prop} (X : K.In s.heap) (I : PySem.W.InstAt s.heap x ox C od) (hs : PySem.W.findIn K (.ref C) "__ne__" = some (some (.builtin "object.__ne__")))
    (h : wpAny M A (call (.builtin "object.__ne__") (.ref x :: args)) (fun v => Q (some v)) E s) : wpAny M A (callSpecialIfBound? (.ref x) "__ne__" args) Q E s := by
  simp only [callSpecialIfBound?, bindSpecialIfBound?]
  refine wpAny_holding (wpAny_bind (wpAny_bind (wpAny_bind (I.type.here ((PySem.W.looks_findIn X hs).here ?_)))))
  refine wpAny_bind (wpAny_askSetting (wpAny_ite ?_))
  have fin : wpAny M A (call (.builtin "object.__ne__") ([.ref x] ++ args) >>= fun v => pure (some v)) Q E s := wpAny_bind (wpAny_mono h (fun v s' h' => wpAny_pure h') fun _ _ h' => h')
  split
  · exact wpAny_bind (wpAny_of_eq (F.cmp_object.ne.bind _) (wpAny_pure (by exact fin)))
  · exact wpAny_tryCatch (wpAny_bind (wpAny_of_eq (F.cmp_object.ne.bind _) (wpAny_pure (by exact fin))))
theorem rc_ne {Q : Value → Shared → Prop} (hu : A.units + 1 < cLine) (X : K.In s.heap) (I : PySem.W.InstAt s.heap x ox C od) (hb : PySem.W.Looks (model prog w) s.heap (typeOf y) tb) (hn : PySem.W.notFirst K C tb = true) (hm : PySem.W.mroIn K C (.type "object") = some true)
    (hs : PySem.W.findIn K (.ref C) "__ne__" = some (some (.builtin "object.__ne__"))) (he : PySem.W.findIn K (.ref C) "__eq__" = some (some (.ref f))) (hf : PySem.W.isFn K (.ref f) = true)
    (h : wpAny (model prog w) A.in1 (call (.ref f) [.ref x, y]) (fun v s' => ∃ b, v = .bool b ∧ Q (.bool (!b)) s') E s) : wpAny (model prog w) A (richCompare .NotEq (.ref x) y) Q E s := by
  have one : wpAny (model prog w) A (tryCompare (.ref x) "__ne__" y) (fun r s' => ∃ v, r = some v ∧ Q v s') E s := by
    unfold tryCompare
    refine wpAny_bind (ifBound_objNe X I hs (call_objNe hu X I hm he hf (wpAny_mono h (fun v s' hv => ?_) fun _ _ e => e)))
    obtain ⟨b, rfl, hq⟩ := hv
    exact ⟨b, rfl, wpAny_pure ⟨_, rfl, hq⟩⟩
  unfold richCompare
  simp only [oneThing_ref]
  refine wpAny_holding (wpAny_bind (wpAny_cRoomFor (Nat.lt_of_succ_lt hu) ?_))
  rw [cmpInfo_NotEq]
  dsimp only
  refine wpAny_bind (I.type.here (wpAny_bind (hb.here ?_)))
  split
  · rename_i q
    have e : PySem.W.subIn K tb (.ref C) = some false := by
      rcases Bool.or_eq_true_iff.mp hn with e | e
      · rw [beq_iff_eq.mp e] at q; simp at q
      · exact beq_iff_eq.mp e
    refine wpAny_bind ((PySem.W.looks_subIn X e).here ?_)
    simp only [Bool.false_eq_true, if_false]
    refine wpAny_bind (wpAny_mono one (fun r s' z => ?_) fun _ _ e => e)
    obtain ⟨v, rfl, hq⟩ := z
    exact wpAny_pure hq
  · refine wpAny_bind (wpAny_pure ?_)
    simp only [Bool.false_eq_true, if_false]
    refine wpAny_bind (wpAny_mono one (fun r s' z => ?_) fun _ _ e => e)
    obtain ⟨v, rfl, hq⟩ := z
    exact wpAny_pure hq
end
end LfN
namespace L2
open PySem PySem.Spec PyProof.Rows
section
variable {X : Cx} {CX : CXT} {C : Addr} {ps : List Str} {n : Nat} {sp : Sp} {E : XK}
/-- an instance of C, or a tuple -/
def InsOrTup (C : Addr) (H : Hp) (y : V) : Prop := (∃ b dy gs, y = V.ref b ∧ H b = some (.ins C dy gs)) ∨ ∃ b xs, y = V.ref b ∧ H b = some (.tup xs)
theorem insOrTup_ty {pins : List (Addr × Obj)} {σ : St} {H : Hp} {s : Shared} {y : V} {u : Value} (I : Inv X pins σ H s) (r : RelV y u) (h : InsOrTup C H y) : ∃ tb, PySem.W.Looks (model X.prog X.w) s.heap (typeOf u) tb ∧ PySem.W.notFirst X.K C tb = true := by
  rcases h with ⟨b, dy, gs, rfl, hb⟩ | ⟨b, xs, rfl, hb⟩
  · cases (show u = Value.ref b from r)
    obtain ⟨mB, J', _⟩ := ins_get I.hok hb
    obtain ⟨od', J', _⟩ := J'.look
    exact ⟨_, J'.type, by simp [PySem.W.notFirst]⟩
  · cases (show u = Value.ref b from r)
    obtain ⟨its, rv, ⟨o, ho, hc, _⟩, hz⟩ := I.tuple (SqT.of hb)
    refine ⟨.type "tuple", fun A Q E s' k q => ?_, ?_⟩
    · exact wpAny_typeOf_ref (k _ _ ho) (by rw [hc]; exact q)
    · unfold PySem.W.notFirst
      rw [LfN.sub_tup]
      simp
def rEqOwnA (C : Addr) (sp : Sp) (E : XK) : R2 := fun x y H Q => ∃ a dx fs, x = V.ref a ∧ H a = some (.ins C dx fs) ∧ InsOrTup C H y ∧ sp [.ref a, y] H (fun z H' => ∃ k, z = .bl k ∧ Q (.bl k) H') E
theorem op_eqOwnA (D : MethOk X.prog X.w X.K X.mg X.base CX n C "__eq__" ps sp) (hr : Room n X.A) (hx : Passes CX X E) : OpR X (compareOp .Eq) (rEqOwnA C sp E) := by
  obtain ⟨f, fd, hm, hb, F⟩ := D
  intro pins s σ H x y v u Q I rx ry h
  obtain ⟨a, dx, fs, rfl, ha, hy, q⟩ := h
  cases (show v = Value.ref a from rx)
  obtain ⟨tb, lk, nf⟩ := insOrTup_ty I ry hy
  obtain ⟨mA, J, _⟩ := ins_get I.hok ha
  obtain ⟨od, J, _⟩ := J.look
  obtain ⟨m, hF⟩ := I.fr
  show wpAny (model X.prog X.w) X.A (richCompare .Eq (.ref a) u) (EP X pins σ Q) X.xe s
  refine PySem.W.cmp_K (op := .Eq) (tb := tb) hr.units0 hF I.ok.mod.kin J lk nf hm.at_ hm.fn (wpAny_mono (wpAny_call (run_fnAt (us := [.ref a, u]) (ws := [.ref a, y]) F hb hr I.env0 hx I (.cons rfl (.cons ry .nil)) q)) (fun w s' z => ?_) fun _ _ x => x)
  obtain ⟨z', H', I', rz, k, ek, qz⟩ := z
  subst ek
  cases (show w = Value.bool k from rz)
  exact ⟨.bl k, H', I', rfl, qz⟩
def rNeOwnA (C : Addr) (sp : Sp) (E : XK) : R2 := fun x y H Q => ∃ a dx fs, x = V.ref a ∧ H a = some (.ins C dx fs) ∧ InsOrTup C H y ∧ sp [.ref a, y] H (fun z H' => ∃ k, z = .bl k ∧ Q (.bl (!k)) H') E
theorem op_neOwnA (D : MethOk X.prog X.w X.K X.mg X.base CX n C "__eq__" ps sp) (hr : Room (n + 1) X.A) (hx : Passes CX X E) (hmo : PySem.W.mroIn X.K C (.type "object") = some true) (hne : PySem.W.findIn X.K (.ref C) "__ne__" = some (some (.builtin "object.__ne__"))) : OpR X (compareOp .NotEq) (rNeOwnA C sp E) := by
  obtain ⟨f, fd, hm, hb, F⟩ := D
  intro pins s σ H x y v u Q I rx ry h
  obtain ⟨a, dx, fs, rfl, ha, hy, q⟩ := h
  cases (show v = Value.ref a from rx)
  obtain ⟨tb, lk, nf⟩ := insOrTup_ty I ry hy
  obtain ⟨mA, J, _⟩ := ins_get I.hok ha
  obtain ⟨od, J, _⟩ := J.look
  have hr1 : Room n X.A.in1 := Room.in1 hr
  show wpAny (model X.prog X.w) X.A (richCompare .NotEq (.ref a) u) (EP X pins σ Q) X.xe s
  refine LfN.rc_ne hr1.units0 I.kIn J lk nf hmo hne hm.at_ hm.fn (wpAny_mono (wpAny_call (run_fnAt (us := [.ref a, u]) (ws := [.ref a, y]) F hb hr1 I.env0.in1 hx I (.cons rfl (.cons ry .nil)) q)) (fun w s' z => ?_) fun _ _ x => x)
  obtain ⟨z', H', I', rz, k, ek, qz⟩ := z
  subst ek
  cases (show w = Value.bool k from rz)
  exact ⟨k, rfl, .bl (!k), H', I', rfl, qz⟩
/-- len(set(xs)), xs a list of ints -/
def lenSet (ns : List Int) : Nat := (PyProof.Rows.firstMet (fun i => ns.getD i 0) ns.length).length
def tLenSetF (K : PySem.W.Frag) (ta : TE) : TE := fun σ H Q => ta σ H fun x H1 => ∃ (l : Addr) (ns : List Int), x = .ref l ∧ SqL K H1 l (ns.map V.int) ∧ ns.length ≤ 4000 ∧ Q (.int (lenSet ns : Nat)) H1
theorem pe_lenSetF {a : Expr} {ta : TE} {p p2 q pos : Pos} (hg : Gl X "len") (hm : X.mg "len" = none) (hg2 : Gl X "set") (hm2 : X.mg "set" = none) (ha : PE X a ta) (hc : X.calm = true := by rfl)
    (na : starEach [a] X.env = (false, eval a X.env) :: starEach [] X.env := by rfl) : PE X (.Call (.Name "len" p) [.Call (.Name "set" p2) [a] [] q] [] pos) (tLenSetF X.K ta) := by
  refine ⟨fun pins s σ H Q I h => ?_⟩
  refine Call_ (ld_blt I hg hm boot_len ?_)
  refine PyProof.Rows.callWith_builtin1 (PyProof.Rows.args_cons ?_ rfl) rfl rfl
  refine Call_ (ld_blt I hg2 hm2 boot_set ?_)
  refine PyProof.Rows.callWith_type1 (PyProof.Rows.args_cons (thn (ha.run pins s σ H _ I h) fun v s1 ⟨x, H1, I1, r1, q1⟩ => PyProof.Rows.args_nil ?_) na) na rfl
  obtain ⟨l, ns, rfl, hq, hl, q1⟩ := q1
  cases r1
  obtain ⟨its, r, pl, hz⟩ := I1.list hq
  have hlen : its.toArray.size = ns.length := by rw [List.size_toArray, ← r.length, List.length_map]
  refine call_set_list (I1.ok.hd hc) pl.isList (by simpa using RZ.intsAre_vals r) (by rw [hlen]; unfold scanBound; omega) fun h' tk hS hk => ?_
  refine PyProof.Rows.args_nil ?_
  rw [hlen] at hS
  have hle := PyProof.Rows.firstMet_length_le (fun i => ns.getD i 0) ns.length
  obtain ⟨o, es, ep, t, ho, hex, hd, _, _, _, hf, hn⟩ := hS
  have I2 : Inv X pins σ H1 { s1 with heap := h', toks := tk } := I1.kept fun b o e => hk b o (Heap.lt_size e) e
  exact call_len_set ho hex hd hf (by rw [hn] <;> omega) ⟨.int (lenSet ns : Nat), H1, I2.tok _, ⟨_, by rw [hn]; rfl⟩, q1⟩
theorem mem_firstMet {f : Nat → Int} : ∀ {n : Nat} {k : Int}, k ∈ PyProof.Rows.firstMet f n ↔ ∃ i < n, f i = k := by
  intro n k
  have h := PyProof.Rows.firstMet_any f n k
  constructor
  · intro hk
    have h1 : (PyProof.Rows.firstMet f n).any (· == k) = true := List.any_eq_true.mpr ⟨k, hk, by simp⟩
    rw [h] at h1
    obtain ⟨x, hx, e⟩ := List.any_eq_true.mp h1
    obtain ⟨i, hi, rfl⟩ := List.mem_map.mp hx
    exact ⟨i, List.mem_range.mp hi, eq_of_beq e⟩
  · rintro ⟨i, hi, rfl⟩
    have h1 : ((List.range n).map f).any (· == f i) = true := List.any_eq_true.mpr ⟨f i, List.mem_map.mpr ⟨i, List.mem_range.mpr hi, rfl⟩, by simp⟩
    rw [← h] at h1
    obtain ⟨x, hx, e⟩ := List.any_eq_true.mp h1
    rw [← eq_of_beq e]
    exact hx
theorem mem_lenSet {ns : List Int} {k : Int} : k ∈ PyProof.Rows.firstMet (fun i => ns.getD i 0) ns.length ↔ k ∈ ns := by
  rw [mem_firstMet]
  constructor
  · rintro ⟨i, hi, rfl⟩
    rw [List.getD_eq_getElem?_getD, List.getElem?_eq_getElem hi]
    exact List.getElem_mem hi
  · intro h
    obtain ⟨i, hi, e⟩ := List.mem_iff_getElem.mp h
    refine ⟨i, hi, ?_⟩
    rw [List.getD_eq_getElem?_getD, List.getElem?_eq_getElem hi, e]
    rfl
theorem lenSet_many {ns : List Int} {x y : Int} (hx : x ∈ ns) (hy : y ∈ ns) (ne : x ≠ y) : lenSet ns ≠ 1 := fun h => by
  obtain ⟨z, hz⟩ := List.length_eq_one_iff.mp h
  have h1 := mem_lenSet.mpr hx
  have h2 := mem_lenSet.mpr hy
  rw [hz] at h1 h2
  exact ne ((List.mem_singleton.mp h1).trans (List.mem_singleton.mp h2).symm)
theorem firstMet_const {f : Nat → Int} {x : Int} : ∀ {n : Nat}, 0 < n → (∀ i < n, f i = x) → PyProof.Rows.firstMet f n = [x]
  | 1, _, h => by
    rw [PyProof.Rows.firstMet_succ, PyProof.Rows.firstMet_zero, h 0 (by omega)]
    rfl
  | n + 2, _, h => by
    rw [PyProof.Rows.firstMet_succ, firstMet_const (n := n + 1) (by omega) (fun i hi => h i (by omega)), h (n + 1) (by omega)]
    show (if ([x].any (· == x)) then [x] else [x] ++ [x]) = [x]
    simp
theorem lenSet_one {ns : List Int} {x : Int} (h0 : ns ≠ []) (h : ∀ y ∈ ns, y = x) : lenSet ns = 1 := by
  unfold lenSet
  rw [firstMet_const (x := x) (List.length_pos_iff.mpr h0) fun i hi => h _ ?_]
  · rfl
  · rw [List.getD_eq_getElem?_getD, List.getElem?_eq_getElem hi]
    exact List.getElem_mem hi
end
end L2
set_option maxHeartbeats 4000000
/-! x == y and x != y by an own __eq__, y an instance of the class or data -/
namespace LfN
open PySem PySem.Spec PyProof.Rows
theorem sub_of {K : PySem.W.Frag} {C : Addr} {T : String} {l : List String} (e : fastBuiltinMro T = some (l.map Value.type)) : PySem.W.subIn K (.type T) (.ref C) = some false := by
  show (fastBuiltinMro T).map (·.contains (.ref C)) = some false
  rw [e]
  have z : (l.map Value.type).contains (Value.ref C) = false := by
    induction l with
    | nil => rfl
    | cons a l ih =>
      rw [List.map_cons, List.contains_cons]
      have : (Value.ref C == Value.type a) = false := rfl
      rw [this, Bool.false_or]
      have key : ∀ l : List String, (l.map Value.type).contains (Value.ref C) = false := fun l => by
        induction l with
        | nil => rfl
        | cons a l ih => rw [List.map_cons, List.contains_cons, ih]; rfl
      exact key l
  rw [Option.map_some, z]
end LfN
namespace L2
open PySem PySem.Spec PyProof.Rows Lf
section
variable {X : Cx} {CX : CXT} {C : Addr} {ps : List Str} {n : Nat} {sp : Sp} {E : XK}
def InsOrDa (C : Addr) (H : Hp) (y : V) : Prop := (∃ b dy gs, y = V.ref b ∧ H b = some (.ins C dy gs)) ∨ y = .non ∨ (∃ x : Str, y = .str x) ∨ ∃ b xs, y = V.ref b ∧ H b = some (.tup xs)
theorem insOrDa_ty {pins : List (Addr × Obj)} {σ : L2.St} {H : Hp} {s : Shared} {y : V} {u : Value} (I : Inv X pins σ H s) (r : RelV y u) (h : InsOrDa C H y) : ∃ tb, PySem.W.Looks (model X.prog X.w) s.heap (typeOf u) tb ∧ PySem.W.notFirst X.K C tb = true := by
  rcases h with h | rfl | ⟨x, rfl⟩ | h
  · exact insOrTup_ty I r (.inl h)
  · cases r
    refine ⟨.type "NoneType", fun A Q E s' k q => wpAny_pure q, ?_⟩
    unfold PySem.W.notFirst
    rw [LfN.sub_of (l := ["NoneType", "object"]) (by decide +kernel)]
    simp
  · obtain ⟨t, rfl⟩ := (show ∃ t, u = Value.str x t from r)
    refine ⟨.type "str", fun A Q E s' k q => wpAny_pure q, ?_⟩
    unfold PySem.W.notFirst
    rw [LfN.sub_of (l := ["str", "object"]) (by decide +kernel)]
    simp
  · exact insOrTup_ty I r (.inr h)
def rEqOwnD (C : Addr) (sp : Sp) (E : XK) : R2 := fun x y H Q => ∃ a dx fs, x = V.ref a ∧ H a = some (.ins C dx fs) ∧ InsOrDa C H y ∧ sp [.ref a, y] H (fun z H' => ∃ k, z = .bl k ∧ Q (.bl k) H') E
theorem op_eqOwnD (D : MethOk X.prog X.w X.K X.mg X.base CX n C "__eq__" ps sp) (hr : Room n X.A) (hx : Passes CX X E) : OpR X (compareOp .Eq) (rEqOwnD C sp E) := by
  obtain ⟨f, fd, hm, hb, F⟩ := D
  intro pins s σ H x y v u Q I rx ry h
  obtain ⟨a, dx, fs, rfl, ha, hy, q⟩ := h
  cases (show v = Value.ref a from rx)
  obtain ⟨tb, lk, nf⟩ := insOrDa_ty I ry hy
  obtain ⟨mA, J, _⟩ := ins_get I.hok ha
  obtain ⟨od, J, _⟩ := J.look
  obtain ⟨m, hF⟩ := I.fr
  show wpAny (model X.prog X.w) X.A (richCompare .Eq (.ref a) u) (EP X pins σ Q) X.xe s
  refine PySem.W.cmp_K (op := .Eq) (tb := tb) hr.units0 hF I.ok.mod.kin J lk nf hm.at_ hm.fn (wpAny_mono (wpAny_call (run_fnAt (us := [.ref a, u]) (ws := [.ref a, y]) F hb hr I.env0 hx I (.cons rfl (.cons ry .nil)) q)) (fun w s' z => ?_) fun _ _ x => x)
  obtain ⟨z', H', I', rz, k, ek, qz⟩ := z
  subst ek
  cases (show w = Value.bool k from rz)
  exact ⟨.bl k, H', I', rfl, qz⟩
def rNeOwnD (C : Addr) (sp : Sp) (E : XK) : R2 := fun x y H Q => ∃ a dx fs, x = V.ref a ∧ H a = some (.ins C dx fs) ∧ InsOrDa C H y ∧ sp [.ref a, y] H (fun z H' => ∃ k, z = .bl k ∧ Q (.bl (!k)) H') E
theorem op_neOwnD (D : MethOk X.prog X.w X.K X.mg X.base CX n C "__eq__" ps sp) (hr : Room (n + 1) X.A) (hx : Passes CX X E) (hmo : PySem.W.mroIn X.K C (.type "object") = some true) (hne : PySem.W.findIn X.K (.ref C) "__ne__" = some (some (.builtin "object.__ne__"))) : OpR X (compareOp .NotEq) (rNeOwnD C sp E) := by
  obtain ⟨f, fd, hm, hb, F⟩ := D
  intro pins s σ H x y v u Q I rx ry h
  obtain ⟨a, dx, fs, rfl, ha, hy, q⟩ := h
  cases (show v = Value.ref a from rx)
  obtain ⟨tb, lk, nf⟩ := insOrDa_ty I ry hy
  obtain ⟨mA, J, _⟩ := ins_get I.hok ha
  obtain ⟨od, J, _⟩ := J.look
  have hr1 : Room n X.A.in1 := Room.in1 hr
  show wpAny (model X.prog X.w) X.A (richCompare .NotEq (.ref a) u) (EP X pins σ Q) X.xe s
  refine LfN.rc_ne hr1.units0 I.kIn J lk nf hmo hne hm.at_ hm.fn (wpAny_mono (wpAny_call (run_fnAt (us := [.ref a, u]) (ws := [.ref a, y]) F hb hr1 I.env0.in1 hx I (.cons rfl (.cons ry .nil)) q)) (fun w s' z => ?_) fun _ _ x => x)
  obtain ⟨z', H', I', rz, k, ek, qz⟩ := z
  subst ek
  cases (show w = Value.bool k from rz)
  exact ⟨k, rfl, .bl (!k), H', I', rfl, qz⟩
end
end L2
set_option maxHeartbeats 8000000
namespace My
open PySem L2 Lf Evl Tr
def kT : List Bool := [true, false, false, false, false, false, true]
def dueI (i : Nat) : List Int := ([[1], [2], [3, 5], [4], [5]] : List (List Int)).getD i []
def famI (i : Nat) : List Bool := (List.range 9).map fun j => decide (j = i)
def dueB (i : Nat) : List Bool := (List.range 7).map fun j => decide (((j : Nat) : Int) ∈ dueI i)
/-- what isinstance says of all the classes -/
structure EF (K : PySem.W.Frag) (CN X0 X1 X2 X3 X4 X5 X6 X7 XF CP CU CM CI CB : Addr) : Prop where
  e0 : ExcC K X0
  e1 : ExcC K X1
  e2 : ExcC K X2
  e3 : ExcC K X3
  e4 : ExcC K X4
  e5 : ExcC K X5
  e6 : ExcC K X6
  e7 : ExcC K X7
  eP : ExcC K CP
  eU : ExcC K CU
  eN : ExcC K CN
  eM : ExcC K CM
  eI : ExcC K CI
  eB : ExcC K CB
  k0 : KdC K X0 XF kT
  m0 : FmC K X0 [X0, X1, X2, X3, X4, X5, X6, X7, CP] (famI 0)
  k1 : KdC K X1 XF kT
  m1 : FmC K X1 [X0, X1, X2, X3, X4, X5, X6, X7, CP] (famI 1)
  k2 : KdC K X2 XF kT
  m2 : FmC K X2 [X0, X1, X2, X3, X4, X5, X6, X7, CP] (famI 2)
  k3 : KdC K X3 XF kT
  m3 : FmC K X3 [X0, X1, X2, X3, X4, X5, X6, X7, CP] (famI 3)
  k4 : KdC K X4 XF kT
  m4 : FmC K X4 [X0, X1, X2, X3, X4, X5, X6, X7, CP] (famI 4)
  k5 : KdC K X5 XF kT
  m5 : FmC K X5 [X0, X1, X2, X3, X4, X5, X6, X7, CP] (famI 5)
  k6 : KdC K X6 XF kT
  m6 : FmC K X6 [X0, X1, X2, X3, X4, X5, X6, X7, CP] (famI 6)
  k7 : KdC K X7 XF kT
  m7 : FmC K X7 [X0, X1, X2, X3, X4, X5, X6, X7, CP] (famI 7)
  kP : KdC K CP XF kT
  mP : FmC K CP [X0, X1, X2, X3, X4, X5, X6, X7, CP] (famI 8)
  kU : KdC K CU XF (dueB 0)
  kN : KdC K CN XF (dueB 1)
  kM : KdC K CM XF (dueB 2)
  kI : KdC K CI XF (dueB 3)
  kB : KdC K CB XF (dueB 4)
  xP : XfC K CP
  xU : XfC K CU
  xN : XfC K CN
  xM : XfC K CM
  xI : XfC K CI
  xB : XfC K CB
section
variable {K : PySem.W.Frag} {σ : L2.St} {G H : Hp} {te ta tb tl : TE} {C a p XF : Addr} {fs : List (Str × V)} {as Xs : List Addr} {ks es : List Bool} {i j k : Nat} {E : XK}
theorem ev_callTold (h : Ev te σ G (.ref a)) (hx : IsX G a C fs) (eC : ExcC K C) (hk : KdC K C XF ks) (he : EvD tb σ G (boolsD es)) (hl : es.length ≤ 100) : Ev (tCallD (spTold K XF) E (tCons te (tCons tb tNil))) σ G (.bl (PyData.eqv (boolsD ks) (boolsD es))) := fun H1 x Q q => h H1 x _ fun H2 x2 => he G H2 (Ex.refl _) (x.trans x2) _ fun v G3 H3 r3 hd =>
  ⟨G3, a, C, fs, v, ks, es, rfl, r3.s, hx.up r3.g, eC, hk, hd, hl, fun H' x' => q H' ((x2.trans r3.h).trans x')⟩
theorem evd_callFam (h : Ev te σ G (.ref a)) (hx : IsX G a C fs) (eC : ExcC K C) (hk : FmC K C Xs ks) : EvD (tCallD (spFam K Xs) E (tCons te tNil)) σ G (boolsD ks) := fun G1 H1 x s Q q => h H1 (x.trans s) _ fun H2 x2 =>
  ⟨G1, a, C, fs, ks, rfl, s.trans x2, hx.up x, eC, hk, fun v G' H' r hv => q v G' H' ((Gr.keep s x2).trans r) hv⟩
theorem ev_ixX (h1 : σ[j]? = some (some (.ref p))) (h2 : Ev tb σ G (.int (i : Nat))) (hp : G p = some (.lst (as.map V.ref))) (ha : as[i]? = some a) : Ev (tOp (rIxL K) (tVar j) tb) σ G (.ref a) := fun H1 x Q q => ⟨_, h1, h2 H1 x _ fun H2 x2 => ⟨p, as.map V.ref, (i : Nat), .ref a, rfl, rfl, SqL.of ((x.trans x2) _ _ hp), atI_nat (by rw [List.getElem?_map, ha]; rfl), q H2 x2⟩⟩
theorem ev_inI {x : Int} {l : List Int} (h : Ev te σ G (.int x)) (hl : EvD tl σ G (.list (l.map PyData.int))) : Ev (tOp (rIn K false) te tl) σ G (.bl (decide (x ∈ l))) := fun H1 e Q q => h H1 e _ fun H2 x2 => hl G H2 (Ex.refl _) (e.trans x2) _ fun v G3 H3 r hd => by
  obtain ⟨a, xs, rfl, ea, hs⟩ := hd.lst_
  cases da_ints hs
  refine ⟨a, _, rfl, .inl (SqL.of (r.s _ _ ea)), rfl, ?_, ?_⟩
  · rw [List.all_map, List.all_eq_true]
    exact fun x _ => rfl
  · rw [if_neg Bool.false_ne_true]
    have e2 : inV (.int x) (l.map V.int) = decide (x ∈ l) := by
      unfold inV
      rw [List.any_map, Bool.eq_iff_iff, List.any_eq_true, decide_eq_true_iff]
      constructor
      · rintro ⟨y, hy, e⟩
        have e : decide (y = x) = true := e
        rw [← of_decide_eq_true e]
        exact hy
      · exact fun h => ⟨x, h, decide_eq_true rfl⟩
    rw [e2]
    exact q H3 (x2.trans r.h)
theorem ev_lenX (h1 : σ[j]? = some (some (.ref p))) (hp : G p = some (.lst (as.map V.ref))) : Ev (tCB (fun xs H Q => ∃ p ys, xs = [V.ref p] ∧ (SqL K H p ys ∨ SqT K H p ys) ∧ Q (.int ys.length) H) (tCons (tVar j) tNil)) σ G (.int ((as.length : Nat) : Int)) := fun H1 x Q q => ⟨_, h1, p, as.map V.ref, rfl, .inl (SqL.of (x _ _ hp)), by rw [List.length_map]; exact q H1 (Ex.refl _)⟩
end
theorem eva_one {σ : L2.St} {G : Hp} {te : TE} {v : V} (h : Ev te σ G v) : EvA (tCons te tNil) σ G [v] := fun H1 x Q q => h H1 x _ fun H2 x2 => q H2 x2
/-- Broken(v, (v, 1)) -/
theorem evx_b {σ : L2.St} {H : Hp} {C : Addr} {f g : Str} {v : V} {i : Nat} (hσ : σ[i]? = some (some v)) (Q : VK) (q : ∀ a t H', Ex H H' → H' t = some (.tup [v, .int 1]) → IsX H' a C [(g, .ref t), (f, v)] → Q (.ref a) H') : tX2V C f g (tCons (tVar i) (tCons (tTup (tCons (tVar i) (tCons (tC (.int 1)) tNil))) tNil)) σ H Q :=
  ⟨v, hσ, v, hσ, (show 2 ≤ sizeLine by decide), fun t ht => ⟨v, .ref t, rfl, fun d e hd he ne => by
    obtain ⟨x1, h1⟩ := isx_new (fs := [(g, .ref t), (f, v)]) (C := C) hd he ne
    exact q e t _ ((Ex.new ht).trans x1) (x1 _ _ upd_same) h1⟩⟩
theorem q_parXB {σ : L2.St} {H : Hp} {C1 C2 : Addr} {f1 f g : Str} {v : V} {i0 i j : Nat} {tz : TS} {D : Ends} (hσ : σ[i0]? = some (some v)) (k : ∀ a7 a8 t H1, Ex H H1 → IsX H1 a7 C1 [(f1, v)] → H1 t = some (.tup [v, .int 1]) → IsX H1 a8 C2 [(g, .ref t), (f, v)] → tz D ((σ.set i (some (.ref a7))).set j (some (.ref a8))) H1) :
    tSeq (tPar i j (tCons (tXV C1 f1 (tCons (tVar i0) tNil)) (tCons (tX2V C2 f g (tCons (tVar i0) (tCons (tTup (tCons (tVar i0) (tCons (tC (.int 1)) tNil))) tNil))) tNil))) tz D σ H := by
  have h1 := (evx_f (G := H) (C := C1) (f := f1) hσ) H (Ex.refl _) (fun x H1 => tX2V C2 f g (tCons (tVar i0) (tCons (tTup (tCons (tVar i0) (tCons (tC (.int 1)) tNil))) tNil)) σ H1 fun y H2 => ∃ v w, [x, y] = [v, w] ∧ tz D ((σ.set i (some v)).set j (some w)) H2) fun a7 H5 x5 h7 =>
    evx_b (C := C2) (f := f) (g := g) hσ _ fun a8 t H6 x6 ht h8 => ⟨_, _, rfl, k a7 a8 t H6 (x5.trans x6) (h7.up x6) ht h8⟩
  exact h1
def dueD : PyData := .list ((List.range 5).map fun i => PyData.list ((dueI i).map PyData.int))
/-- data that repr takes, and whose text is fine -/
structure Nice (d : PyData) : Prop where
  f : flatD d = true
  s : d.showable = true
  n : d.hasDict = false
  dp : d.depth ≤ 32
  l : d.shown.length ≤ 900
  t : PyData.strOk d.shown = true
def niceB (d : PyData) : Bool := flatD d && d.showable && !d.hasDict && decide (d.depth ≤ 32) && decide (d.shown.length ≤ 900) && PyData.strOk d.shown
theorem nice_of {d : PyData} (h : niceB d = true) : Nice d := by
  unfold niceB at h
  simp only [Bool.and_eq_true, Bool.not_eq_true', decide_eq_true_eq] at h
  obtain ⟨⟨⟨⟨⟨h1, h2⟩, h3⟩, h4⟩, h5⟩, h6⟩ := h
  exact ⟨h1, h2, h3, h4, h5, h6⟩
theorem okS {d : PyData} (h : Nice d) : okD (.str d.shown) = true := okD_str h.t
theorem evd_repr {K : PySem.W.Frag} {σ : L2.St} {G : Hp} {te : TE} {d : PyData} (h : EvD te σ G d) (n : Nice d) : EvD (tCB (rReprD K) (tCons te tNil)) σ G (.str d.shown) := evd_str (ev_repr h n.f n.s n.n n.dp (Nat.le_trans n.l (by decide))) (Nat.le_trans n.l (by decide))
def spErr : Sp := fun vs H Q _ => ∃ (G : Hp) (v : V) (d : PyData), vs = [v] ∧ Ex G H ∧ Da G v d ∧ Nice d ∧ Nice (.tuple [d, .int 1]) ∧ ∀ H', Ex H H' → Q (.bl true) H'
section
variable {P : Program} {w : World} {K : PySem.W.Frag} {mg : Str → Option Value} {base : Heap} {CN fI X0 X1 X2 X3 X4 X5 X6 X7 XF CP fIP CU fIU CM fIM CI fII CB fIB : Addr}
def l9 (X0 X1 X2 X3 X4 X5 X6 X7 CP : Addr) (v : V) : List (Addr × List (Str × V)) := [(X0, []), (X1, []), (X2, []), (X3, []), (X4, []), (X5, []), (X6, []), (X7, []), (CP, [("line", v)])]
theorem tab9 (F : EF K CN X0 X1 X2 X3 X4 X5 X6 X7 XF CP CU CM CI CB) {v : V} : ∀ i : Nat, i < 9 → ∃ C fs, (l9 X0 X1 X2 X3 X4 X5 X6 X7 CP v)[i]? = some (C, fs) ∧ ExcC K C ∧ KdC K C XF kT ∧ FmC K C [X0, X1, X2, X3, X4, X5, X6, X7, CP] (famI i)
  | 0, _ => ⟨_, _, rfl, F.e0, F.k0, F.m0⟩
  | 1, _ => ⟨_, _, rfl, F.e1, F.k1, F.m1⟩
  | 2, _ => ⟨_, _, rfl, F.e2, F.k2, F.m2⟩
  | 3, _ => ⟨_, _, rfl, F.e3, F.k3, F.m3⟩
  | 4, _ => ⟨_, _, rfl, F.e4, F.k4, F.m4⟩
  | 5, _ => ⟨_, _, rfl, F.e5, F.k5, F.m5⟩
  | 6, _ => ⟨_, _, rfl, F.e6, F.k6, F.m6⟩
  | 7, _ => ⟨_, _, rfl, F.e7, F.k7, F.m7⟩
  | 8, _ => ⟨_, _, rfl, F.eP, F.kP, F.mP⟩
  | n + 9, h => by omega
def l5 (CU CN CM CI CB : Addr) (v : V) (t : Addr) : List (Addr × List (Str × V)) := [(CU, [("wanted", v)]), (CN, [("value", v)]), (CM, [("limit", v)]), (CI, [("many", v)]), (CB, [("reason", .ref t), ("kind", v)])]
theorem tab5 (F : EF K CN X0 X1 X2 X3 X4 X5 X6 X7 XF CP CU CM CI CB) {v : V} {t : Addr} : ∀ i : Nat, i < 5 → ∃ C fs, (l5 CU CN CM CI CB v t)[i]? = some (C, fs) ∧ ExcC K C ∧ KdC K C XF (dueB i)
  | 0, _ => ⟨_, _, rfl, F.eU, F.kU⟩
  | 1, _ => ⟨_, _, rfl, F.eN, F.kN⟩
  | 2, _ => ⟨_, _, rfl, F.eM, F.kM⟩
  | 3, _ => ⟨_, _, rfl, F.eI, F.kI⟩
  | 4, _ => ⟨_, _, rfl, F.eB, F.kB⟩
  | n + 5, h => by omega
theorem dueB_eq (i : Nat) : boolsD (dueB i) = .list ((List.range 7).map fun j => .bool (decide (((j : Nat) : Int) ∈ dueI i))) := by
  unfold boolsD dueB
  rw [List.map_map]
  rfl
theorem famI_eq (i : Nat) : boolsD (famI i) = .list ((List.range 9).map fun j => .bool (decide (j = i))) := by
  unfold boolsD famI
  rw [List.map_map]
  rfl
theorem bools_eqv (l : List Bool) : PyData.eqv (boolsD l) (boolsD l) = true := SeqAt.eqv_refl _ (Bool.and_eq_true_iff.mp (okD_lst (ds := l.map PyData.bool) fun d hd => by
  obtain ⟨b, _, rfl⟩ := List.mem_map.mp hd
  cases b <;> rfl)).2
theorem okD_eqv {d : PyData} (h : okD d = true) : PyData.eqv d d = true := SeqAt.eqv_refl d (Bool.and_eq_true_iff.mp h).2
theorem ok_law_errors_right (T : TxR P K mg CN fI X0 X1 X2 X3 X4 X5 X6 X7 XF CP fIP CU fIU CM fIM CI fII CB fIB) (F : EF K CN X0 X1 X2 X3 X4 X5 X6 X7 XF CP CU CM CI CB) (D : Df K mg "_law_errors_right" s_law_errors_right) (D_law_is_told : DefOk P w K mg base CX0 1 "_law_is_told" ["_law_error", "_law_told"] (spTold K XF)) (D_law_families : DefOk P w K mg base CX0 1 "_law_families" ["_law_error"] (spFam K [X0, X1, X2, X3, X4, X5, X6, X7, CP])) : DefOkG P w K mg base CX0 4 "_law_errors_right" ["_law_value"] spErr := by
  refine D.okG sc_law_errors_right (fun _ _ _ _ _ _ us hl => match us, hl with | [_], _ => rfl) (fun vs H Q E h => ?_) (fun f cdv A outer s H vs Q E hg hr h => ?_)
  · obtain ⟨_, _, _, rfl, _⟩ := h
    rfl
  obtain ⟨G, v, d, rfl, s, hd, n1, n2, k⟩ := h
  refine ⟨_, (pss_cons (ps_set (i := 1) sc_law_errors_right.nd rfl (Or.inl rfl) (pe_lst (pa_cons (pe_exc1 PySem.F.excBase_ValueError T.x0 T.g0 T.k0 (by rfl) pe_str) (pa_cons (pe_exc1 PySem.F.excBase_ValueError T.x1 T.g1 T.k1 (by rfl) pe_str) (pa_cons (pe_exc1 PySem.F.excBase_ValueError T.x2 T.g2 T.k2 (by rfl) pe_str) (pa_cons (pe_exc1 PySem.F.excBase_ValueError T.x3 T.g3 T.k3 (by rfl) pe_str) (pa_cons (pe_exc1 PySem.F.excBase_ValueError T.x4 T.g4 T.k4 (by rfl) pe_str) pa_nil)))))))
 (pss_cons (ps_set (i := 1) sc_law_errors_right.nd rfl (Or.inl rfl) (pe_op op_cat (pv 1) (pe_lst (pa_cons (pe_exc1 PySem.F.excBase_ValueError T.x5 T.g5 T.k5 (by rfl) pe_str) (pa_cons (pe_exc1 PySem.F.excBase_ValueError T.x6 T.g6 T.k6 (by rfl) pe_str) (pa_cons (pe_exc1 PySem.F.excBase_ValueError T.x7 T.g7 T.k7 (by rfl) pe_str) (pa_cons (pe_xV T.par PySem.F.excBase_ValueError PySem.W.kxs_ValueError hr (by decide) (pa_cons (pv 0) pa_nil)) pa_nil)))))))
 (pss_cons (ps_for PassesOwn.never rfl (pi_range1 (by rfl) T.n_range (pa_cons (pe_callB call_len_seq (by rfl) T.n_len (by decide +kernel) (pa_cons (pv 1) pa_nil)) pa_nil)) (pg_name (i := 2) sc_law_errors_right.nd rfl (Or.inr rfl))
 (pss_cons (ps_if (pt_not (pt_val (pe_callD D_law_is_told (hr.mono (by decide)) pass0 (pa_cons (pe_ix ix_list (pv 1) (pv 2) (fun _ _ => rfl)) (pa_cons (pe_op op_cat (pe_op op_cat (pe_lst (pa_cons pe_bl pa_nil)) (pe_op op_rep (pe_lst (pa_cons pe_bl pa_nil)) pe_int)) (pe_lst (pa_cons pe_bl pa_nil))) pa_nil)))))
 (pss_one (ps_ret pe_bl))
 pss_nil)
 (pss_one (ps_if (pt_cmpR (op_neD hr.units) (pe_callD D_law_families (hr.mono (by decide)) pass0 (pa_cons (pe_ix ix_list (pv 1) (pv 2) (fun _ _ => rfl)) pa_nil)) (pe_lc (own := [("_law_one", 3)]) (by rfl) sc_law_errors_right.nd (pi_range1 (by rfl) T.n_range (pa_cons (pe_callB call_len_seq (by rfl) T.n_len (by decide +kernel) (pa_cons (pv 1) pa_nil)) pa_nil)) (blkOk_by (own := [("_law_one", 3)]) (N := ["_law_value", "_law_base", "_law_at", "_law_one", "_law_name", "_law_number", "_law_many", "_law_undo", "_law_broken", "_law_others", "_law_due", "_law_spot"]) (sc := defScope s_law_errors_right) (by decide +kernel)) (fun _ _ _ _ _ => (pg_name (i := 3) sc_law_errors_right.nd rfl (Or.inl rfl))) (fun _ _ _ _ _ => pts_nil) (fun _ _ _ _ _ => (pe_cmpR op_eq (pv 3) (pv 2) (nomark _)))) (nomark _))
 (pss_one (ps_ret pe_bl))
 pss_nil))))
 (pss_cons (ps_par3 (by rfl) sc_law_errors_right.nd (i := 4) (j := 5) (l := 6) rfl rfl rfl (by decide) (by decide) (by decide) rfl rfl rfl (pa_cons (pe_kV T.unk PySem.F.excBase_LookupError PySem.LfXK.init_KeyError PySem.LfXK.kxs_KeyError hr (by decide) (pa_cons (pv 0) pa_nil)) (pa_cons (pe_xV T.num PySem.F.excBase_RuntimeError PySem.W.kxs_RuntimeError hr (by decide) (pa_cons (pv 0) pa_nil)) (pa_cons (pe_xV T.man PySem.F.excBase_OverflowError PySem.W.kxs_OverflowError hr (by decide) (pa_cons (pv 0) pa_nil)) pa_nil))) (by rfl))
 (pss_cons (ps_par (by rfl) sc_law_errors_right.nd (i := 7) (j := 8) rfl rfl (by decide) rfl rfl (pa_cons (pe_xV T.und PySem.F.excBase_IndexError PySem.W.kxs_IndexError hr (by decide) (pa_cons (pv 0) pa_nil)) (pa_cons (pe_x2V T.bro PySem.F.excBase_ArithmeticError PySem.W.kxs_ArithmeticError hr (by decide) (pa_cons (pv 0) (pa_cons (pe_tup (pa_cons (pv 0) (pa_cons pe_int pa_nil))) pa_nil))) pa_nil)) (by rfl))
 (pss_cons (ps_set (i := 9) sc_law_errors_right.nd rfl (Or.inl rfl) (pe_lst (pa_cons (pv 4) (pa_cons (pv 5) (pa_cons (pv 6) (pa_cons (pv 7) (pa_cons (pv 8) pa_nil)))))))
 (pss_cons (ps_set (i := 10) sc_law_errors_right.nd rfl (Or.inr rfl) (pe_lst (pa_cons (pe_lst (pa_cons pe_int pa_nil)) (pa_cons (pe_lst (pa_cons pe_int pa_nil)) (pa_cons (pe_lst (pa_cons pe_int (pa_cons pe_int pa_nil))) (pa_cons (pe_lst (pa_cons pe_int pa_nil)) (pa_cons (pe_lst (pa_cons pe_int pa_nil)) pa_nil)))))))
 (pss_cons (ps_for PassesOwn.never rfl (pi_range1 (by rfl) T.n_range (pa_cons (pe_callB call_len_seq (by rfl) T.n_len (by decide +kernel) (pa_cons (pv 9) pa_nil)) pa_nil)) (pg_name (i := 2) sc_law_errors_right.nd rfl (Or.inr rfl))
 (pss_one (ps_if (pt_not (pt_val (pe_callD D_law_is_told (hr.mono (by decide)) pass0 (pa_cons (pe_ix ix_list (pv 9) (pv 2) (fun _ _ => rfl)) (pa_cons (pe_lc (own := [("_law_spot", 11)]) (by rfl) sc_law_errors_right.nd (pi_range1 (by rfl) T.n_range (pa_cons pe_int pa_nil)) (blkOk_by (own := [("_law_spot", 11)]) (N := ["_law_value", "_law_base", "_law_at", "_law_one", "_law_name", "_law_number", "_law_many", "_law_undo", "_law_broken", "_law_others", "_law_due", "_law_spot"]) (sc := defScope s_law_errors_right) (by decide +kernel)) (fun _ _ _ _ _ => (pg_name (i := 11) sc_law_errors_right.nd rfl (Or.inl rfl))) (fun _ _ _ _ _ => pts_nil) (fun _ _ _ _ _ => (pe_cmpR (show OpR _ (compareOp .In) (rIn K false) from op_in_seq) (pv 11) (pe_ix (r := rIxL K) ix_list (pv 10) (pv 2) (fun _ _ => rfl)) (by rfl)))) pa_nil)))))
 (pss_one (ps_ret pe_bl))
 pss_nil)))
 (pss_cons (ps_if (pt_cmpR (op_neD hr.units) (pe_lst (pa_cons (pe_callB (call_reprD hg hr) (by rfl) T.n_repr (by decide +kernel) (pa_cons (pe_xfV (pv 4)) pa_nil)) (pa_cons (pe_callB (call_reprD hg hr) (by rfl) T.n_repr (by decide +kernel) (pa_cons (pe_xfV (pv 5)) pa_nil)) (pa_cons (pe_callB (call_reprD hg hr) (by rfl) T.n_repr (by decide +kernel) (pa_cons (pe_xfV (pv 6)) pa_nil)) (pa_cons (pe_callB (call_reprD hg hr) (by rfl) T.n_repr (by decide +kernel) (pa_cons (pe_xfV (pv 7)) pa_nil)) pa_nil))))) (pe_op op_rep (pe_lst (pa_cons (pe_callB (call_reprD hg hr) (by rfl) T.n_repr (by decide +kernel) (pa_cons (pv 0) pa_nil)) pa_nil)) pe_int) (nomark _))
 (pss_one (ps_ret pe_bl))
 pss_nil)
 (pss_one (ps_ret (pe_cmpR (op_eqD hr.units) (pe_lst (pa_cons (pe_callB (call_reprD hg hr) (by rfl) T.n_repr (by decide +kernel) (pa_cons (pe_xfV (pv 8)) pa_nil)) (pa_cons (pe_callB (call_reprD hg hr) (by rfl) T.n_repr (by decide +kernel) (pa_cons (pe_xfV (pv 8)) pa_nil)) (pa_cons (pe_callB (call_reprD hg hr) (by rfl) T.n_repr (by decide +kernel) (pa_cons (pe_xfV (pe_ix ix_list (pv 1) pe_int (fun _ _ => rfl))) pa_nil)) pa_nil)))) (pe_lst (pa_cons (pe_callB (call_reprD hg hr) (by rfl) T.n_repr (by decide +kernel) (pa_cons (pv 0) pa_nil)) (pa_cons (pe_callB (call_reprD hg hr) (by rfl) T.n_repr (by decide +kernel) (pa_cons (pe_tup (pa_cons (pv 0) (pa_cons pe_int pa_nil))) pa_nil)) (pa_cons (pe_callB (call_reprD hg hr) (by rfl) T.n_repr (by decide +kernel) (pa_cons (pv 0) pa_nil)) pa_nil)))) (nomark _))))))))))))), ?_⟩
  refine q_lstX s (evxs_cons evx_o (evxs_cons evx_o (evxs_cons evx_o (evxs_cons evx_o (evxs_cons evx_o evxs_nil))))) (by simp) fun p1 as1 H1 x1 hp1 ha1 => ?_
  refine q_catX (s.trans x1) rfl hp1 ha1 (evxs_cons evx_o (evxs_cons evx_o (evxs_cons evx_o (evxs_cons (evx_f rfl) evxs_nil)))) (by simp) (by simp) fun p as H2 x2 hp ha => ?_
  have ha : AllX H2 as (l9 X0 X1 X2 X3 X4 X5 X6 X7 CP v) := ha
  have hlen : as.length = 9 := ha.len
  have hj : (((as.map V.ref).length : Nat) : Int).toNat = 9 := by rw [List.length_map, hlen]; rfl
  refine ⟨_, rfl, p, as.map V.ref, rfl, .inl (SqL.of hp), _, rfl, by rw [List.length_map, hlen]; decide, by rw [List.length_map, hlen]; decide, for_range (lo := 0) (fun i σ' H' => ∃ u2 u3, σ' = [some v, some (.ref p), u2, u3, none, none, none, none, none, none, none, none] ∧ Ex H2 H') ⟨_, _, rfl, Ex.refl _⟩ ?_ ?_⟩
  · rintro i σ' H' hi ⟨u2, u3, rfl, x⟩
    rw [hj] at hi
    obtain ⟨C, fs, e1, eC, hk, hm⟩ := tab9 F (v := v) i hi
    obtain ⟨a, e2, hx⟩ := ha.at e1
    have e0 : ((0 : Int) + (i : Nat)) = (i : Nat) := by omega
    show gName 2 _ _ _ _
    unfold gName
    refine q_ifD x (b := false) (et_is (et_not (et_B (ev_callTold (ev_ixX (i := i) rfl (Evl.ev_is (ev_var rfl) (by rw [e0])) hp e2) hx eC hk (es := kT) (EvD.is (evd_catL (evd_catL (evd_lst (evd_cons (evd_bl ev_c) evd_nil) (by simp)) (evd_repL (n := 5) (evd_lst (evd_cons (evd_bl ev_c) evd_nil) (by simp)) ev_c (by decide) (by decide) (by simp)) (by decide)) (evd_lst (evd_cons (evd_bl ev_c) evd_nil) (by simp)) (by decide)) rfl) (by decide)))) (by rw [bools_eqv]; rfl)) (fun c => by cases c) (fun _ H3 x3 => ?_)
    try unfold tNext
    try dsimp only
    refine s_ifD (x.trans x3) (b := false) (et_is (et_test (ev_neD (d := boolsD (famI i)) (e := boolsD (famI i)) (evd_callFam (ev_ixX (i := i) rfl (Evl.ev_is (ev_var rfl) (by rw [e0])) hp e2) hx eC hm) (EvD.is (evd_lcRng (n := 9) (fun _ => true) (fun j => .bool (decide (j = i))) (eva_one (Evl.ev_is (ev_lenX rfl hp) (by rw [hlen]))) (by decide) (fun _ => rfl) (fun _ _ => et_yes (b := true)) (fun j hj _ => evd_bl (Evl.ev_is (ev_eqI (ev_var rfl) (Evl.ev_is (ev_var rfl) (by rw [e0]))) (by congr 1; rw [decide_eq_decide]; omega)))) (by rw [filter_yes, famI_eq])) (bools_flat _) (bools_flat _) (bools_shaped (by simp [famI])) (bools_shaped (by simp [famI])))) (by rw [bools_eqv]; rfl)) (fun c => by cases c) (fun _ H4 x4 => ?_)
    exact ⟨_, _, rfl, (x.trans x3).trans x4⟩
  · rintro σ' H3 ⟨u2, u3, rfl, x3⟩
    try unfold tNext
    try dsimp only
    refine q_par3X x3 (evxs_cons (evx_f rfl) (evxs_cons (evx_f rfl) (evxs_cons (evx_f rfl) evxs_nil))) fun a4 a5 a6 H4 x4 h4 h5 h6 => ?_
    try unfold tNext
    try dsimp only
    refine q_parXB rfl fun a7 a8 t H6 x46 h7 ht h8 => ?_
    have h4 := h4.up x46
    have h5 := h5.up x46
    have h6 := h6.up x46
    have x26 : Ex H2 H6 := (x3.trans x4).trans x46
    have x06 : Ex G H6 := ((s.trans x1).trans x2).trans x26
    have hP : IsX H6 (as.getD 8 0) CP [("line", v)] ∧ as[8]? = some (as.getD 8 0) := by
      obtain ⟨a, e, hx⟩ := ha.at (i := 8) (C := CP) (fs := [("line", v)]) rfl
      have : as.getD 8 0 = a := by rw [List.getD_eq_getElem?_getD, e]; rfl
      rw [this]
      exact ⟨hx.up x26, e⟩
    try unfold tNext
    try dsimp only
    refine q_lstX (G := H6) (Ex.refl _) (evxs_cons (evx_var rfl h4) (evxs_cons (evx_var rfl h5) (evxs_cons (evx_var rfl h6) (evxs_cons (evx_var rfl h7) (evxs_cons (evx_var rfl h8) evxs_nil))))) (by simp) fun q as2 H7 x7 hq ha2 => ?_
    have ha2 : AllX H7 as2 (l5 CU CN CM CI CB v t) := ha2
    have hlen2 : as2.length = 5 := ha2.len
    try unfold tNext
    try dsimp only
    refine q_asgD (G := H7) (d := dueD) (Ex.refl _) (EvD.is (evd_lst (evd_cons (evd_lst (evd_cons (evd_int ev_c) evd_nil) (by simp)) (evd_cons (evd_lst (evd_cons (evd_int ev_c) evd_nil) (by simp)) (evd_cons (evd_lst (evd_cons (evd_int ev_c) (evd_cons (evd_int ev_c) evd_nil)) (by simp)) (evd_cons (evd_lst (evd_cons (evd_int ev_c) evd_nil) (by simp)) (evd_cons (evd_lst (evd_cons (evd_int ev_c) evd_nil) (by simp)) evd_nil))))) (by simp)) rfl) fun v10 G8 H8 r8 h10 => ?_
    have hq8 := r8.g _ _ hq
    have ha8 := ha2.up r8.g
    have x68 : Ex H6 G8 := x7.trans r8.g
    have hj2 : (((as2.map V.ref).length : Nat) : Int).toNat = 5 := by rw [List.length_map, hlen2]; rfl
    try unfold tNext
    try dsimp only
    refine ⟨_, rfl, q, as2.map V.ref, rfl, .inl (SqL.of (r8.s _ _ hq8)), _, rfl, by rw [List.length_map, hlen2]; decide, by rw [List.length_map, hlen2]; decide, for_range (lo := 0) (fun i σ' H' => ∃ u2 u11, σ' = [some v, some (.ref p), u2, u3, some (.ref a4), some (.ref a5), some (.ref a6), some (.ref a7), some (.ref a8), some (.ref q), some v10, u11] ∧ Ex G8 H') ⟨_, _, rfl, r8.s⟩ ?_ ?_⟩
    · rintro i σ' H' hi ⟨u2, u11, rfl, x⟩
      rw [hj2] at hi
      obtain ⟨C, fs, e1, eC, hk⟩ := tab5 F (v := v) (t := t) i hi
      obtain ⟨a, e2, hx⟩ := ha8.at e1
      have e0 : ((0 : Int) + (i : Nat)) = (i : Nat) := by omega
      unfold gName
      refine s_ifD x (b := false) (et_is (et_not (et_B (ev_callTold (ev_ixX (i := i) rfl (Evl.ev_is (ev_var rfl) (by rw [e0])) hq8 e2) hx eC hk (es := dueB i) (EvD.is (evd_lcRng (n := 7) (fun _ => true) (fun j => .bool (decide (((j : Nat) : Int) ∈ dueI i))) (eva_one ev_c) (by decide) (fun _ => rfl) (fun _ _ => et_yes (b := true)) (fun j hj _ => evd_bl (ev_inI (ev_var rfl) (evd_ixL (evd_var rfl h10) (Evl.ev_is (ev_var rfl) (by rw [e0])) (atI_nat (by rw [List.getElem?_map, List.getElem?_range hi]; rfl)))))) (by rw [filter_yes, dueB_eq])) (by simp [dueB])))) (by rw [bools_eqv]; rfl)) (fun c => by cases c) (fun _ H3 x3 => ?_)
      exact ⟨_, _, rfl, x.trans x3⟩
    · rintro σ' H9 ⟨u2, u11, rfl, x9⟩
      have hd9 : Da G8 v d := hd.up (x06.trans x68)
      have h4 := h4.up x68
      have h5 := h5.up x68
      have h6 := h6.up x68
      have h7 := h7.up x68
      have h8 := h8.up x68
      have hP9 := hP.1.up x68
      have hpp : G8 p = some (.lst (as.map V.ref)) := (x26.trans x68) _ _ hp
      have ht9 : Da G8 (.ref t) (.tuple [d, .int 1]) := .tup ((x68) _ _ ht) (.cons hd9 (.cons (.int 1) .nil))
      try unfold tNext
      try dsimp only
      have o4 : okD (.list [.str d.shown, .str d.shown, .str d.shown, .str d.shown]) = true := okD_lst fun e he => by
        simp only [List.mem_cons, List.not_mem_nil, or_false, or_self] at he
        rw [he]
        exact okS n1
      refine q_ifD x9 (b := false) (et_is (et_test (ev_neD (d := .list [.str d.shown, .str d.shown, .str d.shown, .str d.shown]) (e := .list [.str d.shown, .str d.shown, .str d.shown, .str d.shown]) (evd_lst (evd_cons (evd_repr (evd_xfV (ev_var rfl) h4 F.xU T.unk.noF rfl hd9) n1) (evd_cons (evd_repr (evd_xfV (ev_var rfl) h5 F.xN T.num.noF rfl hd9) n1) (evd_cons (evd_repr (evd_xfV (ev_var rfl) h6 F.xM T.man.noF rfl hd9) n1) (evd_cons (evd_repr (evd_xfV (ev_var rfl) h7 F.xI T.und.noF rfl hd9) n1) evd_nil)))) (by simp)) (EvD.is (evd_repL (n := 4) (evd_lst (evd_cons (evd_repr (evd_var rfl hd9) n1) evd_nil) (by simp)) ev_c (by decide) (by decide) (by simp)) rfl) (okD_flat o4) (okD_flat o4) (okD_shaped o4 (by show (1 : Nat) ≤ 64; decide)) (okD_shaped o4 (by show (1 : Nat) ≤ 64; decide)))) (by rw [okD_eqv o4]; rfl)) (fun c => by cases c) (fun _ H10 x10 => ?_)
      try unfold tNext
      try dsimp only
      have o3 : okD (.list [.str d.shown, .str (PyData.tuple [d, .int 1]).shown, .str d.shown]) = true := okD_lst fun e he => by
        simp only [List.mem_cons, List.not_mem_nil, or_false] at he
        rcases he with rfl | rfl | rfl
        · exact okS n1
        · exact okS n2
        · exact okS n1
      refine Ev.ret (x9.trans x10) (v := .bl true) (Evl.ev_is (ev_eqD (d := .list [.str d.shown, .str (PyData.tuple [d, .int 1]).shown, .str d.shown]) (e := .list [.str d.shown, .str (PyData.tuple [d, .int 1]).shown, .str d.shown]) (evd_lst (evd_cons (evd_repr (evd_xfV (ev_var rfl) h8 F.xB T.bro.noF rfl hd9) n1) (evd_cons (evd_repr (evd_xfV (ev_var rfl) h8 F.xB T.bro.noG rfl ht9) n2) (evd_cons (evd_repr (evd_xfV (ev_ixX (i := 8) rfl ev_c hpp hP.2) hP9 F.xP T.par.noF rfl hd9) n1) evd_nil))) (by simp)) (evd_lst (evd_cons (evd_repr (evd_var rfl hd9) n1) (evd_cons (evd_repr (evd_tup (evd_cons (evd_var rfl hd9) (evd_cons (evd_int ev_c) evd_nil)) (by simp)) n2) (evd_cons (evd_repr (evd_var rfl hd9) n1) evd_nil))) (by simp)) (okD_flat o3) (okD_flat o3) (okD_shaped o3 (by show (1 : Nat) ≤ 64; decide)) (okD_shaped o3 (by show (1 : Nat) ≤ 64; decide))) (by rw [okD_eqv o3])) fun H11 x11 => k H11 ?_
      exact (x1.trans (x2.trans (x26.trans x68))).trans ((x9.trans x10).trans x11)
end
end My
set_option maxHeartbeats 4000000
/-! a text * a number; errors without own __init__ as values -/
namespace L2
open PySem PySem.Spec PyProof.Rows
section
variable {X : Cx}
def rMulS : R2 := fun x y H Q => ∃ (i : Str) (n : Int), x = .str i ∧ y = .int n ∧ MulOk i n ∧ Q (.str (Txt.mul i n)) H
theorem op_mulS : OpR X (binaryOp .Mult) rMulS := by
  intro pins s σ H x y v u Q I rx ry h
  obtain ⟨i, n, rfl, rfl, hz, q⟩ := h
  obtain ⟨t, rfl⟩ := rx
  obtain ⟨t', rfl⟩ := ry
  exact PySem.SB.mul hz fun t' tk => ⟨.str (Txt.mul i n), H, I.tok _, ⟨_, rfl⟩, q⟩
end
end L2
namespace Lf
open PySem L2 Evl
theorem ev_mulS {σ : L2.St} {G : Hp} {ta tb : TE} {x : Str} {n : Int} (ha : Ev ta σ G (.str x)) (hb : Ev tb σ G (.int n)) (h : MulOk x n) : Ev (tOp rMulS ta tb) σ G (.str (Txt.mul x n)) := fun H1 x1 Q q => ha H1 x1 _ fun H2 x2 => hb H2 (x1.trans x2) _ fun H3 x3 => ⟨x, n, rfl, rfl, h, q H3 (x2.trans x3)⟩
end Lf
set_option maxHeartbeats 4000000
/-! try: body / except A as n: .. / except B: .. : several clauses, with names or without (LfTry, and clauses without a name) -/
namespace L2
open PySem PySem.Spec PyProof.Rows
/-- the ends of a suite, with or without a name -/
def sufEndsM : Option Nat → Ends → Ends
  | none, D => D
  | some i, D => sufEnds i D
/-- what the clauses wish of an exception of the body, one behind the other: its class, the name's slot, the suite -/
def wMix (K : PySem.W.Frag) (Wout : WX) (D : Ends) : List (Value × Option Nat × (Addr → Value → Option Addr → TS)) → WX
  | [] => Wout
  | (c, i, ts) :: r => fun cls d σ H => ∃ b, PySem.W.exmOne K cls c = some b ∧ (b = true → ∀ a, H a = none → ts a cls d (sufEndsM i D) (match i with | none => σ | some i => σ.set i (some (.ref a))) H) ∧ (b = false → wMix K Wout D r cls d σ H)
inductive HdM (X : Cx) : List ExceptHandler → List (Value × Option Nat × (Addr → Value → Option Addr → TS)) → Prop
  | nil : HdM X [] []
  | cons {x n : Str} {c : Value} {i : Nat} {ts : Addr → Value → Option Addr → TS} {b₀ : Stmt} {suite : List Stmt} {np pos' : Pos} {hds : List ExceptHandler} {l : List (Value × Option Nat × (Addr → Value → Option Addr → TS))}
      (hi : X.N[i]? = some n) (hln : X.env.kindOf n = some .local) (hc : Names X x c)
      (hsu : ∀ (a : Addr) (oe : Obj) (cls : Value) (d : Option Addr) (pn : List (Addr × Obj)), Zc cls d oe → (∃ vs, oe.data = .fields vs) → PSs (X.suite a ((a, oe) :: pn)) (b₀ :: suite) (ts a cls d)) (r : HdM X hds l) :
      HdM X (.ExceptHandler (some (.Name x np)) (some n) (b₀ :: suite) pos' :: hds) ((c, some i, ts) :: l)
  | plain {x : Str} {c : Value} {ts : Addr → Value → Option Addr → TS} {b₀ : Stmt} {suite : List Stmt} {np pos' : Pos} {hds : List ExceptHandler} {l : List (Value × Option Nat × (Addr → Value → Option Addr → TS))} (hc : Names X x c)
      (hsu : ∀ (a : Addr) (oe : Obj) (cls : Value) (d : Option Addr) (pn : List (Addr × Obj)), Zc cls d oe → (∃ vs, oe.data = .fields vs) → PSs (X.suite a ((a, oe) :: pn)) (b₀ :: suite) (ts a cls d)) (r : HdM X hds l) :
      HdM X (.ExceptHandler (some (.Name x np)) none (b₀ :: suite) pos' :: hds) ((c, none, ts) :: l)
section
variable {X : Cx} {body : List Stmt} {h₀ : ExceptHandler} {hds : List ExceptHandler} {l : List (Value × Option Nat × (Addr → Value → Option Addr → TS))} {pos : Pos} {tb : WX → TS} {Wout : WX}
theorem ps_tryMix (hs : X.stack = X.env :: X.outer) (hf : X.env.frame = some X.env.locals) (hN : X.N.Nodup) (tk : Takes X Wout)
    (hb : ∀ (W : WX) (pn : List (Addr × Obj)) (xe : Value → Shared → Prop), Takes (X.tr pn xe) W → PassesOwn (model X.prog X.w) X.A X.env xe → PSs (X.tr pn xe) body (tb W))
    (hh : HdM X (h₀ :: hds) l) : PS X (.Try body (h₀ :: hds) [] [] pos) (fun D σ H => tb (wMix X.K Wout D l) D σ H) := by
  refine ⟨fun pins s σ H D I h => ?_⟩
  have ok := I.ok
  have hfr : X.A.frames = some (X.env :: X.outer) := by rw [ok.frames, hs]
  refine wpAny_Try_except ?_
  refine wpAny_mono ((hb (wMix X.K Wout D l) (X.pn ++ pins) (fun e s₁ => wpAny (model X.prog X.w) X.A (noteFrame e X.env) (fun _ s₂ => wpAny (model X.prog X.w) X.A (setFlight e none) (fun _ s₃ =>
    wpAny (model X.prog X.w) X.A (handleBy e X.env (h₀ :: hds)) (SP X pins D) X.xe s₃) X.xe s₂) X.xe s₁) (fun u s' xx => ?_) PassesOwn.looking).run [] s σ H D (I.toTry _) h) (fun f s1 hsp => ?_) (fun e s1 he => he)
  · obtain ⟨a, B, sI, pins', σ', H', cls, d, rfl, J', nb, up, sky, na, os, ag, w⟩ := xx
    have J : Inv X pins σ' H' sI := J'.ofTry ok
    have sky' : Sky B (X.env :: X.outer) a (Zc cls d) X.env.locals s'.heap := by rw [← hs]; exact sky
    show wpAny (model X.prog X.w) X.A (noteFrame (.ref a) X.env) _ _ _
    refine Sky.land Zc.steady hfr hf sky' fun h3 fl3 up3 => ?_
    have J3 : Inv X pins σ' H' { s' with heap := h3 } := J.landed nb fl3.1 (up.trans up3) os ag
    obtain ⟨oe3, vs3, he3, hz3, hd3⟩ := fl3.there
    have nfr : a ∉ frs (X.env :: X.outer) := fun hm => by
      obtain ⟨_, o', e', hnf⟩ := fl3.2.2.1.mem hm
      rw [he3] at e'; cases e'
      exact hnf _ hd3
    have nL : a ≠ X.env.locals := fun z => nfr (List.mem_filterMap.mpr ⟨X.env, List.mem_cons_self, by rw [hf, z]⟩)
    have nF : a ∉ X.fs := fun hm => by
      obtain ⟨e, he, q⟩ := List.mem_filterMap.mp hm
      exact nfr (List.mem_filterMap.mpr ⟨e, List.mem_cons_of_mem _ he, q⟩)
    have S3 := J3.suite he3 hd3 na nL nF
    have go : ∀ {hds' : List ExceptHandler} {l' : List (Value × Option Nat × (Addr → Value → Option Addr → TS))}, HdM X hds' l' → wMix X.K Wout D l' cls d σ' H' →
        wpAny (model X.prog X.w) X.A (handleBy (.ref a) X.env hds') (SP X pins D) X.xe { s' with heap := h3 } := by
      intro hds' l' hk
      induction hk with
      | nil =>
        intro w
        refine wpAny_handleBy_nil ?_
        obtain ⟨k1, k2, k3, oe, vs, T, oT, ts', he, hz, hd, h1, hr⟩ := id fl3
        unfold PySem.passOn
        refine wpAny_bind (wpAny_field he hd h1 ?_)
        rw [if_neg (show ¬ ((Value.ref T == Value.none) = true) from by simp)]
        have fin : wpAny (model X.prog X.w) X.A (setFlight (.ref a) X.env.frame) (fun _ s4 => wpAny (model X.prog X.w) X.A (throw (.ref a) : Sem Flow) (SP X pins D) X.xe s4) X.xe { s' with heap := h3 } := by
          rw [hf]
          refine HandSPX.setFlight_upZ fl3 fun h4 hh4 up4 => wpAny_throw (tk _ _ ?_)
          exact ⟨a, B, sI, pins, σ', H', cls, d, rfl, J, nb, (up.trans up3).trans up4, .inr (.inr (by rw [hs]; exact hh4)), na, os, ag, w⟩
        first
          | exact wpAny_bind (wpAny_pure (wpAny_bind fin))
          | exact wpAny_bind fin
      | @cons x n c i ts b₀ suite np pos' hds2 l2 hi hln hc hsu r ih =>
        intro w
        obtain ⟨b, hb1, hyes, hno⟩ := w
        have hloc : Loc X.env.scope n := .inl hln
        refine wpAny_handleBy_cons (codeAny_handlers_test ?_) (by intro q; cases q)
        have LT : PySem.W.Looks (model X.prog X.w) h3 (typeOf (.ref a)) cls := fun A Q E s k q => wpAny_typeOf_ref (k _ _ he3) (by rw [hz3.1]; exact q)
        have LM := PySem.W.exm_one (M := model X.prog X.w) (J3.kIn) LT hb1
        have test : ∀ {Q : Value → Shared → Prop} {E : Value → Shared → Prop}, Q c { s' with heap := h3 } → wpAny (model X.prog X.w) (X.A.mark (some (.ref a))) (eval (.Name x np) X.env) Q E { s' with heap := h3 } := fun {Q E} q => by
          obtain ⟨hg, hdbg, hm | ⟨hm, hv, hnn⟩⟩ := hc
          · exact ld_glob (X := X.suite a ((a, oe3) :: (X.pn ++ pins))) S3 hg hm q hdbg
          · exact ld_blt (X := X.suite a ((a, oe3) :: (X.pn ++ pins))) S3 hg hm hv q hnn hdbg
        refine test (LM.here ?_)
        cases b with
        | true =>
          refine codeAny_handlers_suite_as ?_
          refine HandSPX.lands_againZ fl3 fun h4 fl4 up4 => ?_
          have J4 : Inv X pins σ' H' { s' with heap := h4 } := J.landed nb fl4.1 ((up.trans up3).trans up4) os ag
          obtain ⟨oe4, vs4, he4, hz4, hd4⟩ := fl4.there
          have S4 := J4.suite he4 hd4 na nL nF
          refine store_ok (X := X.suite a ((a, oe4) :: (X.pn ++ pins))) (v := .ref a) S4 hN hi hloc rfl (fun s5 S5 => ?_) (.inr hln)
          refine wpAny_mono ((hsu a oe4 cls d (X.pn ++ pins) hz4 ⟨_, hd4⟩).run [] s5 _ H' _ S5 (hyes rfl a na)) (fun f s6 hsp => ?_) (fun _ _ z => False.elim z)
          have end_ : ∀ {σ6 : St} {H6 : Hp} {Q : Shared → Prop}, Inv (X.suite a ((a, oe4) :: (X.pn ++ pins))) [] σ6 H6 s6 → (∀ s7, Inv X pins (σ6.set i none) H6 s7 → Q s7) →
              wpAny (model X.prog X.w) X.A (do bindName X.env n .none; unbindBehindTheSuite X.env n pos') (fun _ s7 => Q s7) X.xe s6 := fun {σ6 H6 Q} S6 hq => gone_ok (S6.unsuite ok) hN hi hln hq
          cases f with
          | next =>
            obtain ⟨σ6, H6, S6, q6⟩ := hsp
            exact end_ S6 fun s7 J7 => ⟨_, _, J7, q6⟩
          | brk =>
            obtain ⟨σ6, H6, S6, q6⟩ := hsp
            exact end_ S6 fun s7 J7 => ⟨_, _, J7, q6⟩
          | cont =>
            obtain ⟨σ6, H6, S6, q6⟩ := hsp
            exact end_ S6 fun s7 J7 => ⟨_, _, J7, q6⟩
          | ret u =>
            obtain ⟨v6, σ6, H6, S6, r6, q6⟩ := hsp
            exact end_ S6 fun s7 J7 => ⟨_, _, _, J7, r6, q6⟩
        | false =>
          show wpAny _ X.A (handleBy (.ref a) X.env hds2) _ _ _
          exact ih (hno rfl)
      | @plain x c ts b₀ suite np pos' hds2 l2 hc hsu r ih =>
        intro w
        obtain ⟨b, hb1, hyes, hno⟩ := w
        refine wpAny_handleBy_cons (codeAny_handlers_test ?_) (by intro q; cases q)
        have LT : PySem.W.Looks (model X.prog X.w) h3 (typeOf (.ref a)) cls := fun A Q E s k q => wpAny_typeOf_ref (k _ _ he3) (by rw [hz3.1]; exact q)
        have LM := PySem.W.exm_one (M := model X.prog X.w) (J3.kIn) LT hb1
        have test : ∀ {Q : Value → Shared → Prop} {E : Value → Shared → Prop}, Q c { s' with heap := h3 } → wpAny (model X.prog X.w) (X.A.mark (some (.ref a))) (eval (.Name x np) X.env) Q E { s' with heap := h3 } := fun {Q E} q => by
          obtain ⟨hg, hdbg, hm | ⟨hm, hv, hnn⟩⟩ := hc
          · exact ld_glob (X := X.suite a ((a, oe3) :: (X.pn ++ pins))) S3 hg hm q hdbg
          · exact ld_blt (X := X.suite a ((a, oe3) :: (X.pn ++ pins))) S3 hg hm hv q hnn hdbg
        refine test (LM.here ?_)
        cases b with
        | true =>
          refine codeAny_handlers_suite ?_
          refine HandSPX.lands_againZ fl3 fun h4 fl4 up4 => ?_
          have J4 : Inv X pins σ' H' { s' with heap := h4 } := J.landed nb fl4.1 ((up.trans up3).trans up4) os ag
          obtain ⟨oe4, vs4, he4, hz4, hd4⟩ := fl4.there
          have S4 := J4.suite he4 hd4 na nL nF
          refine wpAny_mono ((hsu a oe4 cls d (X.pn ++ pins) hz4 ⟨_, hd4⟩).run [] _ _ H' _ S4 (hyes rfl a na)) (fun f s6 hsp => ?_) (fun _ _ z => False.elim z)
          cases f with
          | next => obtain ⟨σ6, H6, S6, q6⟩ := hsp; exact ⟨_, _, S6.unsuite ok, q6⟩
          | brk => obtain ⟨σ6, H6, S6, q6⟩ := hsp; exact ⟨_, _, S6.unsuite ok, q6⟩
          | cont => obtain ⟨σ6, H6, S6, q6⟩ := hsp; exact ⟨_, _, S6.unsuite ok, q6⟩
          | ret u => obtain ⟨v6, σ6, H6, S6, r6, q6⟩ := hsp; exact ⟨_, _, _, S6.unsuite ok, r6, q6⟩
        | false =>
          show wpAny _ X.A (handleBy (.ref a) X.env hds2) _ _ _
          exact ih (hno rfl)
    exact go hh w
  · cases f with
    | next =>
      obtain ⟨σ', H', J', q⟩ := hsp
      exact wpAny_execs_nil ⟨σ', H', J'.ofTry ok, q⟩
    | brk =>
      obtain ⟨σ', H', J', q⟩ := hsp
      exact ⟨σ', H', J'.ofTry ok, q⟩
    | cont =>
      obtain ⟨σ', H', J', q⟩ := hsp
      exact ⟨σ', H', J'.ofTry ok, q⟩
    | ret u =>
      obtain ⟨v, σ', H', J', r, q⟩ := hsp
      exact ⟨v, σ', H', J'.ofTry ok, r, q⟩
end
end L2
set_option maxHeartbeats 4000000
/-! x(lambda: e) where x is «def x(a): try: return a() / except A as e: .. / except B: ..» -/
namespace LfT
open PySem PySem.Spec PyProof.Rows L2 LamX
/-- what such a def makes of the lambda's reading: the clauses l, n names -/
def TMix (K : PySem.W.Frag) (n : Nat) (l : List (Value × Option Nat × (Addr → Value → Option Addr → TS))) : (XK → Hp → VK → Prop) → Hp → VK → Prop := fun tl H Q =>
  tl (fun cls d H' => ∀ σ' : L2.St, σ'.length = n → wMix K (fun _ _ _ _ => False) { nx := fun _ H' => Q .non H', rt := Q } l cls d σ' H') H Q
theorem takes_len {X : Cx} {W : WX} (t : Takes X W) : Takes X (fun cls d σ H => σ.length = X.N.length → W cls d σ H) := fun u s' ⟨a, B, sI, pins, σ, H, cls, d, e, I, nb, up, sky, na, os, ag, w⟩ =>
  t u s' ⟨a, B, sI, pins, σ, H, cls, d, e, I, nb, up, sky, na, os, ag, w I.len⟩
section
variable {X : Cx}
theorem mix_gives {Ng : List Str} {x a q : Str} {sg : Scope} {g : Addr} {cdg : Value} {h₀ : ExceptHandler} {hds : List ExceptHandler} {l : List (Value × Option Nat × (Addr → Value → Option Addr → TS))} {p1 p2 p3 p8 : Pos} (hN : Ng.Nodup)
    (hh : ∀ (s : Shared) (H : Hp), HdM (cxOf C8.CX0 X.prog X.w X.K X.mg X.base Ng x sg g cdg X.A X.stack s H C8.E0).nox (h₀ :: hds) l) (h0 : ∀ f : Addr, (L2.start Ng [V.ref f])[0]? = some (some (V.ref f))) :
    GivesTo X Ng x sg g cdg [.Try [.Return (some (.Call (.Name a p1) [] [] p2)) p3] (h₀ :: hds) [] [] p8] a q (TMix X.K Ng.length l) := by
  intro f c' s H Q tl act hc h
  refine ⟨_, pss_one (ps_tryMix (X := (cxOf C8.CX0 X.prog X.w X.K X.mg X.base Ng x sg g cdg X.A X.stack s H C8.E0).nox) (Wout := fun _ _ _ _ => False)
      (tb := fun W D σ H => ∃ Ech : XK, (∀ cls d (σ' : L2.St) H', Ech cls d H' → σ'.length = Ng.length → W cls d σ' H') ∧ σ[0]? = some (some (.ref f)) ∧ H c' = some (CodeO c' q) ∧ tl Ech H D.rt)
      rfl rfl hN LamX.takes0 (fun W pn xe tk _ => ?_) (hh s H)), ?_⟩
  · refine ⟨fun pins s' σ H' D I h' => ?_⟩
    obtain ⟨Ech, hW, h1, h2, h3⟩ := h'
    have hp := act _ pn xe Ech p1 p2 (takes_len tk) hW
    exact (pss_one (ps_ret (pos := p3) hp)).run pins s' σ H' D I ⟨h1, h2, h3⟩
  · exact ⟨_, fun cls d σ' H' h hl => h σ' hl, h0 f, hc, h⟩
theorem pe_toldM {x a : Str} {st : Stmt} {Ng : List Str} {h₀ : ExceptHandler} {hds : List ExceptHandler} {l : List (Value × Option Nat × (Addr → Value → Option Addr → TS))} {p1 p2 p3 p8 p lpos pos : Pos} {c P : Addr} {k : Nat} {params : Arguments} {body : Expr} {scope : Scope} {t : XK → TE} (D : Df X.K X.mg x st)
    (hst : defBody st = [.Try [.Return (some (.Call (.Name a p1) [] [] p2)) p3] (h₀ :: hds) [] [] p8])
    (Sg : FnScope Ng [a] (defScope st)) (hNg : Ng[0]? = some a) (hva : Vis (defScope st) a)
    (bd : ∀ (kV doc pm : Value) (an : Option Addr) (cdv ct : Value) (us : List Value), us.length = [a].length → bindArgs (PySem.W.fnOf x x (defArgs st) (defBody st) (defScope st) .none kV doc pm an cdv ct) ⟨us, []⟩ = pure ([a].zip us))
    (hh : ∀ (g : Addr) (cdg : Value) (s : Shared) (H : Hp), HdM (cxOf C8.CX0 X.prog X.w X.K X.mg X.base Ng x (defScope st) g cdg X.A X.stack s H C8.E0).nox (h₀ :: hds) l) (h0 : ∀ f : Addr, (L2.start Ng [V.ref f])[0]? = some (some (V.ref f)))
    (TB : TabB X.base X.mg c P) (hcode : X.env.code = .ref c) {Tb : List (Addr × Str)} (hmT : (P, X.env.qual ++ "<lambda>") ∈ Tb) (hu : ∀ p ∈ Tb, p.1 = P → p.2 = X.env.qual ++ "<lambda>") (hg : Gl X x) (hr : Room (k + 2) X.A) (L : LamS X.env.scope scope) (hdef : defaultsOf params X.env = ([], []))
    (hbind : ∀ (q : Str) (cl : List (Str × Addr)) (pm cv ctv : Value), bindArgs (PySem.W.kla_fn "<lambda>" q params body scope cl pm cv ctv) ⟨[], []⟩ = pure [])
    (hbody : ∀ (A : Around) (outer : List Env) (s : Shared) (H : Hp) (E : XK) (f c' : Addr), Room k (A.deeper (lamEnv X scope s.heap.objs.size f c')) → PE (lamCx X A outer s H E scope f c') body (t E))
    (hdb : (x == ("__debug__" : Str)) = false := by decide) (hd : (a == ("__debug__" : Str)) = false := by decide) (hcd : (a == ("__classdict__" : Str)) = false := by decide) :
    PE X (.Call (.Name x p) [.Lambda params body scope lpos] [] pos) (tLam Tb (TMix X.K Ng.length l) t) := by
  obtain ⟨g, fd, F, hm⟩ := D
  have hb := F.binds bd
  obtain ⟨oc, od, kV, doc, pm, an, cdv, ct, osl, rfl, lk, hcg⟩ := F.ex
  refine pe_lamcall hg hm F.kp lk hcg hb Sg hNg hva ?_ TB hcode hmT hu hr L hdef hbind hbody hdb hd hcd
  rw [hst]
  exact mix_gives Sg.nd (hh g cdv) h0
end
theorem tab_one {a b : Addr} {q r : Str} (h : a ≠ b) : ∀ p ∈ [(a, q), (b, r)], p.1 = a → p.2 = q := fun p hp e => by
  rcases List.mem_cons.mp hp with rfl | hp
  · rfl
  · cases List.mem_singleton.mp hp
    exact absurd e.symm h
theorem tab_two {a b : Addr} {q r : Str} (h : a ≠ b) : ∀ p ∈ [(a, q), (b, r)], p.1 = b → p.2 = r := fun p hp e => by
  rcases List.mem_cons.mp hp with rfl | hp
  · exact absurd e h
  · cases List.mem_singleton.mp hp
    rfl
end LfT
set_option maxHeartbeats 4000000
/-! Tables of code objects while data is drawn and told; lists of what calls tell -/
namespace Lf
open PySem L2 Evl LamX PyProof.Rows
def KeepN (L : Addr) (H H' : Hp) : Prop := ∀ a o, a ≠ L → H a = some o → (∀ ps, o ≠ .tbl ps) → H' a = some o
theorem KeepN.trans {L : Addr} {H H1 H2 : Hp} (a : KeepN L H H1) (b : KeepN L H1 H2) : KeepN L H H2 := fun x o n h t => b x o n (a x o n h t) t
theorem KeepN.ofB {L : Addr} {H H1 : Hp} (a : ExB L H H1) : KeepN L H H1 := fun x o n h _ => a x o n h
theorem KeepN.ofN {L : Addr} {H H1 : Hp} (a : ExtN H H1) : KeepN L H H1 := fun x o _ h t => a x o h t
theorem KeepN.of {L : Addr} {H H1 : Hp} (a : Ex H H1) : KeepN L H H1 := fun x o _ h _ => a x o h
theorem tabs_exB {Tb : List (Addr × Str)} {L : Addr} {H H' : Hp} {xs : List V} (t : Tabs Tb H) (x : ExB L H H') (hL : H L = some (.lst xs)) : Tabs Tb H' := fun p hp => by
  obtain ⟨ps, h1, h2, h3⟩ := t p hp
  refine ⟨ps, x _ _ (fun z => by rw [z, hL] at h1; cases h1) h1, h2, fun pos cv hc => ?_⟩
  obtain ⟨c, e1, e2⟩ := h3 pos cv hc
  exact ⟨c, e1, x _ _ (fun z => by rw [z, hL] at e2; unfold CodeO at e2; cases e2) e2⟩
theorem tabs_up {Tb : List (Addr × Str)} {H : Hp} {p : Addr} {xs ys : List V} (t : Tabs Tb H) (h : H p = some (.lst xs)) : Tabs Tb (upd H p (.lst ys)) := tabs_exB t (fun a o n h => by rw [upd_ne n]; exact h) h
theorem exn_view {G H H1 : Hp} (hG : ∀ a o, G a = some o → dataO o = true) (s : Ex G H) (e : ExtN H H1) : Ex G H1 := fun a o h => e a o (s a o h) fun ps z => by
  have := hG a o h
  rw [z] at this
  cases this
theorem gr_data {G H G' H' : Hp} (hG : ∀ a o, G a = some o → dataO o = true) (r : Gr G H G' H') : ∀ a o, G' a = some o → dataO o = true := fun a o h => by
  rcases r.t a o h with h | h
  · exact hG a o h
  · exact h
theorem grb_data {Lm : List V → Prop} {L : Addr} {G H G' H' : Hp} (hG : ∀ a o, G a = some o → dataO o = true) (r : GrB Lm L G H G' H') : ∀ a o, G' a = some o → dataO o = true := fun a o h => by
  rcases r.t a o h with h | h
  · exact hG a o h
  · exact h
theorem none_data : ∀ (a : Addr) (o : HO), (fun _ => none : Hp) a = some o → dataO o = true := fun a o h => by cases h
theorem none_ex {H : Hp} : Ex (fun _ => none) H := fun a o h => by cases h
/-- no object but a table stands at p -/
def NoT (H : Hp) (p : Addr) : Prop := ∀ o, H p = some o → ∃ ps, o = .tbl ps
/-- an expression that tells a text, whatever it adds to the tables -/
def Says (te : TE) (σ : L2.St) (G : Hp) (Tb : List (Addr × Str)) (z : Str) : Prop := ∀ H, Ex G H → Tabs Tb H → ∀ Q : VK, (∀ H', ExtN H H' → Tabs Tb H' → Ex G H' → Q (.str z) H') → te σ H Q
section
variable {K : PySem.W.Frag} {σ : L2.St} {G H H0 : Hp} {te : TE} {tz : TS} {D : Ends} {Tb : List (Addr × Str)} {z : Str} {i : Nat} {p : Addr}
theorem q_tl0 (s : Ex G H) (t : Tabs Tb H) (h : Says te σ G Tb z) (k : ∀ p H', ExtN H H' → Tabs Tb H' → Ex G H' → H' p = some (.lst (([z] : List Str).map V.str)) → NoT H p → G p = none → tz D (σ.set i (some (.ref p))) H') : tSeq (tAsg (tLst (tCons te tNil)) (gName i)) tz D σ H := h H s t _ fun H1 e1 t1 s1 => ⟨show 1 ≤ sizeLine by decide, fun p hp => k p _ (e1.trans (ExtN.of (Ex.new hp))) (t1.ext (Ex.new hp)) (s1.trans (Ex.new hp)) upd_same (fun o ho => by
    cases o with
    | tbl ps => exact ⟨ps, rfl⟩
    | _ => rw [e1 p _ ho (fun ps z => by cases z)] at hp; cases hp) (fresh_back s1 hp)⟩
theorem q_tlA {zs : List Str} (s : Ex G H) (t : Tabs Tb H) (hσ : σ[i]? = some (some (.ref p))) (hp : H p = some (.lst (zs.map V.str))) (hl : zs.length ≤ 1000) (hG : G p = none) (h : Says te σ G Tb z) (e0 : ExtN H0 H) (h0 : NoT H0 p)
    (k : ∀ H', ExtN H0 H' → Tabs Tb H' → Ex G H' → H' p = some (.lst ((zs ++ [z]).map V.str)) → tz D σ H') : tSeq (tDrop (tBM K "list" rAppend (tVar i) (tCons te tNil))) tz D σ H := ⟨_, hσ, .inl ⟨rfl, _, SqL.of hp⟩, h H s t _ fun H1 e1 t1 s1 => by
  have hp1 := e1 p _ hp (fun ps z => by cases z)
  refine ⟨p, zs.map V.str, .str z, rfl, rfl, hp1, by rw [List.length_map]; exact Nat.lt_of_le_of_lt hl (by decide), k _ (fun a o ha nt => ?_) (tabs_up t1 hp1) (Ex.mut s1 hG) (by rw [upd_same, List.map_append]; rfl)⟩
  have ne : a ≠ p := fun e => by
    subst e
    obtain ⟨ps, e⟩ := h0 o ha
    exact nt ps e
  rw [upd_ne ne]
  exact e1 a o (e0 a o ha nt) nt⟩
theorem da_strsI {H : Hp} : ∀ {ws : List Str}, (∀ x ∈ ws, x.length ≤ 1000) → DaAll H (ws.map V.str) (ws.map PyData.str)
  | [], _ => .nil
  | a :: ws, h => .cons (.str _ (h a (List.mem_cons_self ..))) (da_strsI fun x hx => h x (List.mem_cons_of_mem _ hx))
/-- the list of texts at p comes into the view -/
theorem tl_view {zs : List Str} (s : Ex G H) (hG : G p = none) (hp : H p = some (.lst (zs.map V.str))) (hz : ∀ x ∈ zs, x.length ≤ 1000) : ∃ G', Ex G G' ∧ Ex G' H ∧ Da G' (.ref p) (.list (zs.map PyData.str)) := by
  refine ⟨upd G p (.lst (zs.map V.str)), Ex.new hG, fun a o h => ?_, .lst upd_same (da_strsI hz)⟩
  by_cases e : a = p
  · subst e
    rw [upd_same] at h
    rw [← h]
    exact hp
  · rw [upd_ne e] at h
    exact s _ _ h
end
/-- the script is there, apart from the wheel at p -/
def Sc (K : PySem.W.Frag) (a : Addr) (xs : List V) (p : Addr) (H : Hp) : Prop := (a ≠ p ∧ Rd H a (.lst xs)) ∨ SqL K (fun _ => none) a xs
theorem sc_of {K : PySem.W.Frag} {a p : Addr} {xs : List V} {H : Hp} (h : SqL K H a xs) (hp : H p = none) : Sc K a xs p H := by
  rcases h with h | h
  · refine .inl ⟨fun e => ?_, h⟩
    rcases h with h | ⟨o, h⟩
    · rw [e, hp] at h; cases h
    · rw [e, hp] at h; cases h
  · exact .inr (.inr h)
theorem sc_sq {K : PySem.W.Frag} {a p : Addr} {xs : List V} {H : Hp} (h : Sc K a xs p H) : SqL K H a xs := by
  rcases h with h | h
  · exact .inl h.2
  · rcases h with h | h
    · rcases h with h | ⟨o, h⟩ <;> cases h
    · exact .inr h
theorem sc_keep {K : PySem.W.Frag} {a p : Addr} {xs : List V} {H H' : Hp} (h : Sc K a xs p H) (k : KeepN p H H') : Sc K a xs p H' := by
  rcases h with ⟨n, h⟩ | h
  · refine .inl ⟨n, ?_⟩
    rcases h with h | ⟨o, h⟩
    · exact .inl (k a _ n h (fun ps z => by cases z))
    · exact .inr ⟨o, k a _ n h (fun ps z => by cases z)⟩
  · exact .inr h
end Lf
namespace L2
open PySem PySem.Spec PyProof.Rows
/-- a def whose code object is known, as LfGuard's Fun.okG -/
theorem Fun.okGC {P : Program} {w : World} {K : PySem.W.Frag} {mg : Str → Option Value} {base : Heap} {x qual : Str} {st : Stmt} {f c : Addr} {fd : FuncData} {N ps : List Str} {k : Nat} {sp : Sp} (F : Fun K x qual st f fd) (hc : fd.code = .ref c) (S : FnScope N ps (defScope st)) (len : ∀ vs H Q E, sp vs H Q E → vs.length = ps.length)
    (hbody : ∀ (A : Around) (outer : List Env) (s : Shared) (H : Hp) (vs : List V) (Q : VK) (E : XK), (A.deeper (envOfC qual (defScope st) s.heap.objs.size f (.ref c))).guards = some [] → Room k (A.deeper (envOfC qual (defScope st) s.heap.objs.size f (.ref c))) → sp vs H Q E →
      ∃ t, PSs (cxOf CX0 P w K mg base N qual (defScope st) f (.ref c) A outer s H E).nox (defBody st) t ∧ t { nx := fun _ H' => Q .non H', rt := Q } (start N vs) H) : FnOkG P w K mg base CX0 (k + 1) f fd ps sp := by
  obtain ⟨oc, od, kV, doc, pm, an, cdv, ct, osl, rfl, lk, hcd⟩ := F.ex
  obtain rfl : cdv = .ref c := hc
  refine fn_ofG lk hcd S len fun A outer s H vs Q E hg hr hsp => ?_
  obtain ⟨t, h, q⟩ := hbody A outer s H vs Q E hg hr hsp
  exact ⟨t, h.nox, q⟩
end L2
set_option maxHeartbeats 1000000
/-! [a, a + 'x', .., a.replace('x', 'y'), ..]; lists of drawn length; the length of a joined text -/
namespace Lf
open PySem PySem.Spec PyProof.Rows L2 Evl
section
variable {X : Cx}
theorem pa_consT {a : Expr} {op : Operator} {c : Str} {j : Nat} {cp p : Pos} {es : List Expr} {r : R2} {ta : TE} {tr : TA} (ho : OpR X (binaryOp op) r) (ha : PE X a ta) (hr : PAT X es tr)
    (hs : starEach (.BinOp a op (.Constant (.str c) j cp) p :: es) X.env = (false, eval (.BinOp a op (.Constant (.str c) j cp) p) X.env) :: starEach es X.env := by rfl) : PA X (.BinOp a op (.Constant (.str c) j cp) p :: es) (tCons (tOp r ta (tC (.str c))) tr) := by
  refine ⟨fun pos pins s σ H Q I h => ?_⟩
  rw [hs]
  show wpAny _ _ (spliced ((false, eval (.BinOp a op (.Constant (.str c) j cp) p) X.env) :: backTo pos (starEach es X.env))) _ _ s
  refine Calls.spliced_cons ?_
  refine wpAny_BinOp (thn (ha.run pins s σ H _ I h) fun v s1 ⟨x, H1, I1, r1, q1⟩ => ?_)
  refine Calls.Constant_str ?_
  refine wpAny_mono (PySem.wpAny_toks (ho pins { s1 with toks := s1.toks + 1 } σ H1 x (.str c) v _ _ (I1.tok _) r1 ⟨_, rfl⟩ q1)) (fun w s2 q => ?_) fun _ _ z => z.2
  obtain ⟨hk, y, H2, I2, r2, q2⟩ := q
  have hk : s1.toks + 1 ≤ s2.toks := hk
  exact thn (hr pos pins s2 σ H2 _ (by omega) I2 q2) fun us s3 ⟨xs, H3, I3, r3, q3⟩ => ⟨y :: xs, H3, I3, .cons r2 r3, q3⟩
end
section
variable {K : PySem.W.Frag} {Lm : List V → Prop} {L : Addr} {σ : L2.St} {G G' H : Hp} {ta tb te tl to : TE} {t u : TT} {tA tr : TA} {d e : PyData} {ds es : List PyData} {v : V} {P P' : PyData → Prop} {R R' : List PyData → Prop} {B : Bool → Prop} {x y z : Str}
theorem ev_repl (h : Ev to σ G (.str x)) (hl : x.length + (x.length + 1) * z.length ≤ 16777216) : Ev (CwR.tReplC to y z) σ G (.str (Txt.replace x y z)) := fun H1 e Q q => h H1 e _ fun H2 x2 => ⟨x, rfl, hl, q H2 x2⟩
theorem ev_upper (h : Ev to σ G (.str x)) (hl : x.length ≤ 5592405) : Ev (tM0 (fun x xs H Q => ∃ a, x = .str a ∧ xs = [] ∧ a.length ≤ 5592405 ∧ Q (.str (Txt.upper a)) H) to) σ G (.str (Txt.upper x)) := fun H1 e Q q => h H1 e _ fun H2 x2 => ⟨⟨x, rfl⟩, x, rfl, rfl, hl, q H2 x2⟩
/-- [e for x in range(n)], n and e drawn -/
theorem dr_lcRn {j : Nat} {vs : List Nat} {ta : TA} {m : Nat} (h : DrS Lm L ta σ G (fun ds => ∃ n : Int, ds = [.int n] ∧ 0 ≤ n ∧ n ≤ (m : Nat))) (hm : m ≤ 10000) (hw : ∀ x, wipe ((wipe σ vs).set j (some x)) vs = wipe σ vs)
    (he : ∀ (i : Nat) G1, Ex G G1 → Dr Lm L te ((wipe σ vs).set j (some (.int (0 + (i : Int))))) G1 P) : Dr Lm L (tLc (iRng1 ta) (gName j) tYes te vs) σ G (fun d => ∃ ds, d = .list ds ∧ ds.length ≤ m ∧ ∀ d ∈ ds, P d) := fun G1 H1 x w Q q => h G1 H1 x w _ fun us ds G2 H2 r e hds => by
  obtain ⟨n, e, hn0, hn1⟩ := e
  subst e
  cases hds with
  | cons h0 t =>
    cases t
    cases h0.int_
    refine ⟨n, rfl, by omega, by omega, fun D hD => ?_⟩
    have gD : G2 D = none := by
      cases e : G2 D with
      | none => rfl
      | some o => rw [r.s _ _ e] at hD; cases hD
    have ne : D ≠ L := fun e => r.w.some_ (by rw [← e]; exact hD)
    refine lc_range (lo := 0) (n := n.toNat) (fun i H' => ∃ G' ys ds, GrB Lm L G2 H2 G' H' ∧ G' D = none ∧ H' D = some (.lst ys) ∧ DaAll G' ys ds ∧ ds.length = i ∧ ∀ d ∈ ds, P d) ⟨G2, [], [], GrB.keep r.w (Ex.new hD), gD, upd_same, .nil, rfl, fun d h => by cases h⟩ ?_ ?_
    · rintro i H' hi ⟨G', ys, ds, r3, e3, e4, h3, hl, hP⟩
      refine ⟨hw _, ?_⟩
      refine he i G' ((x.trans r.g).trans r3.g) G' H' (Ex.refl _) r3.w _ fun v d G4 H4 r4 p hd => ⟨ys, r4.h _ _ ne e4, ?_, ?_⟩
      · rw [h3.len, hl]
        exact Nat.lt_of_lt_of_le (by omega : i < 100000) (by decide)
      · have nD : G4 D = none := r4.n D (by rw [e4]; exact fun z => by cases z) e3
        have r5 := r3.trans r4
        refine ⟨G4, ys ++ [v], ds ++ [d], ⟨fun a o na ha => ?_, r5.g, r5.n, r5.t, Ex.mut r5.s nD, r5.w.f, ?_⟩, nD, upd_same, (h3.up r4.g).app (.cons hd .nil), by rw [List.length_append, hl]; rfl, fun z hz => ?_⟩
        · rw [upd_ne (fun e => by rw [e, hD] at ha; cases ha)]
          exact r5.h _ _ na ha
        · obtain ⟨xs, h, m⟩ := r5.w.l
          exact ⟨xs, by rw [upd_ne (Ne.symm ne)]; exact h, m⟩
        · rcases List.mem_append.mp hz with hz | hz
          · exact hP z hz
          · cases List.mem_singleton.mp hz
            exact p
    · rintro H' ⟨G', ys, ds, r3, e3, e4, h3, hl, hP⟩
      have xx : Ex G' (upd G' D (.lst ys)) := Ex.new e3
      refine q (.ref D) (.list ds) (upd G' D (.lst ys)) H' (r.trans ⟨r3.h, r3.g.trans xx, fun a e1 e2 => ?_, fun a o h => ?_, fun a o h => ?_, ?_, r3.w.l⟩) ⟨ds, rfl, by rw [hl]; omega, hP⟩ (.lst upd_same (h3.up xx))
      · rw [upd_ne (fun e => e1 (by rw [e]; exact hD))]
        exact r3.n a e1 e2
      · by_cases e : a = D
        · subst e
          rw [upd_same] at h
          cases h
          exact .inr rfl
        · rw [upd_ne e] at h
          exact r3.t a o h
      · by_cases e : a = D
        · subst e
          rw [upd_same] at h
          cases h
          exact e4
        · rw [upd_ne e] at h
          exact r3.s _ _ h
      · rw [upd_ne (Ne.symm ne)]
        exact r3.w.f
end
theorem join_le (y : Str) (l : List Str) (B : Nat) (h : ∀ x ∈ l, x.length ≤ B) : (Txt.join y l).length ≤ l.length * (B + y.length) := by
  cases l with
  | nil => exact Nat.zero_le _
  | cons a l =>
    have e : (Txt.join y (a :: l)).length = ((a :: l).map (·.length)).sum + l.length * y.length := by
      show (Builtin.Str.glued y (a :: l)).length = _
      rw [StrLaws.glued_eq_join]
      exact len_join_cons y a l
    rw [e]
    have hs : ∀ l : List Str, (∀ x ∈ l, x.length ≤ B) → (l.map (·.length)).sum ≤ l.length * B := by
      intro l
      induction l with
      | nil => intro _; exact Nat.zero_le _
      | cons b l ih =>
        intro h
        have := ih fun x hx => h x (.tail _ hx)
        have := h b (.head _)
        rw [List.map_cons, List.sum_cons, List.length_cons, Nat.succ_mul]
        omega
    have h1 := hs _ h
    rw [Nat.mul_add]
    have h2 : l.length * y.length ≤ (a :: l).length * y.length := Nat.mul_le_mul_right _ (by simp)
    omega
end Lf
set_option maxHeartbeats 4000000
namespace My
open PySem L2 Lf Evl Tr
abbrev s_law_names_right : Stmt := top 41
theorem sc_law_names_right : FnScope ["_law_loom_here", "_law_name", "_law_turn_here", "_law_some", "_law_one", "_law_due", "_law_sign"] ["_law_loom_here"] (defScope s_law_names_right) := ⟨rfl, rfl, rfl, by decide +kernel, rfl, by decide +kernel, by decide +kernel⟩
def prePS (ds : List PyData) : Prop := ∃ z : Str, ds = [.str z] ∧ 0 < z.length ∧ z.length ≤ 1000
def postPS (ds : List PyData) (d : PyData) : Prop := ∃ c : Nat, d = .str (sgn1 c)
def preN (ds : List PyData) : Prop := ds = []
def postTr (ds : List PyData) (d : PyData) : Prop := d = .bool true
section
variable {K : PySem.W.Frag} {L : Addr} {σ : L2.St} {G H : Hp} {te ta tb : TE} {x y : Str} {d : PyData}
theorem ev_addS (ha : Ev ta σ G (.str x)) (hb : Ev tb σ G (.str y)) (h : x.length + y.length ≤ 2000) : Ev (tOp rCat2 ta tb) σ G (.str (x ++ y)) := fun H1 x1 Q q => ha H1 x1 _ fun H2 x2 => hb H2 (x1.trans x2) _ fun H3 x3 => ⟨x, y, rfl, rfl, Nat.le_trans h (by decide), q H3 (x2.trans x3)⟩
theorem evd_k {v : V} (h : Da G v d) : EvD (tC v) σ G d := fun G1 H1 x s Q q => q v G1 H1 (Gr.refl s) (h.up x)
theorem ev_ord {c : Nat} (h : Ev te σ G (.str (sgn1 c))) : Ev (tCB (fun xs H Q => ∃ x, xs = [V.str x] ∧ x.length = 1 ∧ Q (.int (x.cps.getD 0 0 : Nat)) H) (tCons te tNil)) σ G (.int (c : Nat)) := fun H1 x Q q => h H1 x _ fun H2 x2 => ⟨sgn1 c, rfl, rfl, q H2 x2⟩
theorem ev_slS {tlo thi : TO} {lo hi : Option Int} (h : Ev te σ G (.str x)) (hl : x.length ≤ 1000) (h1 : EvO tlo σ G lo) (h2 : EvO thi σ G hi) : Ev (tSl rSlS te tlo thi) σ G (.str (cutS x lo hi)) := fun H1 x1 Q q => h H1 x1 _ fun H2 x2 => h1 H2 (x1.trans x2) _ fun H3 x3 => h2 H3 ((x1.trans x2).trans x3) _ fun H4 x4 => ⟨x, rfl, Nat.le_trans hl (by decide), q H4 ((x2.trans x3).trans x4)⟩
/-- z.join(e), e drawn -/
theorem dr_join {R : List Str → Prop} {z : Str} (h : Dr Lm L te σ G fun d => ∃ ws : List Str, d = .list (ws.map PyData.str) ∧ R ws) (hl : ∀ ws, R ws → ws.length ≤ 5000 ∧ (Txt.join z ws).length ≤ 1000) (hz : z.length ≤ 10) :
    Dr Lm L (tM1 (fun x xs H Q => ∃ a p, ∃ ys : List Str, x = .str a ∧ xs = [.ref p] ∧ (SqL K H p (ys.map V.str) ∨ SqT K H p (ys.map V.str)) ∧ (ys.map (·.length)).sum + ys.length * a.length ≤ 16777216 ∧ Q (.str (Txt.join a ys)) H) (tC (.str z)) te) σ G fun d => ∃ ws : List Str, d = .str (Txt.join z ws) ∧ R ws := fun G1 H1 x w Q q =>
  by
  have hh := h G1 H1 x w (fun v H2 => ∃ a p, ∃ ys : List Str, V.str z = .str a ∧ [v] = [V.ref p] ∧ (SqL K H2 p (ys.map V.str) ∨ SqT K H2 p (ys.map V.str)) ∧ (ys.map (·.length)).sum + ys.length * a.length ≤ 16777216 ∧ Q (.str (Txt.join a ys)) H2) fun v d G2 H2 r ⟨ws, e, hR⟩ hd => by
    subst e
    exact (evd_str (ev_join (K := K) (σ := σ) (to := tC (.str z)) (te := tC v) ev_c (evd_k hd) (hl ws hR).1 hz) (hl ws hR).2 G2 H2 (Ex.refl _) r.w.s Q fun u G3 H3 r3 hu => q u _ G3 H3 (r.gr r3) ⟨ws, rfl, hR⟩ hu).2
  exact ⟨⟨z, rfl⟩, hh⟩
end
section
variable {P : Program} {w : World} {K : PySem.W.Frag} {mg : Str → Option Value} {base : Heap} {CN fI : Addr}
theorem ok_law_pickS (T : Txt P K mg CN fI) (D : Df K mg "_law_pick" s_law_pick) (D_law_turn : DefOk P w K mg base CX0 1 "_law_turn" ["_law_loom_here", "_law_total"] (spDr Lm preT postT)) : DefOk P w K mg base CX0 2 "_law_pick" ["_law_loom_here", "_law_items"] (spDr Lm prePS postPS) := by
  refine D.ok sc_law_pick (fun _ _ _ _ _ _ us hl => match us, hl with | [_, _], _ => rfl) (fun vs H Q E h => spDr_len (n := 1) (fun ds ⟨_, e, _⟩ => by rw [e]; rfl) h) (fun f cdv A outer s H vs Q E hr h => ?_)
  obtain ⟨L, G, us, ds, rfl, w, hds, ⟨z, rfl, z0, z1⟩, q⟩ := h
  cases hds with
  | @cons v _ _ _ hv t =>
    cases t
    obtain ⟨rfl, hzl⟩ := hv.str_
    refine ⟨_, (pss_one (ps_ret (pe_ix ix_str (pv 1) (pe_callD D_law_turn (hr.mono (by decide)) pass0 (pa_cons (pv 0) (pa_cons (pe_callB call_len_str (by rfl) T.n_len (by decide +kernel) (pa_cons (pv 1) pa_nil)) pa_nil))) (fun _ _ => rfl)))), ?_⟩
    refine ⟨_, rfl, dr_turn (m := (z.length : Nat)) rfl (ev_lenS (evd_str (ev_var rfl) hzl)) (by omega) (by omega) G H (Ex.refl _) w _ fun u d G1 H1 r ⟨i, e, i0, i1⟩ hd => ?_⟩
    subst e
    cases hd.int_
    have hn : i = ((i.toNat : Nat) : Int) := by omega
    have hl : i.toNat < z.cps.toList.length := by
      have e : z.cps.toList.length = z.length := by simp [Str.length]
      rw [e]
      omega
    have hc : z.cps.toList[i.toNat]? = some (z.cps.toList[i.toNat]'hl) := List.getElem?_eq_getElem hl
    refine ⟨z, i, _, rfl, rfl, Nat.le_trans hzl (by decide), by rw [hn]; exact atI_nat hc, ?_⟩
    exact q _ _ G1 H1 r ⟨_, rfl⟩ (.str _ (show 1 ≤ 1000 by decide))
theorem mulZ : MulOk "z" 8 ∧ MulOk "a" 9 := ⟨⟨by decide, fun _ _ => by decide +kernel, fun _ _ => by decide +kernel⟩, ⟨by decide, fun _ _ => by decide +kernel, fun _ _ => by decide +kernel⟩⟩
theorem mulL : (Txt.mul "z" 8).length ≤ 1000 ∧ (Txt.mul "a" 9).length ≤ 1000 := by decide +kernel
theorem cut_len (x : Str) (lo hi : Option Int) : (cutS x lo hi).length ≤ x.length := by
  show ((x.cps.toList.drop (HT.sIx x.length 0 lo)).take (HT.sIx x.length x.length hi - HT.sIx x.length 0 lo)).toArray.size ≤ _
  rw [List.size_toArray, List.length_take, List.length_drop]
  have e : x.cps.toList.length = x.length := by simp [Str.length]
  omega
theorem sign_join {ws : List Str} (h : ∀ x ∈ ws, x.length ≤ 1) (hl : ws.length ≤ 11) : (Txt.join "" ws).length ≤ 11 := by
  have := join_le "" ws 1 h
  have e : (Str.ofString "").length = 0 := rfl
  rw [e] at this
  omega
theorem ok_law_names_right (T : Txt P K mg CN fI) (D : Df K mg "_law_names_right" s_law_names_right) (D_law_turn : DefOk P w K mg base CX0 1 "_law_turn" ["_law_loom_here", "_law_total"] (spDr Lm preT postT)) (D_law_pickS : DefOk P w K mg base CX0 2 "_law_pick" ["_law_loom_here", "_law_items"] (spDr Lm prePS postPS)) (D_is_name : DefOk P w K mg base CX0 1 "is_name" ["value"] (spB isNm)) : DefOkG P w K mg base CX0 4 "_law_names_right" ["_law_loom_here"] (spDr Lm preN postTr) := by
  refine D.okG sc_law_names_right (fun _ _ _ _ _ _ us hl => match us, hl with | [_], _ => rfl) (fun vs H Q E h => spDr_len (n := 0) (fun ds e => by rw [show ds = [] from e]; rfl) h) (fun f cdv A outer s H vs Q E hg hr h => ?_)
  obtain ⟨L, G, us, ds, rfl, w, hds, rfl, q⟩ := h
  cases hds
  refine ⟨_, (pss_cons (ps_set (i := 1) sc_law_names_right.nd rfl (Or.inl rfl) (pe_join pe_str (pe_lc (own := [("_law_turn_here", 2)]) (by rfl) sc_law_names_right.nd (pi_range1 (by rfl) T.n_range (pa_cons (pe_callD D_law_turn (hr.mono (by decide)) pass0 (pa_cons (pv 0) (pa_cons pe_int pa_nil))) pa_nil)) (blkOk_by (own := [("_law_turn_here", 2)]) (N := ["_law_loom_here", "_law_name", "_law_turn_here", "_law_some", "_law_one", "_law_due", "_law_sign"]) (sc := defScope s_law_names_right) (by decide +kernel)) (fun _ _ _ _ _ => (pg_name (i := 2) sc_law_names_right.nd rfl (Or.inl rfl))) (fun _ _ _ _ _ => pts_nil) (fun _ _ _ _ _ => (pe_callD D_law_pickS (hr.mono (by decide)) pass0 (pa_cons (pv 0) (pa_cons pe_str pa_nil)))))))
 (pss_cons (ps_set (i := 3) sc_law_names_right.nd rfl (Or.inl rfl) (pe_lst (pa_cons (pv 1) (pa_cons (pe_op op_add_str (pv 1) pe_str) (pa_cons (pe_op op_add_str (pv 1) pe_str) (pa_cons (pe_op op_add_str (pv 1) pe_str) (pa_cons (pe_slice sl_str (pv 1) po_none (po_some pe_int)) (pa_cons (pe_op op_mulS pe_str pe_int) (pa_cons (pe_op op_mulS pe_str pe_int) (pa_cons pe_str pa_nil))))))))))
 (pss_cons (ps_for PassesOwn.never rfl (pi_list (pe_op op_cat (pv 3) (pe_lst (pa_cons (pe_op op_add_str (pv 1) pe_str) (pa_cons (pe_op op_add_str (pv 1) pe_str) (pa_cons (pe_op op_add_str (pv 1) pe_str) pa_nil)))))) (pg_name (i := 4) sc_law_names_right.nd rfl (Or.inl rfl))
 (pss_cons (ps_set (i := 5) sc_law_names_right.nd rfl (Or.inl rfl) (pe_and (pe_chain op_le op_le pe_int (pe_callB call_len_str (by rfl) T.n_len (by decide +kernel) (pa_cons (pv 4) pa_nil)) pe_int) (pe_one (pe_cmpR (op_eqEL hr.units0) (pe_lc (own := [("_law_sign", 6)]) (by rfl) sc_law_names_right.nd (pi_str (pv 4)) (blkOk_by (own := [("_law_sign", 6)]) (N := ["_law_loom_here", "_law_name", "_law_turn_here", "_law_some", "_law_one", "_law_due", "_law_sign"]) (sc := defScope s_law_names_right) (by decide +kernel)) (fun _ _ _ _ _ => (pg_name (i := 6) sc_law_names_right.nd rfl (Or.inl rfl))) (fun _ _ _ _ _ => (pts_one (pt_not (pt_chain op_le op_le pe_int (pe_callB call_ord (by rfl) T.n_ord (by decide +kernel) (pa_cons (pv 6) pa_nil)) pe_int)))) (fun _ _ _ _ _ => (pv 6))) (pe_lst pa_nil) (nomark _)))))
 (pss_one (ps_if (pt_cmpR op_ne (pe_callB (call_reprD hg hr) (by rfl) T.n_repr (by decide +kernel) (pa_cons (pe_callD D_is_name (hr.mono (by decide)) pass0 (pa_cons (pv 4) pa_nil)) pa_nil)) (pe_callB (call_reprD hg hr) (by rfl) T.n_repr (by decide +kernel) (pa_cons (pv 5) pa_nil)) (nomark _))
 (pss_one (ps_ret pe_bl))
 pss_nil))))
 (pss_one (ps_ret (pe_cmpR (op_eqD hr.units) (pe_lc (own := [("_law_one", 4)]) (by rfl) sc_law_names_right.nd (pi_tup (pe_tup (pa_cons pe_non (pa_cons pe_int (pa_cons (pe_tup (pa_cons pe_str pa_nil)) (pa_cons (pe_lst (pa_cons pe_str pa_nil)) (pa_cons pe_dnewK (pa_cons pe_bl pa_nil)))))))) (blkOk_by (own := [("_law_one", 4)]) (N := ["_law_loom_here", "_law_name", "_law_turn_here", "_law_some", "_law_one", "_law_due", "_law_sign"]) (sc := defScope s_law_names_right) (by decide +kernel)) (fun _ _ _ _ _ => (pg_name (i := 4) sc_law_names_right.nd rfl (Or.inl rfl))) (fun _ _ _ _ _ => pts_nil) (fun _ _ _ _ _ => (pe_callD D_is_name (hr.mono (by decide)) pass0 (pa_cons (pv 4) pa_nil)))) (pe_op op_rep (pe_lst (pa_cons pe_bl pa_nil)) pe_int) (nomark _))))))), ?_⟩
  refine q_asgR w ((dr_join (R := fun ws => ws.length ≤ 11 ∧ ∀ x ∈ ws, x.length ≤ 1) ((dr_lcRn (m := 11) (P := fun d => ∃ c : Nat, d = .str (sgn1 c)) ((drs_cons (dr_turn rfl ev_c (by decide) (by decide)) drs_nil).imp fun ds hd => ?_) (by decide) (fun _ => rfl) fun i G1 x1 => (dr_call (Post := postPS) (Pre := prePS) rfl (drs_of (evd_cons (evd_str ev_c (by decide)) evd_nil)) (fun ds e => ⟨_, e, by decide, by decide⟩)).imp fun d ⟨ds, e, p⟩ => p).imp fun d hd => ?_) (fun ws h => ⟨by omega, Nat.le_trans (sign_join h.2 h.1) (by decide)⟩) (by decide)).imp (P' := fun d => ∃ x : Str, d = .str x ∧ x.length ≤ 11) fun d ⟨ws, e, h⟩ => ⟨_, e, sign_join h.2 h.1⟩) fun v1 d1 G1 H1 r1 hP h1 => ?_
  · obtain ⟨_, _, rfl, ⟨r, rfl, r0, r1⟩, rfl⟩ := hd
    exact ⟨r, rfl, r0, by omega⟩
  · obtain ⟨ds, rfl, hl, hall⟩ := hd
    have : ∃ ws : List Str, ds = ws.map PyData.str ∧ ∀ x ∈ ws, x.length ≤ 1 := by
      clear hl
      induction ds with
      | nil => exact ⟨[], rfl, fun x h => by cases h⟩
      | cons a r ih =>
        obtain ⟨c, rfl⟩ := hall a List.mem_cons_self
        obtain ⟨ws, rfl, hw⟩ := ih fun d hd => hall d (List.mem_cons_of_mem _ hd)
        refine ⟨sgn1 c :: ws, rfl, fun x hx => ?_⟩
        rcases List.mem_cons.mp hx with rfl | hx
        · exact Nat.le_refl 1
        · exact hw x hx
    obtain ⟨ws, rfl, hw⟩ := this
    rw [List.length_map] at hl
    exact ⟨ws, rfl, hl, hw⟩
  obtain ⟨nm, rfl, hn⟩ := hP
  obtain ⟨rfl, _⟩ := h1.str_
  have e1 : ∀ {x : Str}, x.length ≤ 1 → (nm ++ x).length ≤ 1000 := fun {x} hx => by
    have := strLen_append nm x
    omega
  have pl : ∀ {σ : L2.St} {G : Hp} {i : Nat} {x : Str}, σ[i]? = some (some (.str nm)) → x.length ≤ 1 → EvD (tOp rCat2 (tVar i) (tC (.str x))) σ G (.str (nm ++ x)) := fun h hx => evd_str (ev_addS (ev_var h) ev_c (by omega)) (e1 hx)
  refine q_asgD r1.s (evd_lst (evd_cons (evd_str (ev_var rfl) (by omega)) (evd_cons (pl rfl (by decide)) (evd_cons (pl rfl (by decide)) (evd_cons (pl rfl (by decide)) (evd_cons (evd_str (ev_slS (ev_var rfl) (by omega) EvO.none_ (EvO.some_ ev_c)) (Nat.le_trans (cut_len _ _ _) (by omega))) (evd_cons (evd_str (ev_mulS ev_c ev_c mulZ.1) mulL.1) (evd_cons (evd_str (ev_mulS ev_c ev_c mulZ.2) mulL.2) (evd_cons (evd_str ev_c (by decide)) evd_nil)))))))) (by simp)) fun v3 G2 H2 r2 h3 => ?_
  refine Lf.q_forL r2.s (evd_catL (evd_var rfl h3) (evd_lst (evd_cons (pl rfl (by decide)) (evd_cons (pl rfl (by decide)) (evd_cons (pl rfl (by decide)) evd_nil))) (by simp)) (by simp)) fun G3 H3 r3 => ?_
  refine ⟨fun i σ' H' => ∃ u4 u5 u6, σ' = [some (.ref L), some (.str nm), none, some v3, u4, u5, u6] ∧ Ex G3 H' ∧ Ex H3 H', ⟨_, _, _, rfl, r3.s, Ex.refl _⟩, ?_, ?_, ?_⟩
  · rintro i σ' H' ⟨_, _, _, rfl, x, _⟩
    exact x
  · rintro i d vd σ' H' hi hvd ⟨u4, u5, u6, rfl, x, xh⟩
    have hx : ∃ z : Str, d = .str z := by
      have := List.mem_of_getElem? hi
      simp only [List.cons_append, List.nil_append, List.mem_cons, List.not_mem_nil, or_false] at this
      rcases this with rfl | rfl | rfl | rfl | rfl | rfl | rfl | rfl | rfl | rfl | rfl <;> exact ⟨_, rfl⟩
    obtain ⟨z, rfl⟩ := hx
    obtain ⟨rfl, hz⟩ := hvd.str_
    refine g1_at ?_
    dsimp only
    have e : isNm (.str z) = ((decide ((1 : Int) ≤ (z.length : Int)) && decide ((z.length : Int) ≤ 8)) && ((z.cps.toList.filter fun c => !inz c).map fun c => PyData.str (sgn1 c)).isEmpty) := by
      rw [isNm_str, lets_empty z (fun c => PyData.str (sgn1 c))]
      have e1 : decide ((1 : Int) ≤ (z.length : Int)) = decide (1 ≤ z.length) := by rw [decide_eq_decide]; omega
      have e2 : decide ((z.length : Int) ≤ 8) = decide (z.length ≤ 8) := by rw [decide_eq_decide]; omega
      rw [e1, e2]
    refine q_asgD x (d := .bool (isNm (.str z))) (evd_bl (Evl.ev_is (ev_andV (ev_chain ev_c (ev_lenS (evd_var rfl hvd)) ev_c) fun _ => ev_eqEL (evd_lcS (fun c => !inz c) (fun c => .str (sgn1 c)) (evd_var rfl hvd) (fun _ => rfl) (fun c _ => et_is (et_not (et_test (ev_chain ev_c (ev_ord (ev_var rfl)) ev_c))) ?_) (fun c _ _ => evd_str (ev_var rfl) (show 1 ≤ 1000 by decide)))) (by rw [e]))) fun v5 G5 H5 r5 h5 => ?_
    · unfold inz
      have a1 : decide ((97 : Int) ≤ (c : Nat)) = decide (97 ≤ c) := by rw [decide_eq_decide]; omega
      have a2 : decide (((c : Nat) : Int) ≤ 122) = decide (c ≤ 122) := by rw [decide_eq_decide]; omega
      rw [← a1, ← a2]
    refine s_ifD r5.s (b := false) (et_is (et_test (ev_neSS (ev_reprB (ev_callB (evd_var rfl (hvd.up r5.g)))) (ev_reprB (EvD.bl_ (evd_var rfl h5))))) (by rw [decide_eq_true rfl]; rfl)) (fun c => by cases c) (fun _ H6 x6 => ?_)
    exact ⟨_, _, _, rfl, fun a o h => x6 _ _ (r5.h _ _ (x _ _ h)), xh.trans (r5.h.trans x6)⟩
  · rintro σ' H4 ⟨u4, u5, u6, rfl, x, xh⟩
    try unfold tNext
    try dsimp only
    have gf : GrB Lm L G H G3 H4 := ((r1.gr r2).gr r3).gr (Gr.keep r3.s xh)
    refine s_retD x (d := .bool true) (evd_bl (Evl.ev_is (ev_eqD (d := .list [.bool false, .bool false, .bool false, .bool false, .bool false, .bool false]) (e := .list [.bool false, .bool false, .bool false, .bool false, .bool false, .bool false]) (EvD.is (evd_lcT (ds := [.none, .int 0, .tuple [.str "a"], .list [.str "a"], .dict [], .bool true]) (fun _ => true) (fun d => .bool (isNm d)) (evd_tup (evd_cons (evd_non ev_c) (evd_cons (evd_int ev_c) (evd_cons (evd_tup (evd_cons (evd_str ev_c (by decide)) evd_nil) (by simp)) (evd_cons (evd_lst (evd_cons (evd_str ev_c (by decide)) evd_nil) (by simp)) (evd_cons evd_dnew (evd_cons (evd_bl ev_c) evd_nil)))))) (by simp)) (by simp) (fun _ => rfl) (fun _ _ _ _ _ _ => et_yes (b := true)) (fun d hd' _ v G1 _ hv => evd_bl (ev_callB (evd_var rfl hv)))) rfl) (EvD.is (evd_repL (n := 6) (evd_lst (evd_cons (evd_bl ev_c) evd_nil) (by simp)) ev_c (by decide) (by decide) (by simp)) rfl) (by decide) (by decide) (by decide +kernel) (by decide +kernel)) (by decide +kernel))) fun v G7 H7 r7 hd => q v _ G7 H7 (gf.gr r7) rfl hd
end
end My
set_option maxHeartbeats 4000000
/-! a nested def handed to another def: its captured cells are pinned in the abstract heap while the callee runs -/
namespace L2
open PySem PySem.Spec PyProof.Rows NdefX LamX Evl Lf
def PinO (o : Obj) : HO := .frz o (.own 0)
/-- b is a cell of cl -/
def InCl (cl : List (Str × Addr)) (b : Addr) : Prop := ∃ y, cl.lookup y = some b
open Classical in
noncomputable def unpin (cl : List (Str × Addr)) (H : Hp) : Hp := fun b => if InCl cl b then none else H b
open Classical in
noncomputable def repin (cl : List (Str × Addr)) (H0 H : Hp) : Hp := fun b => if InCl cl b then H0 b else H b
/-- the cells of cl are pinned, those of fr hold ws -/
structure Pinned (cl : List (Str × Addr)) (fr : List Str) (ws : List (Option V)) (H : Hp) : Prop where
  len : ws.length = fr.length
  all : ∀ y c, cl.lookup y = some c → ∃ o v, H c = some (PinO o) ∧ o.data = .cell v
  inj : ∀ x y c, cl.lookup x = some c → cl.lookup y = some c → x = y
  has : ∀ (i : Nat) (y : Str), fr[i]? = some y → ∃ c, cl.lookup y = some c ∧ ∀ v, ws[i]? = some (some v) → ∃ o u, L2.RelV v u ∧ H c = some (PinO o) ∧ o.data = .cell (some u)
section
variable {cl : List (Str × Addr)} {fr : List Str} {ws : List (Option V)} {H H0 H' : Hp} {b : Addr}
theorem unpin_in (h : InCl cl b) : unpin cl H b = none := by
  unfold unpin
  rw [if_pos h]
theorem unpin_out (h : ¬ InCl cl b) : unpin cl H b = H b := by
  unfold unpin
  rw [if_neg h]
theorem repin_in (h : InCl cl b) : repin cl H0 H b = H0 b := by
  unfold repin
  rw [if_pos h]
theorem repin_out (h : ¬ InCl cl b) : repin cl H0 H b = H b := by
  unfold repin
  rw [if_neg h]
theorem Pinned.ext (p : Pinned cl fr ws H) (e : ∀ b o, InCl cl b → H b = some (PinO o) → H' b = some (PinO o)) : Pinned cl fr ws H' :=
  ⟨p.len, fun y c h => by
    obtain ⟨o, v, h1, h2⟩ := p.all y c h
    exact ⟨o, v, e c o ⟨y, h⟩ h1, h2⟩, p.inj, fun i y h => by
    obtain ⟨c, hc, k⟩ := p.has i y h
    refine ⟨c, hc, fun v hv => ?_⟩
    obtain ⟨o, u, r, h1, h2⟩ := k v hv
    exact ⟨o, u, r, e c o ⟨y, hc⟩ h1, h2⟩⟩
theorem Pinned.up (p : Pinned cl fr ws H) (e : Ex H H') : Pinned cl fr ws H' := p.ext fun b o _ h => e b _ h
theorem Pinned.some_ (p : Pinned cl fr ws H) (h : InCl cl b) : ∃ o v, H b = some (PinO o) ∧ o.data = .cell v := by
  obtain ⟨y, h⟩ := h
  exact p.all y b h
theorem Pinned.out (p : Pinned cl fr ws H) (h : ∀ o, H b ≠ some (PinO o)) : ¬ InCl cl b := fun z => by
  obtain ⟨o, v, e, _⟩ := p.some_ z
  exact h o e
theorem ext_pin {φ : Heap → Prop} (o : Obj) : HO.ext φ ≠ PinO o := fun z => by cases z
/-! ### the nested def is called where its cells are pinned -/
section
variable {X : Cx} {CX : CXT} {pins : List (Addr × Obj)} {σ : L2.St} {s s' : Shared} {k j : Nat} {f : Addr} {F : NF} {ps : List Str} {sp : List (Option V) → Sp} {E : XK} {us : List Value} {vs : List V} {Q : VK}
theorem unpin_ok {P : Program} {w : World} {h : Heap} (p : Pinned cl fr ws H) (x : HOk P w H h) : HOk P w (unpin cl H) h := fun b o e => by
  by_cases hb : InCl cl b
  · rw [unpin_in hb] at e
    cases e
  · rw [unpin_out hb] at e
    refine (x b o e).stay (fun _ _ _ q => q) (fun c q => ?_) fun c xs q => ?_
    · rw [unpin_out (p.out fun o z => by rw [q] at z; cases z)]
      exact q
    · rw [unpin_out (p.out fun o z => by rw [q] at z; cases z)]
      exact q
theorem pin_cells {P : Program} {w : World} {h : Heap} (p : Pinned cl fr ws H) (x : HOk P w H h) : CellsAt cl fr ws h (unpin cl H) := by
  have at_ : ∀ c o, H c = some (PinO o) → h.get? c = some o := fun c o e => by
    obtain ⟨q, _⟩ := x c _ e
    exact q
  refine ⟨p.len, fun y c e => ⟨unpin_in ⟨y, e⟩, ?_⟩, p.inj, fun i y e => ?_⟩
  · obtain ⟨o, v, h1, h2⟩ := p.all y c e
    exact ⟨v, o, at_ c o h1, h2⟩
  · obtain ⟨c, hc, k⟩ := p.has i y e
    refine ⟨c, hc, fun v hv => ?_⟩
    obtain ⟨o, u, r, h1, h2⟩ := k v hv
    exact ⟨u, r, o, at_ c o h1, h2⟩
theorem run_pinned (Fn : NOk X.prog X.w X.K X.mg X.base C8.CX0 k f F ps fr sp) (hr : Room j X.A) (hk : k ≤ j) (I : Inv X pins σ H s) (p : Pinned F.cl fr ws H)
    (hf : H f = some (FnO f F)) (hc : H F.c = some (CodeO F.c F.qual)) (r : Vals vs us) (q : sp ws vs (unpin F.cl H) (fun v H' => (∀ b, InCl F.cl b → H' b = none) → Q v (repin F.cl H H')) E) :
    wpAny (model X.prog X.w) X.A (call (.ref f) us) (EP X pins σ Q) X.xe s := by
  have e0 := I.env0
  have nst : ∀ b ∈ frs X.stack, ¬ InCl F.cl b := fun b hb => p.out fun o z => by
    rw [e0.frf b hb] at z
    cases z
  have e1 : Env0 X.prog X.w X.K X.mg X.base X.A X.stack s (unpin F.cl H) := ⟨e0.frames, e0.mod, fun b o e => ⟨(e0.bs b o e).1, by
    by_cases hb : InCl F.cl b
    · exact unpin_in hb
    · rw [unpin_out hb]
      exact (e0.bs b o e).2⟩, e0.bsz, e0.funs, fun b hb => by
    rw [unpin_out (nst b hb)]
    exact e0.frf b hb, unpin_ok p e0.hok, e0.bare⟩
  refine wpAny_call (codeAny_mono (Fn.run X.A X.stack s (unpin F.cl H) us vs ws (fun v H' => (∀ b, InCl F.cl b → H' b = none) → Q v (repin F.cl H H')) E (hr.mono hk) e1 (by rw [unpin_out (p.out fun o z => by rw [hf] at z; cases z)]; exact hf) (by rw [unpin_out (p.out fun o z => by rw [hc] at z; cases z)]; exact hc) (pin_cells p e0.hok) r q) fun r s' hq => ?_)
  cases r with
  | error e => exact (show False from hq).elim
  | ok fl =>
    cases fl with
    | ret u =>
      obtain ⟨v, H', os, bare, un, hok, rv, q⟩ := (show CE X.stack X.prog X.w (unpin F.cl H) s (fun v H' => (∀ b, InCl F.cl b → H' b = none) → Q v (repin F.cl H H')) u s' from hq)
      refine I.after ⟨v, repin F.cl H H', os, bare, ?_, ?_, rv, q fun b hb => ?_⟩
      rotate_left 2
      · obtain ⟨o', v', h1, h2⟩ := p.some_ hb
        obtain ⟨g1, _⟩ := e0.hok b _ h1
        exact un.free b o' g1 (unpin_in hb) (fun z => nomatch z)
      · have no : ∀ b, H b = none → ¬ InCl F.cl b := fun b e => p.out fun o z => by rw [e] at z; cases z
        have nt : ∀ b u, H b = some u → (∀ o, u ≠ PinO o) → ¬ InCl F.cl b := fun b u e n => p.out fun o z => by
          rw [e] at z
          exact n o (Option.some.inj z)
        refine ⟨fun b o e n hb hx => un.keep b o e (by rw [unpin_out (no b n)]; exact n) hb hx, fun b o e n hb hx => un.slot b o e (by rw [unpin_out (no b n)]; exact n) hb hx, fun b o e n hx => ?_, un.there, fun b xs e => ?_, fun b o u e => ?_, fun b qs e => ?_⟩
        · rw [repin_out (no b n)]
          exact un.free b o e (by rw [unpin_out (no b n)]; exact n) hx
        · have z := nt b _ e (fun o z => by cases z)
          rw [repin_out z]
          exact un.tups b xs (by rw [unpin_out z]; exact e)
        · by_cases z : InCl F.cl b
          · rw [repin_in z]
            exact e
          · rw [repin_out z]
            exact un.frzs b o u (by rw [unpin_out z]; exact e)
        · have z := nt b _ e (fun o z => by cases z)
          rw [repin_out z]
          exact un.tbls b qs (by rw [unpin_out z]; exact e)
      · intro b o e
        by_cases z : InCl F.cl b
        · rw [repin_in z] at e
          obtain ⟨o', v', h1, h2⟩ := p.some_ z
          rw [h1] at e
          cases e
          obtain ⟨g1, _⟩ := e0.hok b _ h1
          have g2 : s'.heap.get? b = some o' := un.keep b o' g1 (unpin_in z) (fun hb => nst b hb z) (fun z => nomatch z)
          exact ⟨g2, ⟨o', g2⟩⟩
        · rw [repin_out z] at e
          refine (hok b o e).stay (fun _ _ _ q => q) (fun c q => ?_) fun c xs q => ?_
          · by_cases zc : InCl F.cl c
            · obtain ⟨o', v', h1, h2⟩ := p.some_ zc
              obtain ⟨g1, _⟩ := e0.hok c _ h1
              have z2 := un.free c o' g1 (unpin_in zc) (fun z => nomatch z)
              rw [z2] at q
              cases q
            · rw [repin_out zc]
              exact q
          · by_cases zc : InCl F.cl c
            · obtain ⟨o', v', h1, h2⟩ := p.some_ zc
              obtain ⟨g1, _⟩ := e0.hok c _ h1
              have z2 := un.free c o' g1 (unpin_in zc) (fun z => nomatch z)
              rw [z2] at q
              cases q
            · rw [repin_out zc]
              exact q
    | next => exact False.elim hq
    | brk => exact False.elim hq
    | cont => exact False.elim hq
/-- x(e), x a slot that holds a nested def whose cells are pinned -/
def tCallP (sp : Addr → NF → List (Option V) → Sp) (ok : Addr → NF → List (Option V) → Prop) (fr : List Str) (i : Nat) (E : XK) (te : TA) : TE := fun σ H Q => ∃ f F ws, σ[i]? = some (some (.ref f)) ∧ ok f F ws ∧ H f = some (FnO f F) ∧
  te σ H fun vs H1 => H1 f = some (FnO f F) ∧ H1 F.c = some (CodeO F.c F.qual) ∧ Pinned F.cl fr ws H1 ∧ sp f F ws vs (unpin F.cl H1) (fun v H' => (∀ b, InCl F.cl b → H' b = none) → Q v (repin F.cl H1 H')) E
theorem pe_callP {ok : Addr → NF → List (Option V) → Prop} {sp : Addr → NF → List (Option V) → Sp} {x : Str} {i : Nat} {p pos : Pos} {e : Expr} {es : List Expr} {t : TA} (Fn : ∀ f F ws, ok f F ws → NOk X.prog X.w X.K X.mg X.base C8.CX0 k f F ps fr (sp f F)) (hr : Room j X.A) (hk : k ≤ j) (hN : X.N[i]? = some x) (hv : Vis X.env.scope x) (ha : PA X (e :: es) t)
    (hd : (x == ("__debug__" : Str)) = false := by decide) (hcd : (x == ("__classdict__" : Str)) = false := by decide)
    (he : starEach (e :: es) X.env = (false, eval e X.env) :: starEach es X.env := by rfl) (hpl : (backTo pos (starEach es X.env)).any (·.1) = false := by rfl) :
    PE X (.Call (.Name x p) (e :: es) [] pos) (tCallP sp ok fr i E t) := by
  refine ⟨fun pins s σ H Q I h => ?_⟩
  obtain ⟨f, F, ws, hs, hok, hf, ht⟩ := h
  refine wpAny_Call_Name_kw (thn ((pe_var (pos := p) hN hv hd hcd).run pins s σ H (fun v H1 => v = .ref f ∧ H1 = H) I ⟨.ref f, hs, rfl, rfl⟩) fun u s1 ⟨v, H1, I1, r1, q1⟩ => ?_)
  obtain ⟨ev, eH⟩ := q1
  subst ev
  rw [eH] at I1
  obtain rfl : u = Value.ref f := r1
  refine PySem.W.callWith_F (first := []) (fnAt_of I1 hf) (thn (ha.run pos pins s1 σ H _ I1 ht) fun us s2 ⟨vs, H2, I2, r, h1, h2, p, q⟩ => ⟨fnAt_of I2 h1, ?_⟩) he hpl
  show wpAny _ _ (call (.ref f) us) _ _ _
  exact run_pinned (Fn f F ws hok) hr hk I2 p h1 h2 r q
end
/-! ### a def is called with a nested def of the running one: its cells are pinned for the call -/
/-- H is H0 with the cells of cl pinned -/
structure PinUp (cl : List (Str × Addr)) (fr : List Str) (ws : List (Option V)) (H0 H : Hp) : Prop where
  pin : Pinned cl fr ws H
  old : ∀ b, InCl cl b → H0 b = none
  out : ∀ b, ¬ InCl cl b → H b = H0 b
section
variable {X : Cx} {CX : CXT} {pins : List (Addr × Obj)} {σ : L2.St} {s s' : Shared} {k j : Nat} {f : Addr} {fd : FuncData} {ps : List Str} {sp : Sp} {E : XK} {us : List Value} {vs : List V} {Q : VK}
open Classical in
theorem pin_up {P : Program} {w : World} {h : Heap} (C : CellsAt cl fr ws h H) (x : HOk P w H h) : ∃ H', PinUp cl fr ws H H' ∧ HOk P w H' h := by
  have old : ∀ b, InCl cl b → H b = none := fun b ⟨y, e⟩ => (C.all y b e).1
  have cell : ∀ b, InCl cl b → ∃ v o, h.get? b = some o ∧ o.data = .cell v := fun b ⟨y, e⟩ => by
    obtain ⟨v, o, h1, h2⟩ := (C.all y b e).2
    exact ⟨v, o, h1, h2⟩
  have in_ : ∀ b, InCl cl b → ∀ o, h.get? b = some o → (fun b => if InCl cl b then (h.get? b).map PinO else H b : Hp) b = some (PinO o) := fun b hb o e => by
    show (if InCl cl b then (h.get? b).map PinO else H b) = some (PinO o)
    rw [if_pos hb, e]
    rfl
  have out_ : ∀ b, ¬ InCl cl b → (fun b => if InCl cl b then (h.get? b).map PinO else H b : Hp) b = H b := fun b hb => by
    show (if InCl cl b then (h.get? b).map PinO else H b) = H b
    rw [if_neg hb]
  have nt : ∀ b u, H b = some u → ¬ InCl cl b := fun b u e z => by
    rw [old b z] at e
    cases e
  refine ⟨fun b => if InCl cl b then (h.get? b).map PinO else H b, ⟨⟨C.len, fun y c e => ?_, C.inj, fun i y e => ?_⟩, old, out_⟩, fun b o e => ?_⟩
  · obtain ⟨v, o, h1, h2⟩ := cell c ⟨y, e⟩
    exact ⟨o, v, in_ c ⟨y, e⟩ o h1, h2⟩
  · obtain ⟨c, hc, k⟩ := C.has i y e
    refine ⟨c, hc, fun v hv => ?_⟩
    obtain ⟨u, r, o, h1, h2⟩ := k v hv
    exact ⟨o, u, r, in_ c ⟨y, hc⟩ o h1, h2⟩
  · by_cases hb : InCl cl b
    · obtain ⟨v, o', h1, h2⟩ := cell b hb
      have e' := in_ b hb o' h1
      have e := e'.symm.trans e
      cases e
      exact ⟨h1, ⟨o', h1⟩⟩
    · have e := (out_ b hb).symm.trans e
      refine (x b o e).stay (fun _ _ _ q => q) (fun c q => ?_) fun c xs q => ?_
      · exact (out_ c (nt c _ q)).trans q
      · exact (out_ c (nt c _ q)).trans q
theorem run_pinUp {args : Args} {cl : List (Str × Addr)} (F : FnOk X.prog X.w X.K X.mg X.base C8.CX0 k f fd ps sp) (hr : Room k X.A) (I : Inv X pins σ H s) (C : CellsAt cl fr ws s.heap H) (nfr : ∀ b ∈ frs X.stack, ¬ InCl cl b) (nbs : ∀ b o, X.base.get? b = some o → ¬ InCl cl b)
    (hb : BindsTo s fd args (ps.zip us)) (r : Vals vs us)
    (q : ∀ H1, PinUp cl fr ws H H1 → sp vs H1 (fun v H' => (∀ b o, InCl cl b → H1 b = some (PinO o) → H' b = some (PinO o)) → Q v (unpin cl H')) E) :
    codeAny (model X.prog X.w) X.A (.call (.ref f) args) (fun r s' => match r with | .ok (.ret u) => EP X pins σ Q u s' | .ok _ => False | .error e => X.xe e s') s := by
  have e0 := I.env0
  obtain ⟨H1, p, hok1⟩ := pin_up C e0.hok
  have e1 : Env0 X.prog X.w X.K X.mg X.base X.A X.stack s H1 := ⟨e0.frames, e0.mod, fun b o e => ⟨(e0.bs b o e).1, (p.out b (nbs b o e)).trans (e0.bs b o e).2⟩, e0.bsz, e0.funs, fun b hb => (p.out b (nfr b hb)).trans (e0.frf b hb), hok1, e0.bare⟩
  refine codeAny_mono (F.run X.A X.stack s H1 args us vs _ E hr e1 hb r (q H1 p)) fun r s' hq => ?_
  cases r with
  | error e => exact (show False from hq).elim
  | ok fl =>
    cases fl with
    | ret u =>
      obtain ⟨v, H', os, bare, un, hok, rv, q⟩ := (show CE X.stack X.prog X.w H1 s (fun v H' => (∀ b o, InCl cl b → H1 b = some (PinO o) → H' b = some (PinO o)) → Q v (unpin cl H')) u s' from hq)
      have keepP : ∀ b o, InCl cl b → H1 b = some (PinO o) → H' b = some (PinO o) := fun b o _ e => un.frzs b o _ e
      refine I.after ⟨v, unpin cl H', os, bare, ?_, ?_, rv, q keepP⟩
      · have at_ : ∀ b, InCl cl b → ∀ o, s.heap.get? b = some o → s'.heap.get? b = some o := fun b hb o e => by
          obtain ⟨o', v', h1, _⟩ := p.pin.some_ hb
          obtain ⟨g1, _⟩ := hok1 b _ h1
          have g1 : s.heap.get? b = some o' := g1
          rw [e] at g1
          cases g1
          obtain ⟨g2, _⟩ := hok b _ (keepP b o hb h1)
          exact g2
        have nt : ∀ b u, H b = some u → ¬ InCl cl b := fun b u e z => by
          rw [p.old b z] at e
          cases e
        refine ⟨fun b o e n hb hx => ?_, fun b o e n hb hx => ?_, fun b o e n hx => ?_, un.there, fun b xs e => ?_, fun b o u e => ?_, fun b qs e => ?_⟩
        · by_cases z : InCl cl b
          · exact at_ b z o e
          · exact un.keep b o e ((p.out b z).trans n) hb hx
        · by_cases z : InCl cl b
          · exact ⟨o.slots, at_ b z o e⟩
          · exact un.slot b o e ((p.out b z).trans n) hb hx
        · by_cases z : InCl cl b
          · exact unpin_in z
          · rw [unpin_out z]
            exact un.free b o e ((p.out b z).trans n) hx
        · have z := nt b _ e
          rw [unpin_out z]
          exact un.tups b xs ((p.out b z).trans e)
        · have z := nt b _ e
          rw [unpin_out z]
          exact un.frzs b o u ((p.out b z).trans e)
        · have z := nt b _ e
          rw [unpin_out z]
          exact un.tbls b qs ((p.out b z).trans e)
      · exact unpin_ok (p.pin.ext keepP) hok
    | next => exact False.elim hq
    | brk => exact False.elim hq
    | cont => exact False.elim hq
end
/-- x(e, ..), x a def that is handed a nested def of the running one -/
def tCallPU (sp : Sp) (cl : List (Str × Addr)) (fr : List Str) (js : List Nat) (E : XK) (t : TA) : TE := fun σ H Q => t σ H fun vs H1 => ∀ H2, PinUp cl fr (js.map (NdefX.slotAt σ)) H1 H2 → sp vs H2 (fun v H' => (∀ b o, InCl cl b → H2 b = some (PinO o) → H' b = some (PinO o)) → Q v (unpin cl H')) E
theorem pe_callPU {X : Cx} {k : Nat} {ps : List Str} {sp : Sp} {E : XK} {fr : List Str} {x : Str} {cl : List (Str × Addr)} {js : List Nat} {e : Expr} {es : List Expr} {t : TA} {p pos : Pos} (D : DefOk X.prog X.w X.K X.mg X.base C8.CX0 k x ps sp) (hr : Room k X.A) (cp : X.Ok → NdefX.Caps X cl fr js) (hfn : ∀ y, X.fn y = true) (ha : PA X (e :: es) t) (hg : Gl X x := by rfl) (hdb : (x == ("__debug__" : Str)) = false := by decide)
    (he : starEach (e :: es) X.env = (false, eval e X.env) :: starEach es X.env := by rfl) (hpl : (backTo pos (starEach es X.env)).any (·.1) = false := by rfl) :
    PE X (.Call (.Name x p) (e :: es) [] pos) (tCallPU sp cl fr js E t) := by
  obtain ⟨f, fd, hm, hk, hb, F⟩ := D
  refine ⟨fun pins s σ H Q I h => ?_⟩
  refine wpAny_Call_Name_kw (ld_glob I hg hm ?_ hdb)
  refine PySem.W.callWith_K (h₀ := X.base) I.ok.mod.kin hk (thn (ha.run pos pins s σ H _ I h) fun us s1 ⟨vs, H1, I1, r, q⟩ => ⟨I1.kIn, ?_⟩) he hpl
  have cp' := cp I1.ok
  have big : ∀ b, InCl cl b → X.s_0.heap.objs.size ≤ b := fun b ⟨y, e⟩ => I1.ok.cab y b (hfn y) (cp'.sub y b e)
  have nbs : ∀ b o, X.base.get? b = some o → ¬ InCl cl b := fun b o e z => absurd (Heap.lt_size (I1.ok.bs b o e).1) (Nat.not_lt.mpr (big b z))
  have nfr : ∀ b ∈ frs X.stack, ¬ InCl cl b := fun b hb' z => by
    rcases List.mem_cons.mp (I1.stkSub b hb') with e | e
    · obtain ⟨y, ey⟩ := z
      obtain ⟨v, o, ho, hd⟩ := I1.cell y b (cp'.sub y b ey)
      obtain ⟨m, ⟨o', es', ep', ho', hd', _⟩, _⟩ := I1.loc
      rw [← e, ho] at ho'
      cases ho'
      rw [hd] at hd'
      cases hd'
    · obtain ⟨_, o, ho, _⟩ := I1.ok.funs.mem e
      exact absurd (Heap.lt_size ho) (Nat.not_lt.mpr (big b z))
  have hl : vs.length = ps.length := by
    obtain ⟨H2, p2, _⟩ := pin_up (cells_of I1 cp') I1.env0.hok
    exact F.len _ _ _ _ (q H2 p2)
  have hb' := hb s1 us I1.kIn (by rw [List.append_nil]; exact r.length.symm.trans hl)
  rw [List.append_nil] at hb'
  exact wpAny_call (run_pinUp F hr I1 (cells_of I1 cp') nfr nbs hb' r q)
/-! ### views -/
section
variable {H H' : Hp}
mutual
theorem Da.monoD (x : ∀ a o, H a = some o → dataO o = true → H' a = some o) : ∀ (d : PyData) (v : V), Da H v d → Da H' v d
  | .none, _, h => by cases h; exact .non
  | .bool b, _, h => by cases h; exact .bl _
  | .int i, _, h => by cases h; exact .int _
  | .str s, _, h => by cases h with | str _ hl => exact .str _ hl
  | .list ds, _, h => by cases h with | lst e ha => exact .lst (x _ _ e rfl) (DaAll.monoD x ds _ ha)
  | .tuple ds, _, h => by cases h with | tup e ha => exact .tup (x _ _ e rfl) (DaAll.monoD x ds _ ha)
  | .dict ds, _, h => by cases h with | dct e ha => exact .dct (x _ _ e rfl) (DaKvs.monoD x ds _ ha)
theorem DaAll.monoD (x : ∀ a o, H a = some o → dataO o = true → H' a = some o) : ∀ (ds : List PyData) (vs : List V), DaAll H vs ds → DaAll H' vs ds
  | [], _, h => by cases h; exact .nil
  | d :: ds, _, h => by cases h with | cons h t => exact .cons (Da.monoD x d _ h) (DaAll.monoD x ds _ t)
theorem DaKvs.monoD (x : ∀ a o, H a = some o → dataO o = true → H' a = some o) : ∀ (ds : List (PyData × PyData)) (vs : List (Key × V)), DaKvs H vs ds → DaKvs H' vs ds
  | [], _, h => by cases h; exact .nil
  | (k, d) :: ds, _, h => by cases h with | cons h t => exact .cons (Da.monoD x d _ h) (DaKvs.monoD x ds _ t)
end
end
theorem pin_nodata (o : Obj) : dataO (PinO o) = false := rfl
theorem ex_unpin2 {G : Hp} (s : Ex G H) : Ex (unpin cl G) (unpin cl H) := fun b o e => by
  by_cases z : InCl cl b
  · rw [unpin_in z] at e
    cases e
  · rw [unpin_out z] at e ⊢
    exact s b o e
theorem da_unpin {G : Hp} {fr : List Str} {ws : List (Option V)} (p : Pinned cl fr ws G) {v : V} {d : PyData} (h : Da G v d) : Da (unpin cl G) v d := Da.monoD (fun a o e hd => by
  rw [unpin_out (p.out fun ob z => by
    rw [e] at z
    cases z
    cases hd)]
  exact e) d v h
theorem gr_repin {G G' : Hp} (s : Ex G H) (r : Gr (unpin cl G) (unpin cl H) G' H') (n : ∀ b, InCl cl b → H' b = none) : Gr G H (repin cl G G') (repin cl H H') ∧ Ex G' (repin cl G G') := by
  have ng : ∀ b, InCl cl b → G' b = none := fun b z => by
    cases e : G' b with
    | none => rfl
    | some o =>
      have e2 := r.s b o e
      rw [n b z] at e2
      cases e2
  refine ⟨⟨fun b o e => ?_, fun b o e => ?_, fun b o e => ?_, fun b h1 h2 => ?_, fun b o e => ?_⟩, fun b o e => ?_⟩
  · by_cases z : InCl cl b
    · rw [repin_in z]
      exact e
    · rw [repin_out z]
      exact r.h b o (by rw [unpin_out z]; exact e)
  · by_cases z : InCl cl b
    · rw [repin_in z]
      exact e
    · rw [repin_out z]
      exact r.g b o (by rw [unpin_out z]; exact e)
  · by_cases z : InCl cl b
    · rw [repin_in z] at e ⊢
      exact s b o e
    · rw [repin_out z] at e ⊢
      exact r.s b o e
  · by_cases z : InCl cl b
    · rw [repin_in z]
      exact h2
    · rw [repin_out z]
      exact r.n b (by rw [unpin_out z]; exact h1) (by rw [unpin_out z]; exact h2)
  · by_cases z : InCl cl b
    · rw [repin_in z] at e
      exact .inl e
    · rw [repin_out z] at e
      rcases r.t b o e with h | h
      · rw [unpin_out z] at h
        exact .inl h
      · exact .inr h
  · rw [repin_out fun z => by rw [ng b z] at e; cases e]
    exact e
theorem gr_unpin {G G' H2 : Hp} {fr : List Str} {ws : List (Option V)} (p : PinUp cl fr ws H H2) (s : Ex G H) (r : Gr G H2 G' H') (k : ∀ b o, InCl cl b → H2 b = some (PinO o) → H' b = some (PinO o)) : Gr G H G' (unpin cl H') := by
  have out : ∀ b o, H b = some o → ¬ InCl cl b := fun b o e z => by
    rw [p.old b z] at e
    cases e
  have ng : ∀ b, InCl cl b → G' b = none := fun b z => by
    cases e : G' b with
    | none => rfl
    | some o =>
      obtain ⟨ob, v, h1, _⟩ := p.pin.some_ z
      have e2 := r.s b o e
      rw [k b ob z h1] at e2
      cases e2
      rcases r.t b _ e with h | h
      · have h3 := s b _ h
        rw [p.old b z] at h3
        cases h3
      · cases h
  refine ⟨fun b o e => ?_, r.g, fun b o e => ?_, fun b h1 h2 => ?_, r.t⟩
  · have z := out b o e
    rw [unpin_out z]
    exact r.h b o ((p.out b z).trans e)
  · rw [unpin_out fun z => by rw [ng b z] at e; cases e]
    exact r.s b o e
  · have z : ¬ InCl cl b := fun z => h1 (p.old b z)
    exact r.n b (by rw [p.out b z]; exact h1) h2
theorem ex_pinUp {G H2 : Hp} {fr : List Str} {ws : List (Option V)} (p : PinUp cl fr ws H H2) (s : Ex G H) : Ex G H2 := fun b o e => (p.out b fun z => by
  have h := s b o e
  rw [p.old b z] at h
  cases h).trans (s b o e)
/-- a view with things that are no data, and the view without them -/
theorem gr_back {G0 Gx G' : Hp} (g0 : Ex G0 Gx) (g1 : ∀ b o, Gx b = some o → G0 b = some o ∨ dataO o = false) (r : Gr Gx H G' H') : ∃ G2, Gr G0 H G2 H' ∧ ∀ v d, Da G' v d → Da G2 v d := by
  refine ⟨fun b => match G0 b with
    | some o => some o
    | none => (G' b).filter dataO, ⟨r.h, fun b o e => ?_, fun b o e => ?_, fun b h1 h2 => ?_, fun b o e => ?_⟩, fun v d h => Da.monoD (fun b o e hd => ?_) d v h⟩
  · show (match G0 b with | some o => some o | none => (G' b).filter dataO) = some o
    rw [e]
  · have e : (match G0 b with | some o => some o | none => (G' b).filter dataO) = some o := e
    cases z : G0 b with
    | some o' =>
      rw [z] at e
      cases e
      exact r.s b _ (r.g b _ (g0 b _ z))
    | none =>
      rw [z] at e
      exact r.s b o (Option.filter_eq_some_iff.mp e).1
  · show (match G0 b with | some o => some o | none => (G' b).filter dataO) = none
    rw [h2]
    show (G' b).filter dataO = none
    cases e : G' b with
    | none => rfl
    | some o =>
      cases z : Gx b with
      | none =>
        rw [r.n b h1 z] at e
        cases e
      | some o1 =>
        have e1 := r.g b o1 z
        rw [e] at e1
        cases e1
        rcases g1 b o z with h | h
        · rw [h2] at h
          cases h
        · rw [Option.filter_some, if_neg (by rw [h]; decide)]
  · have e : (match G0 b with | some o => some o | none => (G' b).filter dataO) = some o := e
    cases z : G0 b with
    | some o' =>
      rw [z] at e
      exact .inl e
    | none =>
      rw [z] at e
      exact .inr (Option.filter_eq_some_iff.mp e).2
  · show (match G0 b with | some o => some o | none => (G' b).filter dataO) = some o
    cases z : G0 b with
    | some o' =>
      have e1 := r.g b _ (g0 b _ z)
      rw [e] at e1
      cases e1
      rfl
    | none => exact Option.filter_eq_some_iff.mpr ⟨e, hd⟩
end
end L2
set_option maxHeartbeats 1000000
/-! x(lambda: e), x with one clause that returns a text, several tables; what is drawn within a lambda -/
namespace Lf
open PySem L2 Evl LamX LfT PyProof.Rows
def lOne (CA : Addr) (ret : Str) : List (Value × Option Nat × (Addr → Value → Option Addr → TS)) := [(.ref CA, none, fun _ _ _ => tRet (tC (.str ret)))]
/-- an expression that tells data, whatever it adds to the tables -/
def ToD (te : TE) (σ : L2.St) (G : Hp) (Tb : List (Addr × Str)) (d : PyData) : Prop := ∀ H, Ex G H → Tabs Tb H → ∀ Q : VK, (∀ v G' H', ExtN H H' → Tabs Tb H' → Ex G G' → Ex G' H' → (∀ a o, G' a = some o → dataO o = true) → Da G' v d → Q v H') → te σ H Q
/-- .. and draws -/
def SaysR (Lm : List V → Prop) (L : Addr) (te : TE) (σ : L2.St) (G : Hp) (Tb : List (Addr × Str)) (z : Str) : Prop := ∀ H, At Lm L G H → Tabs Tb H → ∀ Q : VK, (∀ G' H', KeepN L H H' → Tabs Tb H' → Ex G G' → At Lm L G' H' → (∀ a xs, H a = some (.lst xs) → G a = none → G' a = none) → Q (.str z) H') → te σ H Q
section
variable {K : PySem.W.Frag} {σ : L2.St} {G H H0 : Hp} {te tl : TE} {t : XK → TE} {tz tu tw : TS} {D : Ends} {Tb : List (Addr × Str)} {z ret : Str} {i n : Nat} {p L CA : Addr} {d : PyData} {Lm : List V → Prop}
theorem told_yes (hG : ∀ a o, G a = some o → dataO o = true) (h : ∀ E, EvD (t E) σ G d) : ToD (tLam Tb (TMix K n (lOne CA ret)) t) σ G Tb d := fun H s t0 Q k =>
  ⟨t0, fun H1 e1 t1 => h _ G H1 (Ex.refl _) (exn_view hG s e1) _ fun v G2 H2 r hd => k v G2 H2 (e1.trans (ExtN.of r.h)) (t1.ext r.h) r.g r.s (gr_data hG r) hd⟩
theorem told_yesS (hG : ∀ a o, G a = some o → dataO o = true) (h : ∀ E, Ev (t E) σ G (.str z)) : Says (tLam Tb (TMix K n (lOne CA ret)) t) σ G Tb z := fun H s t0 Q k =>
  ⟨t0, fun H1 e1 t1 => h _ H1 (exn_view hG s e1) _ fun H2 x2 => k H2 (e1.trans (ExtN.of x2)) (t1.ext x2) ((exn_view hG s e1).trans x2)⟩
theorem told_no (aa : PySem.W.exmOne K (.ref CA) (.ref CA) = some true) (hG : ∀ a o, G a = some o → dataO o = true) (h : ∀ H1, Ex G H1 → ∀ (E : XK) (Q' : VK), (∀ d H', Ex H1 H' → E (.ref CA) d H') → t E σ H1 Q') : Says (tLam Tb (TMix K n (lOne CA ret)) t) σ G Tb ret := fun H s t0 Q k =>
  ⟨t0, fun H1 e1 t1 => h H1 (exn_view hG s e1) _ _ fun d H' x σ' hl => ⟨true, aa, (fun _ a ha => k H' (e1.trans (ExtN.of x)) (t1.ext x) ((exn_view hG s e1).trans x)), fun z => by cases z⟩⟩
theorem told_noR (aa : PySem.W.exmOne K (.ref CA) (.ref CA) = some true) (hG : ∀ a o, G a = some o → dataO o = true) (h : ∀ H1, At Lm L G H1 → ∀ (E : XK) (Q' : VK), (∀ d G' H', GrB Lm L G H1 G' H' → E (.ref CA) d H') → t E σ H1 Q') : SaysR Lm L (tLam Tb (TMix K n (lOne CA ret)) t) σ G Tb ret := fun H w t0 Q k =>
  ⟨t0, fun H1 e1 t1 => by
    obtain ⟨xs, hL, hm⟩ := w.l
    have hL1 := e1 L _ hL (fun ps z => by cases z)
    have w1 : At Lm L G H1 := ⟨exn_view hG w.s e1, w.f, xs, hL1, hm⟩
    refine h H1 w1 _ _ fun d G' H' r σ' hl => ⟨true, aa, (fun _ a ha => k G' H' ((KeepN.ofN e1).trans (KeepN.ofB r.h)) (tabs_exB t1 r.h hL1) r.g r.w (fun a ys h1 h2 => r.n a (by rw [e1 a _ h1 (fun ps z => by cases z)]; exact fun z => by cases z) h2)), fun z => by cases z⟩⟩
theorem Says.toD (hG : ∀ a o, G a = some o → dataO o = true) (h : Says te σ G Tb z) (hz : z.length ≤ 1000) : ToD te σ G Tb (.str z) := fun H s t Q k => h H s t Q fun H' e t' s' => k _ G H' e t' (Ex.refl _) s' hG (.str _ hz)
/-- repr(x(lambda: e)) != repr(f), both the same -/
theorem s_ifRepr (s : Ex G H) (t0 : Tabs Tb H) (hl : ToD tl σ G Tb d) (he : EvD te σ G d) (f : flatD d = true) (h1 : d.showable = true) (h2 : d.hasDict = false) (h3 : d.depth ≤ 32) (h4 : d.shown.length ≤ sizeLine)
    (k : ∀ H', ExtN H H' → Tabs Tb H' → Ex G H' → tw D σ H') : tIfS (tTest (tOp rNe (tCB (rReprD K) (tCons tl tNil)) (tCB (rReprD K) (tCons te tNil)))) tu tw D σ H := by
  refine hl H s t0 _ fun v G1 H1 e1 t1 g1 s1 hG1 hd => ⟨v, d, rfl, Da.dp d v (hd.up s1) f, h1, h2, h3, h4, ?_⟩
  refine ev_repr (K := K) (he.mono g1) f h1 h2 h3 h4 H1 s1 _ fun H2 x2 => ?_
  refine rv_ne (x := V.str d.shown) (y := V.str d.shown) (H := H2) rfl H2 (Ex.refl _) _ fun H3 x3 => ⟨_, rfl, ?_⟩
  rw [decide_eq_true rfl]
  exact if_no rfl (k H3 (e1.trans (ExtN.of (x2.trans x3))) (t1.ext (x2.trans x3)) ((g1.trans s1).trans (x2.trans x3)))
theorem q_ifRepr (s : Ex G H) (t0 : Tabs Tb H) (hl : ToD tl σ G Tb d) (he : EvD te σ G d) (f : flatD d = true) (h1 : d.showable = true) (h2 : d.hasDict = false) (h3 : d.depth ≤ 32) (h4 : d.shown.length ≤ sizeLine)
    (k : ∀ H', ExtN H H' → Tabs Tb H' → Ex G H' → tw { D with nx := tz D } σ H') : tSeq (tIfS (tTest (tOp rNe (tCB (rReprD K) (tCons tl tNil)) (tCB (rReprD K) (tCons te tNil)))) tu tw) tz D σ H := s_ifRepr (D := { D with nx := tz D }) s t0 hl he f h1 h2 h3 h4 k
/-- x(lambda: e) != 'text' -/
theorem s_ifSaysS (s : Ex G H) (t0 : Tabs Tb H) (hl : Says tl σ G Tb z) (k : ∀ H', ExtN H H' → Tabs Tb H' → Ex G H' → tw D σ H') : tIfS (tTest (tOp rNeS tl (tC (.str z)))) tu tw D σ H := by
  refine hl H s t0 _ fun H1 e1 t1 s1 => ⟨"str", z, rfl, .str _, _, rfl, ?_⟩
  rw [decide_eq_true rfl]
  exact if_no rfl (k H1 e1 t1 s1)
/-- x(lambda: e) != e, both the same text -/
theorem q_ifSaysN {z' : Str} (s : Ex G H) (t0 : Tabs Tb H) (hl : Says tl σ G Tb z) (he : Ev te σ G (.str z')) (e : z = z') (k : ∀ H', ExtN H H' → Tabs Tb H' → Ex G H' → tw { D with nx := tz D } σ H') : tSeq (tIfS (tTest (tOp rNe tl te)) tu tw) tz D σ H := by
  subst e
  refine hl H s t0 _ fun H1 e1 t1 s1 => he H1 s1 _ fun H2 x2 => ?_
  refine rv_ne (x := V.str z) (y := V.str z) (H := H2) rfl H2 (Ex.refl _) _ fun H3 x3 => ⟨_, rfl, ?_⟩
  rw [decide_eq_true rfl]
  exact if_no rfl (k H3 (e1.trans (ExtN.of (x2.trans x3))) (t1.ext (x2.trans x3)) (s1.trans (x2.trans x3)))
/-- l.append(x(lambda: e)), e draws -/
theorem q_tlAR {zs : List Str} (w : At Lm L G H) (t0 : Tabs Tb H) (hσ : σ[i]? = some (some (.ref p))) (hp : H p = some (.lst (zs.map V.str))) (ne : p ≠ L) (hl : zs.length ≤ 1000) (h : SaysR Lm L te σ G Tb z)
    (k : ∀ G' H1 H', KeepN L H H1 → H' = upd H1 p (.lst ((zs ++ [z]).map V.str)) → H1 p = some (.lst (zs.map V.str)) → Tabs Tb H1 → Ex G G' → At Lm L G' H1 → (∀ a xs, H a = some (.lst xs) → G a = none → G' a = none) → tz D σ H') : tSeq (tDrop (tBM K "list" rAppend (tVar i) (tCons te tNil))) tz D σ H := ⟨_, hσ, .inl ⟨rfl, _, SqL.of hp⟩, h H w t0 _ fun G' H1 e1 t1 g1 w1 n1 => by
  have hp1 := e1 p _ ne hp (fun ps z => by cases z)
  exact ⟨p, zs.map V.str, .str z, rfl, rfl, hp1, by rw [List.length_map]; exact Nat.lt_of_le_of_lt hl (by decide), k G' H1 _ e1 (by rw [List.map_append]; rfl) hp1 t1 g1 w1 n1⟩⟩
end
theorem tab3 {a b c : Addr} {q r t : Str} (h1 : a ≠ b) (h2 : a ≠ c) (h3 : b ≠ c) : (∀ p ∈ [(a, q), (b, r), (c, t)], p.1 = a → p.2 = q) ∧ (∀ p ∈ [(a, q), (b, r), (c, t)], p.1 = b → p.2 = r) ∧ ∀ p ∈ [(a, q), (b, r), (c, t)], p.1 = c → p.2 = t := by
  refine ⟨fun p hp e => ?_, fun p hp e => ?_, fun p hp e => ?_⟩
  · simp only [List.mem_cons, List.not_mem_nil, or_false] at hp
    rcases hp with rfl | rfl | rfl
    · rfl
    · exact absurd e.symm h1
    · exact absurd e.symm h2
  · simp only [List.mem_cons, List.not_mem_nil, or_false] at hp
    rcases hp with rfl | rfl | rfl
    · exact absurd e h1
    · rfl
    · exact absurd e.symm h3
  · simp only [List.mem_cons, List.not_mem_nil, or_false] at hp
    rcases hp with rfl | rfl | rfl
    · exact absurd e h2
    · exact absurd e h3
    · rfl
end Lf
set_option maxHeartbeats 4000000
/-! views that grow while tables of code objects are written; a def whose code object is known, without a guard -/
namespace L2
open PySem PySem.Spec PyProof.Rows NdefX LamX Evl Lf
def nt (Tb : List (Addr × Str)) : List NTab := Tb.map fun p => (p.1, fun _ _ => p.2)
theorem nt_of {Tb : List (Addr × Str)} {H : Hp} (t : Tabs Tb H) : TabsN (nt Tb) H := fun p hp => by
  obtain ⟨q, hq, rfl⟩ := List.mem_map.mp hp
  exact TabN.of (t q hq)
theorem nt_to {Tb : List (Addr × Str)} {H : Hp} (t : TabsN (nt Tb) H) : Tabs Tb H := fun q hq => TabN.to (t _ (List.mem_map.mpr ⟨q, hq, rfl⟩))
theorem nt_mem {Tb : List (Addr × Str)} {p : Addr} {x : Str} (h : (p, x) ∈ Tb) : (p, fun _ _ => x) ∈ nt Tb := List.mem_map.mpr ⟨_, h, rfl⟩
theorem nt_uni {Tb : List (Addr × Str)} {P : Addr} {x : Str} (h : ∀ p ∈ Tb, p.1 = P → p.2 = x) : ∀ p ∈ nt Tb, p.1 = P → p.2 = fun _ _ => x := fun p hp e => by
  obtain ⟨q, hq, rfl⟩ := List.mem_map.mp hp
  funext _ _
  exact h q hq e
/-- the view grows, all but the tables stays -/
structure GrN (Tb : List (Addr × Str)) (G H G' H' : Hp) : Prop where
  h : ExtN H H'
  g : Ex G G'
  s : Ex G' H'
  n : ∀ a o, H a = some o → (∀ ps, o ≠ .tbl ps) → G a = none → G' a = none
  t : Tabs Tb H'
  d : ∀ a o, G' a = some o → dataO o = true
section
variable {Tb : List (Addr × Str)} {G H G1 H1 G2 H2 : Hp}
theorem tabs_ex (t : Tabs Tb H) (x : Ex H H1) : Tabs Tb H1 := t.ext x
theorem extn_ex {H H1 : Hp} (x : Ex H H1) : ExtN H H1 := ExtN.of x
theorem tbl_some {H H1 : Hp} (e : ExtN H H1) (z : ∀ b, H1 b = none → H b = none) : ∀ b, H b ≠ none → H1 b ≠ none := fun b h q => h (z b q)
theorem GrN.of (t : Tabs Tb H) (hG : ∀ a o, G a = some o → dataO o = true) (r : Gr G H G1 H1) : GrN Tb G H G1 H1 := ⟨extn_ex r.h, r.g, r.s, fun a o h _ => r.n a (by rw [h]; exact fun z => by cases z), tabs_ex t r.h, gr_data hG r⟩
theorem GrN.pre (e : ExtN H H1) (a : GrN Tb G H1 G2 H2) : GrN Tb G H G2 H2 := ⟨e.trans a.h, a.g, a.s, fun c o h nt z => a.n c o (e c o h nt) nt z, a.t, a.d⟩
theorem GrN.trans (a : GrN Tb G H G1 H1) (b : GrN Tb G1 H1 G2 H2) : GrN Tb G H G2 H2 := ⟨a.h.trans b.h, fun c o h => b.g _ _ (a.g _ _ h), b.s, fun c o h1 nt h2 => b.n c o (a.h c o h1 nt) nt (a.n c o h1 nt h2), b.t, b.d⟩
theorem ex_of_n (hG : ∀ a o, G a = some o → dataO o = true) (s : Ex G H) (e : ExtN H H1) : Ex G H1 := exn_view hG s e
end
/-! ### what evaluates while tables are written -/
def EvN (Tb : List (Addr × Str)) (te : TE) (σ : L2.St) (G : Hp) (P : Hp → V → Prop) : Prop := ∀ G1 H1, Ex G G1 → (∀ a o, G1 a = some o → dataO o = true) → Ex G1 H1 → Tabs Tb H1 → ∀ Q : VK, (∀ v G2 H2, GrN Tb G1 H1 G2 H2 → P G2 v → Q v H2) → te σ H1 Q
structure LcN (Tb : List (Addr × Str)) (G1 H1 : Hp) (D : Addr) (H' : Hp) (ds : List PyData) : Prop where
  w : ∃ G' ys, GrN Tb G1 H1 G' H' ∧ G' D = none ∧ H' D = some (.lst ys) ∧ DaAll G' ys ds
  fr : H1 D = none
section
variable {Tb : List (Addr × Str)} {G1 H1 H' : Hp} {D : Addr} {ds : List PyData} {d : PyData} {te tl : TE} {σ : L2.St} {G : Hp} {K : PySem.W.Frag}
theorem EvD.evn (h : EvD te σ G d) : EvN Tb te σ G fun G v => Da G v d := fun G1 H1 x hG s t Q q => h G1 H1 x s _ fun v G2 H2 r hd => q v G2 H2 (GrN.of t hG r) hd
theorem LcN.start (s : Ex G1 H1) (hG : ∀ a o, G1 a = some o → dataO o = true) (t : Tabs Tb H1) (hD : H1 D = none) : LcN Tb G1 H1 D (upd H1 D (.lst [])) [] := by
  refine ⟨⟨G1, [], GrN.of t hG (Gr.keep s (Ex.new hD)), ?_, upd_same, .nil⟩, hD⟩
  cases e : G1 D with
  | none => rfl
  | some o => rw [s _ _ e] at hD; cases hD
theorem upd_some {H : Hp} {a : Addr} {o : HO} (b : Addr) (h : H b ≠ none) : upd H a o b ≠ none := by
  by_cases e : b = a
  · rw [e, upd_same]
    intro z
    cases z
  · rw [upd_ne e]
    exact h
theorem LcN.put {N : Hp → Prop} (I : LcN Tb G1 H1 D H' ds) (hl : ds.length ≤ 50000) (he : EvN Tb te σ G1 fun G v => Da G v d) (k : ∀ H2, LcN Tb G1 H1 D H2 (ds ++ [d]) → N H2) :
    te σ H' fun y H4 => ∃ acc, H4 D = some (.lst acc) ∧ acc.length < sizeLine ∧ N (upd H4 D (.lst (acc ++ [y]))) := by
  obtain ⟨G', ys, r, h1, h2, h3⟩ := I.w
  refine he G' H' r.g r.d r.s r.t _ fun v G2 H2 r2 hd => ⟨ys, r2.h _ _ h2 (fun ps z => by cases z), ?_, k _ ⟨⟨G2, ys ++ [v], ?_, ?_, upd_same, (h3.up r2.g).app (.cons hd .nil)⟩, I.fr⟩⟩
  · rw [h3.len]
    exact Nat.lt_of_le_of_lt hl (by decide)
  · have nD : G2 D = none := r2.n D _ h2 (fun ps z => by cases z) h1
    have r3 := r.trans r2
    have e2 : H2 D = some (.lst ys) := r2.h _ _ h2 (fun ps z => by cases z)
    exact ⟨fun a o h z => by
      rw [upd_ne (fun e => by rw [e, I.fr] at h; cases h)]
      exact r3.h a o h z, r3.g, fun a o h => by rw [upd_ne (fun e => by rw [e, nD] at h; cases h)]; exact r3.s _ _ h, r3.n, tabs_up r3.t e2, r3.d⟩
  · exact r2.n D _ h2 (fun ps z => by cases z) h1
theorem LcN.done (I : LcN Tb G1 H1 D H' ds) : ∃ G2, GrN Tb G1 H1 G2 H' ∧ Da G2 (.ref D) (.list ds) := by
  obtain ⟨G', ys, r, h1, h2, h3⟩ := I.w
  have x : Ex G' (upd G' D (.lst ys)) := Ex.new h1
  refine ⟨upd G' D (.lst ys), ⟨r.h, fun a o h => x a o (r.g a o h), fun a o h => ?_, fun a o e1 nt e2 => ?_, r.t, fun a o h => ?_⟩, .lst upd_same (h3.up x)⟩
  · by_cases e : a = D
    · rw [e, upd_same] at h
      cases h
      rw [e]
      exact h2
    · rw [upd_ne e] at h
      exact r.s _ _ h
  · rw [upd_ne (fun e => by rw [e, I.fr] at e1; cases e1)]
    exact r.n a o e1 nt e2
  · by_cases e : a = D
    · rw [e, upd_same] at h
      cases h
      rfl
    · rw [upd_ne e] at h
      exact r.d a o h
/-- [e for x in t], e evaluates while tables are written -/
theorem evn_lcT {j : Nat} {vs : List Nat} (f : PyData → PyData) (h : EvD tl σ G (.tuple ds)) (hz : ds.length ≤ 50000) (hw : ∀ x, wipe ((wipe σ vs).set j (some x)) vs = wipe σ vs)
    (he : ∀ d ∈ ds, ∀ v G1, Ex G G1 → Da G1 v d → EvN Tb te ((wipe σ vs).set j (some v)) G1 fun G v => Da G v (f d)) :
    EvN Tb (tLc (iTup K tl) (gName j) tYes te vs) σ G fun G v => Da G v (.list (ds.map f)) := fun G0 H0 x0 hG0 s0 t0 Q q => h G0 H0 x0 s0 _ fun v0 G1 H1 r1 hd => by
  obtain ⟨a, xs, rfl, ea, hs⟩ := hd.tup_
  have rn := GrN.of t0 hG0 r1
  refine ⟨a, rfl, ⟨xs, SqT.of (r1.s _ _ ea)⟩, fun D hD => lc_tup (K := K) (a := a) (xs := xs) (fun i H' => LcN Tb G1 H1 D H' ((ds.take i).map f)) (LcN.start rn.s rn.d rn.t hD) (fun i H' _ I => ?_) ?_ ?_⟩
  · obtain ⟨G', ys, r, _⟩ := I.w
    exact SqT.of (r.s _ _ (r.g _ _ ea))
  · rintro i x H' hx I
    obtain ⟨d, hdi, hdv⟩ := hs.at hx
    have mem := List.mem_of_getElem? hdi
    refine ⟨hw x, ?_⟩
    unfold tYes
    dsimp only
    rw [if_pos rfl]
    refine I.put (N := fun H2 => LcN Tb G1 H1 D H2 ((ds.take (i + 1)).map f)) (by rw [List.length_map, List.length_take]; omega) (he d mem x G1 (fun a o e => r1.g _ _ (x0 _ _ e)) hdv) fun H2 I2 => ?_
    rw [take_da hdi, List.map_append]
    exact I2
  · rintro H' I
    rw [hs.len, List.take_length] at I
    obtain ⟨G2, r2, h2⟩ := I.done
    exact q (.ref D) G2 H' (rn.trans r2) h2
theorem q_asgN {P : Hp → V → Prop} {tz : TS} {D : Ends} {i : Nat} {H : Hp} (s : Ex G H) (hG : ∀ a o, G a = some o → dataO o = true) (t : Tabs Tb H) (h : EvN Tb te σ G P) (k : ∀ v G1 H1, GrN Tb G H G1 H1 → P G1 v → tz D (σ.set i (some v)) H1) : tSeq (tAsg te (gName i)) tz D σ H := h G H (Ex.refl _) hG s t _ k
theorem s_retN {P : Hp → V → Prop} {D : Ends} {H : Hp} (s : Ex G H) (hG : ∀ a o, G a = some o → dataO o = true) (t : Tabs Tb H) (h : EvN Tb te σ G P) (k : ∀ v G1 H1, GrN Tb G H G1 H1 → P G1 v → D.rt v H1) : tRet te D σ H := h G H (Ex.refl _) hG s t _ k
end
section
variable {P : Program} {w : World} {K : PySem.W.Frag} {mg : Str → Option Value} {base : Heap}
theorem dfc_ok {x : Str} {st : Stmt} {c : Addr} {N ps : List Str} {k : Nat} {sp : Sp} (D : LfT.DfC K mg x st c) (S : FnScope N ps (defScope st))
    (bd : ∀ (kV doc pm : Value) (an : Option Addr) (cdv ct : Value) (us : List Value), us.length = ps.length → bindArgs (PySem.W.fnOf x x (defArgs st) (defBody st) (defScope st) .none kV doc pm an cdv ct) ⟨us, []⟩ = pure (ps.zip us))
    (len : ∀ vs H Q E, sp vs H Q E → vs.length = ps.length)
    (hbody : ∀ (f : Addr) (A : Around) (outer : List Env) (s : Shared) (H : Hp) (vs : List V) (Q : VK) (E : XK), Room k (A.deeper (envOfC x (defScope st) s.heap.objs.size f (.ref c))) → sp vs H Q E →
      ∃ t, PSs (cxOf CX0 P w K mg base N x (defScope st) f (.ref c) A outer s H E).nox (defBody st) t ∧ t { nx := fun _ H' => Q .non H', rt := Q } (start N vs) H) : DefOk P w K mg base CX0 (k + 1) x ps sp := by
  obtain ⟨f, fd, F, hm, hc⟩ := D
  refine ⟨f, fd, hm, F.kp, F.binds bd, ?_⟩
  obtain ⟨oc, od, kV, doc, pm, an, cdv, ct, osl, rfl, lk, hcd⟩ := F.ex
  obtain rfl : cdv = .ref c := hc
  refine fn_of lk hcd S len fun A outer s H vs Q E hr hsp => ?_
  obtain ⟨t, h, q⟩ := hbody f A outer s H vs Q E hr hsp
  exact ⟨t, h.nox, q⟩
end
end L2
set_option maxHeartbeats 4000000
/-! x(lambda: e) where x is «def x(a): try: a() / except A as e: .. / return z»; repr of data where an error is handled -/
namespace L2
open PySem PySem.Spec PyProof.Rows Lf
section
variable {X : Cx}
theorem call_reprH (hgd : X.A.guards = some []) (hu : X.A.units + 200 < cLine) : CallR X (.builtin "repr") (rReprD X.K) := by
  intro pins s σ H xs us Q I r h
  obtain ⟨v, d, rfl, hd, h1, h2, h3, h4, q⟩ := h
  obtain ⟨u, rfl, ru⟩ := r.one
  cases hd with
  | non =>
    cases ru
    exact PySem.P.repr_of_none ⟨.str _, H, I.tok _, ⟨_, rfl⟩, q⟩
  | bl b =>
    cases ru
    exact PySem.P.repr_of_bool ⟨.str _, H, I.tok _, ⟨_, rfl⟩, q⟩
  | int i =>
    obtain ⟨t, rfl⟩ := ru
    exact PySem.P.repr_of_int (of_decide_eq_true h1) ⟨.str _, H, I.tok _, ⟨_, rfl⟩, q⟩
  | str x =>
    obtain ⟨t, rfl⟩ := ru
    exact PySem.P.repr_of_str ⟨.str _, H, I.tok _, ⟨_, rfl⟩, q⟩ h4
  | lst a b =>
    cases ru
    obtain ⟨as, rd⟩ := Dp.reads I _ _ _ (Dp.lst a b) rfl
    exact repr_of_reads' rd h1 (fun z => by rw [h2] at z; cases z) hgd (by omega) (fun b o e => e) (fun h' u tk hk => ⟨.str _, H, I.kept hk, ⟨u, rfl⟩, q⟩) h4
  | tup a b =>
    cases ru
    obtain ⟨as, rd⟩ := Dp.reads I _ _ _ (Dp.tup a b) rfl
    exact repr_of_reads' rd h1 (fun z => by rw [h2] at z; cases z) hgd (by omega) (fun b o e => e) (fun h' u tk hk => ⟨.str _, H, I.kept hk, ⟨u, rfl⟩, q⟩) h4
end
end L2
namespace LfT
open PySem PySem.Spec PyProof.Rows L2 LamX
/-- what such a def makes of the lambda's reading: the clauses l, n names, z behind -/
def TMixF (K : PySem.W.Frag) (n : Nat) (l : List (Value × Option Nat × (Addr → Value → Option Addr → TS))) (z : Str) : (XK → Hp → VK → Prop) → Hp → VK → Prop := fun tl H Q =>
  tl (fun cls d H' => ∀ σ' : L2.St, σ'.length = n → wMix K (fun _ _ _ _ => False) { nx := fun _ H' => Q (.str z) H', rt := Q } l cls d σ' H') H fun _ H1 => Q (.str z) H1
section
variable {X : Cx}
theorem mix_givesF {Ng : List Str} {x a q z : Str} {sg : Scope} {g : Addr} {cdg : Value} {h₀ : ExceptHandler} {hds : List ExceptHandler} {l : List (Value × Option Nat × (Addr → Value → Option Addr → TS))} {p1 p2 p3 p5 p6 p8 : Pos} {j : Nat} (hN : Ng.Nodup)
    (hh : ∀ (s : Shared) (H : Hp), HdM (cxOf C8.CX0 X.prog X.w X.K X.mg X.base Ng x sg g cdg X.A X.stack s H C8.E0).nox (h₀ :: hds) l) (h0 : ∀ f : Addr, (L2.start Ng [V.ref f])[0]? = some (some (V.ref f))) :
    GivesTo X Ng x sg g cdg [.Try [.Expr (.Call (.Name a p1) [] [] p2) p3] (h₀ :: hds) [] [] p8, .Return (some (.Constant (.str z) j p5)) p6] a q (TMixF X.K Ng.length l z) := by
  intro f c' s H Q tl act hc h
  refine ⟨_, pss_cons (ps_tryMix (X := (cxOf C8.CX0 X.prog X.w X.K X.mg X.base Ng x sg g cdg X.A X.stack s H C8.E0).nox) (Wout := fun _ _ _ _ => False)
      (tb := fun W D σ H => ∃ Ech : XK, (∀ cls d (σ' : L2.St) H', Ech cls d H' → σ'.length = Ng.length → W cls d σ' H') ∧ σ[0]? = some (some (.ref f)) ∧ H c' = some (CodeO c' q) ∧ tl Ech H fun _ H1 => D.nx σ H1)
      rfl rfl hN LamX.takes0 (fun W pn xe tk _ => ?_) (hh s H)) (pss_one (ps_ret pe_str)), ?_⟩
  · refine ⟨fun pins s' σ H' D I h' => ?_⟩
    obtain ⟨Ech, hW, h1, h2, h3⟩ := h'
    have hp := act _ pn xe Ech p1 p2 (takes_len tk) hW
    exact (pss_one (ps_expr (pos := p3) hp)).run pins s' σ H' D I ⟨h1, h2, h3⟩
  · exact ⟨_, fun cls d σ' H' h hl => h σ' hl, h0 f, hc, h⟩
theorem pe_toldF {x a z : Str} {st : Stmt} {Ng : List Str} {h₀ : ExceptHandler} {hds : List ExceptHandler} {l : List (Value × Option Nat × (Addr → Value → Option Addr → TS))} {p1 p2 p3 p5 p6 p8 p lpos pos : Pos} {j : Nat} {c P : Addr} {k : Nat} {params : Arguments} {body : Expr} {scope : Scope} {t : XK → TE} (D : Df X.K X.mg x st)
    (hst : defBody st = [.Try [.Expr (.Call (.Name a p1) [] [] p2) p3] (h₀ :: hds) [] [] p8, .Return (some (.Constant (.str z) j p5)) p6])
    (Sg : FnScope Ng [a] (defScope st)) (hNg : Ng[0]? = some a) (hva : Vis (defScope st) a)
    (bd : ∀ (kV doc pm : Value) (an : Option Addr) (cdv ct : Value) (us : List Value), us.length = [a].length → bindArgs (PySem.W.fnOf x x (defArgs st) (defBody st) (defScope st) .none kV doc pm an cdv ct) ⟨us, []⟩ = pure ([a].zip us))
    (hh : ∀ (g : Addr) (cdg : Value) (s : Shared) (H : Hp), HdM (cxOf C8.CX0 X.prog X.w X.K X.mg X.base Ng x (defScope st) g cdg X.A X.stack s H C8.E0).nox (h₀ :: hds) l) (h0 : ∀ f : Addr, (L2.start Ng [V.ref f])[0]? = some (some (V.ref f)))
    (TB : TabB X.base X.mg c P) (hcode : X.env.code = .ref c) {Tb : List (Addr × Str)} (hmT : (P, X.env.qual ++ "<lambda>") ∈ Tb) (hu : ∀ p ∈ Tb, p.1 = P → p.2 = X.env.qual ++ "<lambda>") (hg : Gl X x) (hr : Room (k + 2) X.A) (L : LamS X.env.scope scope) (hdef : defaultsOf params X.env = ([], []))
    (hbind : ∀ (q : Str) (cl : List (Str × Addr)) (pm cv ctv : Value), bindArgs (PySem.W.kla_fn "<lambda>" q params body scope cl pm cv ctv) ⟨[], []⟩ = pure [])
    (hbody : ∀ (A : Around) (outer : List Env) (s : Shared) (H : Hp) (E : XK) (f c' : Addr), Room k (A.deeper (lamEnv X scope s.heap.objs.size f c')) → PE (lamCx X A outer s H E scope f c') body (t E))
    (hdb : (x == ("__debug__" : Str)) = false := by decide) (hd : (a == ("__debug__" : Str)) = false := by decide) (hcd : (a == ("__classdict__" : Str)) = false := by decide) :
    PE X (.Call (.Name x p) [.Lambda params body scope lpos] [] pos) (tLam Tb (TMixF X.K Ng.length l z) t) := by
  obtain ⟨g, fd, F, hm⟩ := D
  have hb := F.binds bd
  obtain ⟨oc, od, kV, doc, pm, an, cdv, ct, osl, rfl, lk, hcg⟩ := F.ex
  refine pe_lamcall hg hm F.kp lk hcg hb Sg hNg hva ?_ TB hcode hmT hu hr L hdef hbind hbody hdb hd hcd
  rw [hst]
  exact mix_givesF Sg.nd (hh g cdv) h0
end
end LfT
set_option maxHeartbeats 4000000
/-! the running state of a def that draws from a loom and writes tables: what is kept; tests that write tables -/
namespace L2
open PySem PySem.Spec PyProof.Rows NdefX LamX Evl Lf
structure SN (Tb : List (Addr × Str)) (Lm : List V → Prop) (L : Addr) (G0 H0 G H : Hp) : Prop where
  k : KeepN L H0 H
  g : Ex G0 G
  n : ∀ a o, H0 a = some o → (∀ ps, o ≠ .tbl ps) → G0 a = none → G a = none
  w : At Lm L G H
  t : Tabs Tb H
  d : ∀ a o, G a = some o → dataO o = true
section
variable {Tb : List (Addr × Str)} {Lm : List V → Prop} {L : Addr} {G0 H0 G H G1 H1 : Hp}
theorem nt_lst {xs : List V} : ∀ ps, HO.lst xs ≠ .tbl ps := fun ps z => by cases z
theorem SN.start (w : At Lm L G H) (t : Tabs Tb H) (d : ∀ a o, G a = some o → dataO o = true) : SN Tb Lm L G H G H := ⟨fun _ _ _ h _ => h, Ex.refl _, fun _ _ _ _ h => h, w, t, d⟩
theorem SN.ev (S : SN Tb Lm L G0 H0 G H) (r : GrN Tb G H G1 H1) : SN Tb Lm L G0 H0 G1 H1 := by
  obtain ⟨xs, hL, hm⟩ := S.w.l
  refine ⟨fun a o ne h nt => r.h a o (S.k a o ne h nt) nt, fun a o h => r.g _ _ (S.g _ _ h), fun a o h nt z => ?_, ⟨r.s, r.n L _ hL nt_lst S.w.f, xs, r.h L _ hL nt_lst, hm⟩, r.t, r.d⟩
  by_cases c : a = L
  · rw [c]
    exact r.n L _ hL nt_lst S.w.f
  · exact r.n a o (S.k a o c h nt) nt (S.n a o h nt z)
theorem SN.roll (S : SN Tb Lm L G0 H0 G H) (r : GrB Lm L G H G1 H1) : SN Tb Lm L G0 H0 G1 H1 := by
  obtain ⟨xs, hL, hm⟩ := S.w.l
  refine ⟨fun a o ne h nt => r.h a o ne (S.k a o ne h nt), fun a o h => r.g _ _ (S.g _ _ h), fun a o h nt z => ?_, r.w, tabs_exB S.t r.h hL, grb_data S.d r⟩
  by_cases c : a = L
  · rw [c]
    exact r.w.f
  · exact r.n a (by rw [S.k a o c h nt]; exact fun z => by cases z) (S.n a o h nt z)
theorem SN.s (S : SN Tb Lm L G0 H0 G H) : Ex G H := S.w.s
theorem SN.keep (S : SN Tb Lm L G0 H0 G H) (x : Ex H H1) : SN Tb Lm L G0 H0 G H1 := S.ev (GrN.of S.t S.d (Gr.keep S.s x))
end
/-- a test that writes tables -/
def EvTN (Tb : List (Addr × Str)) (t : TT) (σ : L2.St) (G : Hp) (b : Bool) : Prop := ∀ G1 H1, Ex G G1 → (∀ a o, G1 a = some o → dataO o = true) → Ex G1 H1 → Tabs Tb H1 → ∀ Q : Bool → Hp → Prop, (∀ G2 H2, GrN Tb G1 H1 G2 H2 → Q b H2) → t σ H1 Q
section
variable {Tb : List (Addr × Str)} {Lm : List V → Prop} {L : Addr} {G0 H0 G H : Hp} {K : PySem.W.Frag} {σ : L2.St} {ta tb te : TE} {t u : TT} {tu tw tz : TS} {D : Ends} {i : Nat} {d e : PyData} {P : Hp → V → Prop} {Pd : PyData → Prop} {b c : Bool}
theorem EvT.evtn (h : EvT t σ G b) : EvTN Tb t σ G b := fun G1 H1 x hG s t0 Q q => h H1 (fun a o z => s _ _ (x _ _ z)) _ fun H2 x2 => q G1 H2 (GrN.of t0 hG (Gr.keep s x2))
theorem EvTN.is (h : EvTN Tb t σ G b) (e : b = c) : EvTN Tb t σ G c := e ▸ h
theorem EvN.mono {G' : Hp} (x : Ex G G') (h : EvN Tb te σ G P) : EvN Tb te σ G' P := fun G1 H1 a hG s t0 Q q => h G1 H1 (fun b o z => a _ _ (x _ _ z)) hG s t0 Q q
theorem EvN.isD (h : EvN Tb te σ G fun G v => Da G v d) (e' : d = e) : EvN Tb te σ G fun G v => Da G v e := e' ▸ h
theorem etn_or (h1 : EvTN Tb t σ G b) (h2 : b = false → EvTN Tb u σ G c) : EvTN Tb (tOr t u) σ G (b || c) := fun G1 H1 x hG s t0 Q q => h1 G1 H1 x hG s t0 _ fun G2 H2 r => by
  cases b with
  | true =>
    show Q true H2
    exact q G2 H2 r
  | false =>
    show u σ H2 Q
    exact h2 rfl G2 H2 (fun a o z => r.g _ _ (x _ _ z)) r.d r.s r.t Q fun G3 H3 r3 => q G3 H3 (r.trans r3)
/-- a != b, both of data -/
theorem etn_ne (ha : EvN Tb ta σ G fun G v => Da G v d) (hb : EvN Tb tb σ G fun G v => Da G v e) (f : flatD d = true) (f2 : flatD e = true) (s1 : SeqAt.shaped d = true) (s2 : SeqAt.shaped e = true) : EvTN Tb (tTest (tOp (rNeD K) ta tb)) σ G (!PyData.eqv d e) := fun G1 H1 x hG s t0 Q q =>
  ha G1 H1 x hG s t0 _ fun v G2 H2 r hd => hb G2 H2 (fun a o z => r.g _ _ (x _ _ z)) r.d r.s r.t _ fun w G3 H3 r3 he =>
    ⟨d, e, Da.dp d v ((hd.up r3.g).up r3.s) f, Da.dp e w (he.up r3.s) f2, s1, s2, ⟨_, rfl, q G3 H3 (r.trans r3)⟩⟩
theorem evn_eq (ha : EvN Tb ta σ G fun G v => Da G v d) (hb : EvN Tb tb σ G fun G v => Da G v e) (f : flatD d = true) (f2 : flatD e = true) (s1 : SeqAt.shaped d = true) (s2 : SeqAt.shaped e = true) : EvN Tb (tOp (rEqD K) ta tb) σ G fun _ v => v = .bl (PyData.eqv d e) := fun G1 H1 x hG s t0 Q q =>
  ha G1 H1 x hG s t0 _ fun v G2 H2 r hd => hb G2 H2 (fun a o z => r.g _ _ (x _ _ z)) r.d r.s r.t _ fun w G3 H3 r3 he =>
    ⟨d, e, Da.dp d v ((hd.up r3.g).up r3.s) f, Da.dp e w (he.up r3.s) f2, s1, s2, q _ G3 H3 (r.trans r3) rfl⟩
theorem q_asgQ (S : SN Tb Lm L G0 H0 G H) (h : EvN Tb te σ G P) (k : ∀ v G1 H1, SN Tb Lm L G0 H0 G1 H1 → Ex G G1 → P G1 v → tz D (σ.set i (some v)) H1) : tSeq (tAsg te (gName i)) tz D σ H := h G H (Ex.refl _) S.d S.s S.t _ fun v G1 H1 r p => k v G1 H1 (S.ev r) r.g p
theorem q_rollQ (S : SN Tb Lm L G0 H0 G H) (h : Dr Lm L te σ G Pd) (k : ∀ v d G1 H1, SN Tb Lm L G0 H0 G1 H1 → Ex G G1 → Pd d → Da G1 v d → tz D (σ.set i (some v)) H1) : tSeq (tAsg te (gName i)) tz D σ H := h.go S.w fun v d G1 H1 r p hd => k v d G1 H1 (S.roll r) r.g p hd
theorem s_retQ (S : SN Tb Lm L G0 H0 G H) (h : EvN Tb te σ G P) (k : ∀ v G1 H1, SN Tb Lm L G0 H0 G1 H1 → Ex G G1 → P G1 v → D.rt v H1) : tRet te D σ H := h G H (Ex.refl _) S.d S.s S.t _ fun v G1 H1 r p => k v G1 H1 (S.ev r) r.g p
/-- a test that comes out false -/
theorem q_ifQ0 (S : SN Tb Lm L G0 H0 G H) (h : EvTN Tb t σ G false) (k : ∀ G1 H1, SN Tb Lm L G0 H0 G1 H1 → Ex G G1 → tw { D with nx := tz D } σ H1) : tSeq (tIfS t tu tw) tz D σ H := h G H (Ex.refl _) S.d S.s S.t _ fun G1 H1 r => by
  show tw { D with nx := tz D } σ H1
  exact k G1 H1 (S.ev r) r.g
theorem q_ifQ1 (S : SN Tb Lm L G0 H0 G H) (h : EvTN Tb t σ G true) (k : ∀ G1 H1, SN Tb Lm L G0 H0 G1 H1 → Ex G G1 → tu { D with nx := tz D } σ H1) : tSeq (tIfS t tu tw) tz D σ H := h G H (Ex.refl _) S.d S.s S.t _ fun G1 H1 r => by
  show tu { D with nx := tz D } σ H1
  exact k G1 H1 (S.ev r) r.g
end
end L2
set_option maxHeartbeats 4000000
/-! a list of told things that is still written, beside a view, while tables are written; what was there at the base stays -/
namespace L2
open PySem PySem.Spec PyProof.Rows NdefX LamX Evl Lf
structure LB (Tb : List (Addr × Str)) (p : Addr) (G0 H0 G H : Hp) (ds : List PyData) : Prop where
  h : ExtN H0 H
  g : Ex G0 G
  n : ∀ a o, H0 a = some o → (∀ ps, o ≠ .tbl ps) → G0 a = none → G a = none
  np : NoT H0 p
  s : Ex G H
  d : ∀ a o, G a = some o → dataO o = true
  t : Tabs Tb H
  l : ∃ vs, H p = some (.lst vs) ∧ DaAll G vs ds
  f : G p = none
section
variable {Tb : List (Addr × Str)} {p : Addr} {G0 H0 G H : Hp} {ds : List PyData} {K : PySem.W.Frag} {σ : L2.St} {ta tb te : TE} {tz : TS} {D : Ends} {i j : Nat} {d : PyData} {P : Hp → V → Prop}
theorem LB.up {G1 H1 : Hp} (S : LB Tb p G0 H0 G H ds) (r : GrN Tb G H G1 H1) : LB Tb p G0 H0 G1 H1 ds := by
  obtain ⟨vs, e, h⟩ := S.l
  exact ⟨S.h.trans r.h, fun a o z => r.g _ _ (S.g _ _ z), fun a o z nt z2 => r.n a o (S.h a o z nt) nt (S.n a o z nt z2), S.np, r.s, r.d, r.t, ⟨vs, r.h _ _ e (fun ps z => by cases z), h.up r.g⟩, r.n p _ e (fun ps z => by cases z) S.f⟩
/-- p.append(e) -/
theorem q_appB (S : LB Tb p G0 H0 G H ds) (hσ : σ[i]? = some (some (.ref p))) (hl : ds.length ≤ 50000) (h : EvN Tb te σ G fun G v => Da G v d) (k : ∀ G1 H1, LB Tb p G0 H0 G1 H1 (ds ++ [d]) → Ex G G1 → tz D σ H1) : tSeq (tDrop (tBM K "list" rAppend (tVar i) (tCons te tNil))) tz D σ H := by
  obtain ⟨vs, e, hd⟩ := S.l
  refine ⟨_, hσ, .inl ⟨rfl, _, SqL.of e⟩, h G H (Ex.refl _) S.d S.s S.t _ fun v G1 H1 r hv => ?_⟩
  have S1 := S.up r
  obtain ⟨vs1, e1, hd1⟩ := S1.l
  have f1 := S1.f
  refine ⟨p, vs1, v, rfl, rfl, e1, by rw [hd1.len]; exact Nat.lt_of_le_of_lt hl (by decide), k G1 _ ⟨fun a o z nt => ?_, S1.g, S1.n, S1.np, fun a o z => ?_, r.d, tabs_up r.t e1, ⟨_, upd_same, hd1.app (.cons hv .nil)⟩, f1⟩ r.g⟩
  · rw [upd_ne (fun e => by
      rw [e] at z
      obtain ⟨ps, q⟩ := S.np _ z
      exact nt ps q)]
    exact S1.h _ _ z nt
  · rw [upd_ne (fun e => by rw [e, f1] at z; cases z)]
    exact r.s _ _ z
/-- p = [e] -/
theorem q_lstB (s : Ex G H) (hG : ∀ a o, G a = some o → dataO o = true) (t0 : Tabs Tb H) (h : EvN Tb te σ G fun G v => Da G v d) (k : ∀ p G1 H1, LB Tb p G H G1 H1 [d] → Ex G G1 → tz D (σ.set i (some (.ref p))) H1) : tSeq (tAsg (tLst (tCons te tNil)) (gName i)) tz D σ H := h G H (Ex.refl _) hG s t0 _ fun v G1 H1 r hv =>
  ⟨show 1 ≤ sizeLine by decide, fun p hp => k p G1 _ ⟨r.h.trans (ExtN.of (Ex.new hp)), r.g, r.n, (fun o z => Classical.byContradiction fun no => (by
      have q := r.h p o z fun ps e => no ⟨ps, e⟩
      rw [hp] at q
      cases q)), r.s.trans (Ex.new hp), r.d, tabs_ex r.t (Ex.new hp), ⟨_, upd_same, .cons hv .nil⟩, fresh_back r.s hp⟩ r.g⟩
/-- the list goes into the view -/
theorem LB.put (S : LB Tb p G0 H0 G H ds) : ∃ G1, Ex G G1 ∧ GrN Tb G0 H0 G1 H ∧ Da G1 (.ref p) (.list ds) := by
  obtain ⟨vs, e, hd⟩ := S.l
  have x : Ex G (upd G p (.lst vs)) := Ex.new S.f
  refine ⟨upd G p (.lst vs), x, ⟨S.h, fun a o z => x _ _ (S.g _ _ z), fun a o z => ?_, fun a o z nt z2 => ?_, S.t, fun a o z => ?_⟩, .lst upd_same (hd.up x)⟩
  · by_cases c : a = p
    · rw [c, upd_same] at z
      cases z
      rw [c]
      exact e
    · rw [upd_ne c] at z
      exact S.s _ _ z
  · rw [upd_ne (fun e => by
      rw [e] at z
      obtain ⟨ps, q⟩ := S.np _ z
      exact nt ps q)]
    exact S.n a o z nt z2
  · by_cases c : a = p
    · rw [c, upd_same] at z
      cases z
      rfl
    · rw [upd_ne c] at z
      exact S.d _ _ z
end
end L2
set_option maxHeartbeats 4000000
namespace My
open PySem L2 Lf Evl Tr NdefX LamX LfT
abbrev s_law_word : Stmt := top 40
theorem sc_law_word : FnScope ["_law_call", "e"] ["_law_call"] (defScope s_law_word) := ⟨rfl, rfl, rfl, by decide +kernel, rfl, by decide +kernel, by decide +kernel⟩
abbrev s_law_slots_right : Stmt := top 42
theorem sc_law_slots_right : FnScope ["_law_loom_here", "_law_great", "_law_tick", "_law_interval", "_law_other", "_law_rest", "_law_slot", "_law_some", "_law_by"] ["_law_loom_here"] (defScope s_law_slots_right) := ⟨rfl, rfl, rfl, by decide +kernel, rfl, by decide +kernel, by decide +kernel⟩
abbrev s_law_refused_right : Stmt := top 43
theorem sc_law_refused_right : FnScope ["_law_loom_here", "_law_wide", "_law_odd", "_law_told", "_law_words"] ["_law_loom_here"] (defScope s_law_refused_right) := ⟨rfl, rfl, rfl, by decide +kernel, rfl, by decide +kernel, by decide +kernel⟩
def lWord (K : PySem.W.Frag) (CN : Addr) : List (Value × Option Nat × (Addr → Value → Option Addr → TS)) :=
  [(.ref CN, some 1, fun a cls d => tRet (tOp rCat2 (tC (.str "number ")) (tCB (rReprD K) (tCons (tXf a cls d CN "value" (tVar 1)) tNil))))]
def wdHs : List ExceptHandler := match defBody s_law_word with
  | .Try _ hs _ _ _ :: _ => hs
  | _ => []
def numT (d : PyData) : Str := ("number " : Str) ++ d.shown
/-- a call that ends in InvalidNumber(d) -/
def MkE (Tb : List (Addr × Str)) (CN : Addr) (t : XK → TE) (σ : L2.St) (G : Hp) (d : PyData) : Prop := ∀ G1 H1, Ex G G1 → (∀ a o, G1 a = some o → dataO o = true) → Ex G1 H1 → Tabs Tb H1 → ∀ (E : XK) (Q : VK), (∀ x v G' H', GrN Tb G1 H1 G' H' → Da G' v d → H' x = some (.xd [("value", v)]) → E (.ref CN) (some x) H') → t E σ H1 Q
section
variable {P : Program} {w : World} {K : PySem.W.Frag} {mg : Str → Option Value} {base : Heap} {CN fI : Addr}
variable {σ : L2.St} {G H : Hp} {te ta tb tc : TE} {t : XK → TE} {d d1 d2 d3 : PyData} {E : XK} {Tb : List (Addr × Str)}
theorem hd_word (T : Txt P K mg CN fI) (xf : XfC K CN) {A : Around} {stack : List Env} (hg : A.guards = some []) (hu : A.units + 203 < cLine) (g : Addr) (cdg : Value) (s : Shared) (H : Hp) : HdM (cxOf C8.CX0 P w K mg base ["_law_call", "e"] "_law_word" (defScope s_law_word) g cdg A stack s H C8.E0).nox wdHs (lWord K CN) :=
  HdM.cons (i := 1) rfl rfl ⟨rfl, by decide, .inl T.num.gC⟩ (fun a oe cls d pn hz hf => pss_one (ps_ret (pe_op op_add_str pe_str (pe_callB (call_reprH hg (by show A.units + 3 + 200 < cLine; omega)) (by rfl) T.n_repr (by decide +kernel) (pa_cons (pe_xf xf T.num.noF hz hf (pv 1)) pa_nil))))) .nil
theorem evn_word (nn : PySem.W.exmOne K (.ref CN) (.ref CN) = some true) (h : MkE Tb CN t σ G d) (n : Nice d) : EvN Tb (tLam Tb (TMixF K 2 (lWord K CN) "fine") t) σ G fun G v => Da G v (.str (numT d)) := fun G1 H1 x hG s t0 Q q =>
  ⟨t0, fun H2 e2 t2 => by
    have s2 := ex_of_n hG s e2
    refine h G1 H2 x hG s2 t2 _ _ fun xa v G3 H3 r hv hx σ' hl => ⟨true, nn, fun _ a ha => ?_, (fun z => by cases z)⟩
    have e : (numT d).length = ("number " : Str).length + d.shown.length := strLen_append _ _
    have e7 : ("number " : Str).length = 7 := rfl
    have hn := n.l
    have big : (2000 : Nat) ≤ sizeLine := by decide
    match σ', hl with
    | [u0, u1], _ =>
      exact ⟨_, rfl, rfl, rfl, xa, _, v, rfl, hx, rfl, v, d, rfl, Da.dp d v (hv.up r.s) n.f, n.s, n.n, n.dp, by omega, _, _, rfl, rfl, by omega, q _ G3 H3 (GrN.pre e2 r) (.str _ (show (numT d).length ≤ 1000 by omega))⟩⟩
theorem er_of {G1 H1 : Hp} (hG : ∀ a o, G1 a = some o → dataO o = true) (t0 : Tabs Tb H1) (k : ∀ x v G' H', GrN Tb G1 H1 G' H' → Da G' v d → H' x = some (.xd [("value", v)]) → E (.ref CN) (some x) H') : Er CN G1 H1 d E := fun x v G' H' r hv hx => k x v G' H' (GrN.of t0 hG r) hv hx
theorem mk_so1 (h1 : EvD ta σ G d1) (h2 : EvD tb σ G d2) (i1 : isIn d1 = false) : MkE Tb CN (fun E => tCallD (spSo CN) E (tCons ta (tCons tb tNil))) σ G d1 := fun G1 H1 x hG s t0 E Q k => h1 G1 H1 x s _ fun v1 G2 H2 r2 hd1 => h2 G2 H2 (x.trans r2.g) r2.s _ fun v2 G3 H3 r3 hd2 =>
  ⟨G3, v1, v2, _, _, rfl, r3.s, hd1.up r3.g, hd2, fun no => (by rw [i1] at no; cases no), fun _ => (er_of hG t0 k).up (r2.trans r3), fun no => (by rw [i1] at no; cases no)⟩
theorem mk_so2 (h1 : EvD ta σ G d1) (h2 : EvD tb σ G d2) (i1 : isIn d1 = true) (i2 : within 1 32 d2 = false) : MkE Tb CN (fun E => tCallD (spSo CN) E (tCons ta (tCons tb tNil))) σ G d2 := fun G1 H1 x hG s t0 E Q k => h1 G1 H1 x s _ fun v1 G2 H2 r2 hd1 => h2 G2 H2 (x.trans r2.g) r2.s _ fun v2 G3 H3 r3 hd2 =>
  ⟨G3, v1, v2, _, _, rfl, r3.s, hd1.up r3.g, hd2, fun _ no => (by rw [i2] at no; cases no), fun no => (by rw [i1] at no; cases no), fun _ _ => (er_of hG t0 k).up (r2.trans r3)⟩
theorem mk_ro {e : PyData} (h1 : EvD ta σ G d1) (h2 : EvD tb σ G d2) (h3 : EvD tc σ G d3) (hc : (isIn d1 = false ∧ e = d1) ∨ (isIn d1 = true ∧ isIn d2 = false ∧ e = d2) ∨ (isIn d1 = true ∧ isIn d2 = true ∧ within 1 32 d3 = false ∧ e = d3)) : MkE Tb CN (fun E => tCallD (spRo CN) E (tCons ta (tCons tb (tCons tc tNil)))) σ G e := fun G1 H1 x hG s t0 E Q k => h1 G1 H1 x s _ fun v1 G2 H2 r2 hd1 => h2 G2 H2 (x.trans r2.g) r2.s _ fun v2 G3 H3 r3 hd2 => h3 G3 H3 (x.trans (r2.g.trans r3.g)) r3.s _ fun v3 G4 H4 r4 hd3 => by
  have er := (er_of hG t0 k).up ((r2.trans r3).trans r4)
  refine ⟨G4, v1, v2, v3, _, _, _, rfl, r4.s, (hd1.up r3.g).up r4.g, hd2.up r4.g, hd3, fun a1 a2 a3 => ?_, fun a1 => ?_, fun a1 a2 => ?_, fun a1 a2 a3 => ?_⟩
  · rcases hc with ⟨c, _⟩ | ⟨_, c, _⟩ | ⟨_, _, c, _⟩
    · rw [a1] at c; cases c
    · rw [a2] at c; cases c
    · rw [a3] at c; cases c
  · rcases hc with ⟨_, rfl⟩ | ⟨c, _⟩ | ⟨c, _⟩
    · exact er
    · rw [a1] at c; cases c
    · rw [a1] at c; cases c
  · rcases hc with ⟨c, _⟩ | ⟨_, _, rfl⟩ | ⟨_, c, _⟩
    · rw [a1] at c; cases c
    · exact er
    · rw [a2] at c; cases c
  · rcases hc with ⟨c, _⟩ | ⟨_, c, _⟩ | ⟨_, _, _, rfl⟩
    · rw [a1] at c; cases c
    · rw [a2] at c; cases c
    · exact er
/-! ### slots -/
theorem filter_one {p : Nat → Bool} {n j0 : Nat} (h0 : j0 < n) (hp : ∀ j, j < n → (p j = true ↔ j = j0)) : (List.range n).filter p = [j0] := by
  have e : (List.range n).filter p = (List.range n).filter fun j => decide (j = j0) := List.filter_congr fun j hj => by
    have := hp j (List.mem_range.mp hj)
    rw [Bool.eq_iff_iff, this, decide_eq_true_iff]
  rw [e]
  induction n with
  | zero => omega
  | succ n ih =>
    rw [List.range_succ, List.filter_append]
    by_cases c : j0 = n
    · subst c
      rw [List.filter_cons_of_pos (by simp), List.filter_nil, List.filter_eq_nil_iff.mpr (fun j hj => by have := List.mem_range.mp hj; simp; omega)]
      rfl
    · rw [List.filter_cons_of_neg (by simp; omega), List.filter_nil, List.append_nil]
      exact ih (by omega) (fun j hj => by have := hp j (by omega); exact this) (List.filter_congr fun j hj => by
        have := hp j (by have := List.mem_range.mp hj; omega)
        rw [Bool.eq_iff_iff, this, decide_eq_true_iff])
theorem isIn_of {i : Int} (h1 : -(10 ^ 30 : Int) < i) (h2 : i < 10 ^ 30) : isIn (.int i) = true := by
  have l : lim = (10 ^ 30 : Int) := by decide +kernel
  show (decide (-lim < i) && decide (i < lim)) = true
  rw [l]
  simp only [Bool.and_eq_true, decide_eq_true_eq]
  exact ⟨h1, h2⟩
theorem within_of {i : Int} (h1 : 1 ≤ i) (h2 : i ≤ 32) : within 1 32 (.int i) = true := by
  show (isIn (.int i) && (decide (1 ≤ i) && decide (i ≤ 32))) = true
  rw [isIn_of (by omega) (by omega), decide_eq_true h1, decide_eq_true h2]
  rfl
theorem the_one {t o n : Int} (hn : 0 < n) : ((List.range n.toNat).filter fun j => decide ((t + (j : Nat)) % n = o % n)).map (fun j => PyData.int (t + (j : Nat))) = [.int (t + (o - t) % n)] := by
  have m0 := Int.emod_nonneg (o - t) (by omega : n ≠ 0)
  have m1 := Int.emod_lt_of_pos (o - t) hn
  rw [filter_one (j0 := ((o - t) % n).toNat) (by omega) fun j hj => ?_]
  · rw [List.map_cons, List.map_nil, Int.toNat_of_nonneg m0]
  · rw [decide_eq_true_iff]
    constructor
    · intro h
      have h1 : ((j : Nat) : Int) % n = (o - t) % n := by
        have : (j : Int) = (t + j) - t := by omega
        rw [this, Int.sub_emod, h, ← Int.sub_emod]
      rw [Int.emod_eq_of_lt (by omega) (by omega)] at h1
      omega
    · intro h
      have h1 : (j : Int) = (o - t) % n := by omega
      rw [h1, Int.add_emod, Int.emod_emod, ← Int.add_emod]
      congr 1
      omega
end
end My
set_option maxHeartbeats 4000000
namespace My
open PySem L2 Lf Evl Tr NdefX LamX LfT
theorem ev_absI {σ : L2.St} {G : Hp} {te : TE} {i : Int} (h : Ev te σ G (.int i)) : Ev (tCB (fun xs H Q => ∃ i, xs = [V.int i] ∧ Q (V.int (if i < 0 then -i else i)) H) (tCons te tNil)) σ G (.int (if i < 0 then -i else i)) := fun H1 e Q q => h H1 e _ fun H2 x2 => ⟨i, rfl, q H2 x2⟩
theorem p9 : ((10 : Int) ^ (9 : Int).toNat) = 10 ^ 9 ∧ ((10 : Int) ^ (27 : Int).toNat) = 10 ^ 27 ∧ ((10 : Int) ^ (28 : Int).toNat) = 10 ^ 28 ∧ ((10 : Int) ^ (30 : Int).toNat) = 10 ^ 30 ∧ ((10 : Int) ^ (39 : Int).toNat) = 10 ^ 39 := by decide +kernel
section
variable {P : Program} {w : World} {K : PySem.W.Frag} {mg : Str → Option Value} {base : Heap} {CN fI : Addr}
theorem ok_law_slots_right (T : Txt P K mg CN fI) (D : Df K mg "_law_slots_right" s_law_slots_right) (D_law_turn : DefOk P w K mg base CX0 1 "_law_turn" ["_law_loom_here", "_law_total"] (spDr Lm preT postT)) (D_law_pick : DefOk P w K mg base CX0 2 "_law_pick" ["_law_loom_here", "_law_items"] (spDr Lm preP postP)) (D_slot_of : DefOk P w K mg base (L2.CX P w) 6 "slot_of" ["tick", "interval"] (spSo CN)) (D_rounded_up : DefOk P w K mg base (L2.CX P w) 6 "rounded_up" ["number", "slot", "interval"] (spRo CN)) : DefOk P w K mg base CX0 7 "_law_slots_right" ["_law_loom_here"] (spDr Lm preN postTr) := by
  refine D.ok sc_law_slots_right (fun _ _ _ _ _ _ us hl => match us, hl with | [_], _ => rfl) (fun vs H Q E h => spDr_len (n := 0) (fun ds e => by rw [show ds = [] from e]; rfl) h) (fun f cdv A outer s H vs Q E hr h => ?_)
  obtain ⟨L, G, us, ds, rfl, w, hds, rfl, q⟩ := h
  cases hds
  refine ⟨_, (pss_cons (ps_set (i := 1) sc_law_slots_right.nd rfl (Or.inl rfl) (pe_callD D_law_pick (hr.mono (by decide)) pass0 (pa_cons (pv 0) (pa_cons (pe_lst (pa_cons pe_int (pa_cons pe_int (pa_cons (pe_op op_pow pe_int pe_int) (pa_cons (pe_op op_pow pe_int pe_int) pa_nil))))) pa_nil))))
 (pss_cons (ps_asg (pe_tup (pa_cons (pe_op op_mul (pe_op op_sub (pe_callD D_law_turn (hr.mono (by decide)) pass0 (pa_cons (pv 0) (pa_cons pe_int pa_nil))) pe_int) (pv 1)) (pa_cons (pe_op op_add pe_int (pe_callD D_law_turn (hr.mono (by decide)) pass0 (pa_cons (pv 0) (pa_cons pe_int pa_nil)))) pa_nil))) (pg_tup (by rfl) (pgs_cons (pg_name (i := 2) sc_law_slots_right.nd rfl (Or.inr rfl)) (pgs_cons (pg_name (i := 3) sc_law_slots_right.nd rfl (Or.inr rfl)) pgs_nil))))
 (pss_cons (ps_set (i := 4) sc_law_slots_right.nd rfl (Or.inr rfl) (pe_op op_mul (pe_op op_sub (pe_callD D_law_turn (hr.mono (by decide)) pass0 (pa_cons (pv 0) (pa_cons pe_int pa_nil))) pe_int) (pe_callD D_law_pick (hr.mono (by decide)) pass0 (pa_cons (pv 0) (pa_cons (pe_lst (pa_cons pe_int (pa_cons pe_int (pa_cons (pe_op op_pow pe_int pe_int) pa_nil)))) pa_nil)))))
 (pss_cons (ps_set (i := 5) sc_law_slots_right.nd rfl (Or.inl rfl) (pe_op op_mod (pe_callB call_abs (by rfl) T.n_abs (by decide +kernel) (pa_cons (pv 2) pa_nil)) (pv 3)))
 (pss_cons (ps_set (i := 6) sc_law_slots_right.nd rfl (Or.inl rfl) (pe_ifExp (PW.pt (pw_or (pt_cmpR op_ge (pv 2) pe_int (nomark _)) (pw_or1 (pt_cmpR op_eq (pv 5) pe_int (nomark _))))) (pv 5) (pe_op op_sub (pv 3) (pv 5))))
 (pss_cons (ps_if (pt_cmpR op_ne (pe_callD D_slot_of (hr.mono (by decide)) passL (pa_cons (pv 2) (pa_cons (pv 3) pa_nil))) (pv 6) (nomark _))
 (pss_one (ps_ret pe_bl))
 pss_nil)
 (pss_cons (ps_setLc (i := 7) (own := [("_law_by", 8)]) (by rfl) sc_law_slots_right.nd rfl rfl (sw_true rfl rfl rfl (by decide +kernel)) (pi_range1 (by rfl) T.n_range (pa_cons (pv 3) pa_nil)) (blkOk_by (own := [("_law_by", 8)]) (N := ["_law_loom_here", "_law_great", "_law_tick", "_law_interval", "_law_other", "_law_rest", "_law_slot", "_law_some", "_law_by"]) (sc := defScope s_law_slots_right) (by decide +kernel)) (fun _ _ _ _ _ => (pg_name (i := 8) sc_law_slots_right.nd rfl (Or.inl rfl))) (fun _ _ _ _ _ => (pts_one (pt_cmpR op_eq (pe_callD D_slot_of (hr.mono (by decide)) passL (pa_cons (pe_op op_add (pv 2) (pv 8)) (pa_cons (pv 3) pa_nil))) (pe_callD D_slot_of (hr.mono (by decide)) passL (pa_cons (pv 4) (pa_cons (pv 3) pa_nil))) (nomark _)))) (fun _ _ _ _ _ => (pe_op op_add (pv 2) (pv 8))))
 (pss_one (ps_ret (pe_cmpR (op_eqD hr.units) (pe_lst (pa_cons (pe_callD D_rounded_up (hr.mono (by decide)) passL (pa_cons (pv 2) (pa_cons (pv 4) (pa_cons (pv 3) pa_nil)))) pa_nil)) (pv 7) (nomark _))))))))))), ?_⟩
  refine q_asgR w ((dr_pick rfl (evd_lst (evd_cons (evd_int ev_c) (evd_cons (evd_int ev_c) (evd_cons (evd_pow (cpow 10 9 (by decide) (by decide))) (evd_cons (evd_pow (cpow 10 27 (by decide) (by decide))) evd_nil)))) (by simp)) (by simp) (by simp)).imp (P' := isI fun g => g = 1 ∨ g = 10 ^ 9 ∨ g = 10 ^ 27) fun d hd => ?_) fun v1 d1 G1 H1 r1 hP h1 => ?_
  · simp only [List.mem_cons, List.not_mem_nil, or_false] at hd
    rcases hd with rfl | rfl | rfl | rfl
    · exact ⟨_, rfl, .inl rfl⟩
    · exact ⟨_, rfl, .inl rfl⟩
    · exact ⟨_, rfl, .inr (.inl p9.1)⟩
    · exact ⟨_, rfl, .inr (.inr p9.2.1)⟩
  obtain ⟨g, rfl, hg⟩ := hP
  cases h1.int_
  refine q_unpR r1.w ((dr_tup (drs_cons (dr_opC (C := CMul) (f := fun i j => i * j) (A := fun k => -40 ≤ k ∧ k ≤ 40) (B := fun z => z = g) ((dr_opI (f := fun i j => i - j) (dr_turn (m := 81) rfl ev_c (by decide) (by decide)) (dr_int ev_c)).imp fun d hd => ?_) (dr_int (ev_var rfl)) (fun i j hi _ => .inl ⟨by omega, by omega⟩)) (drs_cons (dr_opI (f := fun i j => i + j) (dr_int ev_c) (dr_turn (m := 32) rfl ev_c (by decide) (by decide))) drs_nil)) ?_).imp (P' := fun d => ∃ t n : Int, d = .tuple [.int t, .int n] ∧ (-(10 ^ 29) < t ∧ t < 10 ^ 29) ∧ 1 ≤ n ∧ n ≤ 32) fun d hd => ?_) (fun d ⟨t, n, e, _⟩ => ⟨_, _, e⟩) fun v2 v3 d2 d3 G2 H2 r2 hP h2 h3 => ?_
  · obtain ⟨z, rfl, i, j, ⟨i0, i1⟩, hj, rfl⟩ := hd
    have hj : j = 40 := hj
    exact ⟨_, rfl, by omega, by omega⟩
  · rintro ds ⟨_, _, rfl, _, _, _, rfl, _, rfl⟩
    simp
  · obtain ⟨ds, rfl, _, _, rfl, ⟨z, rfl, i, j, ⟨i0, i1⟩, hj, rfl⟩, _, _, rfl, ⟨y, rfl, a, b, ha, ⟨b0, b1⟩, rfl⟩, rfl⟩ := hd
    have hj : j = g := hj
    have ha : a = 1 := ha
    subst hj ha
    refine ⟨_, _, rfl, ?_, by omega, by omega⟩
    rcases hg with rfl | rfl | rfl <;> constructor <;> omega
  obtain ⟨t, n, e, ht, n1, n32⟩ := hP
  cases e
  cases h2.int_
  cases h3.int_
  refine q_asgR r2.w ((dr_opC (C := CMul) (f := fun i j => i * j) (A := fun k => -20 ≤ k ∧ k ≤ 20) (B := fun z => z = 1 ∨ z = 10 ^ 28) ((dr_opI (f := fun i j => i - j) (dr_turn (m := 41) rfl ev_c (by decide) (by decide)) (dr_int ev_c)).imp fun d hd => ?_) ((dr_pick rfl (evd_lst (evd_cons (evd_int ev_c) (evd_cons (evd_int ev_c) (evd_cons (evd_pow (cpow 10 28 (by decide) (by decide))) evd_nil))) (by simp)) (by simp) (by simp)).imp fun d hd => ?_) (fun i j hi _ => .inl ⟨by omega, by omega⟩)).imp (P' := isI fun o => -(10 ^ 30) < o ∧ o < 10 ^ 30) fun d hd => ?_) fun v4 d4 G3 H3 r3 hP h4 => ?_
  · obtain ⟨z, rfl, i, j, ⟨i0, i1⟩, hj, rfl⟩ := hd
    have hj : j = 20 := hj
    exact ⟨_, rfl, by omega, by omega⟩
  · simp only [List.mem_cons, List.not_mem_nil, or_false] at hd
    rcases hd with rfl | rfl | rfl
    · exact ⟨_, rfl, .inl rfl⟩
    · exact ⟨_, rfl, .inl rfl⟩
    · exact ⟨_, rfl, .inr p9.2.2.1⟩
  · obtain ⟨z, rfl, i, j, ⟨i0, i1⟩, hj, rfl⟩ := hd
    refine ⟨_, rfl, ?_⟩
    rcases hj with rfl | rfl <;> constructor <;> omega
  obtain ⟨o, rfl, ho⟩ := hP
  cases h4.int_
  have iT : isIn (.int t) = true := isIn_of (by omega) (by omega)
  have iO : isIn (.int o) = true := isIn_of ho.1 ho.2
  have iN : within 1 32 (.int n) = true := within_of n1 n32
  refine q_asgD r3.s (d := .int ((if t < 0 then -t else t) % n)) (evd_int (ev_op (ev_absI (ev_var rfl)) (ev_var rfl) (rv_I (C := fun _ j => 0 < j) (by omega)))) fun v5 G5 H5 r5 h5 => ?_
  cases h5.int_
  refine q_asgD r5.s (d := .int (t % n)) (EvD.is (evd_if (b := decide (t ≥ 0) || decide ((if t < 0 then -t else t) % n = 0)) (d := .int (t % n)) (et_or (et_test (ev_op (ev_var rfl) ev_c rv_I0)) fun _ => et_test (ev_eqI (ev_var rfl) ev_c)) (fun c => EvD.is (evd_int (ev_var rfl)) (congrArg PyData.int ?_)) (fun c => EvD.is (evd_int (ev_op (ev_var rfl) (ev_var rfl) rv_I0)) (congrArg PyData.int ?_))) rfl) fun v6 G6 H6 r6 h6 => ?_
  · simp only [Bool.or_eq_true, decide_eq_true_eq] at c
    by_cases h : t < 0
    · rw [if_pos h] at c ⊢
      rcases c with c | c
      · omega
      · rw [c]
        have := Int.emod_emod_of_dvd t (Int.dvd_refl n)
        have z : (-t) % n = 0 := c
        have z2 : n ∣ -t := Int.dvd_of_emod_eq_zero z
        exact (Int.emod_eq_zero_of_dvd ((Int.dvd_neg).mp z2)).symm
    · rw [if_neg h]
  · simp only [Bool.or_eq_false_iff, decide_eq_false_iff_not] at c
    have h : t < 0 := by omega
    rw [if_pos h] at c ⊢
    have m0 := Int.emod_nonneg (-t) (by omega : n ≠ 0)
    have m1 := Int.emod_lt_of_pos (-t) (by omega : 0 < n)
    have e1 : (n - (-t) % n) % n = n - (-t) % n := Int.emod_eq_of_lt (by omega) (by omega)
    rw [← e1, Int.sub_emod, Int.emod_self, Int.emod_emod, ← Int.zero_emod n, ← Int.sub_emod]
    congr 1
    omega
  cases h6.int_
  refine q_ifD r6.s (b := false) (et_is (et_test (ev_neI (ev_callSo (evd_int (ev_var rfl)) (evd_int (ev_var rfl)) iT iN) (ev_var rfl))) (by rw [decide_eq_true rfl]; rfl)) (fun c => by cases c) (fun _ H7 x7 => ?_)
  try unfold tNext
  try dsimp only
  refine q_asgD (r6.s.trans x7) (d := .list [.int (t + (o - t) % n)]) (EvD.is (evd_lcRng (n := n.toNat) (fun j => decide ((t + (j : Nat)) % n = o % n)) (fun j => .int (t + (j : Nat))) (eva_one (Evl.ev_is (ev_var rfl) (by rw [Int.toNat_of_nonneg (by omega)]))) (by omega) (fun _ => rfl) (fun j hj => et_test (ev_eqI (ev_callSo (evd_int (ev_op (ev_var rfl) (ev_var rfl) rv_I0)) (evd_int (ev_var rfl)) (isIn_of (by omega) (by omega)) iN) (ev_callSo (evd_int (ev_var rfl)) (evd_int (ev_var rfl)) iO iN))) (fun j hj _ => evd_int (ev_op (ev_var rfl) (ev_var rfl) rv_I0))) (by rw [the_one (by omega)])) fun v7 G8 H8 r8 h7 => ?_
  have gf := (((r1.trans r2).trans r3).gr (r5.trans r6)).gr ((Gr.keep r6.s x7).trans r8)
  have ok : okD (.list [.int (t + (o - t) % n)]) = true := okD_lst fun d hd => by rw [List.mem_singleton.mp hd]; exact okD_int _
  exact s_retD r8.s (d := .bool true) (evd_bl (Evl.ev_is (ev_eqD (d := .list [.int (t + (o - t) % n)]) (evd_lst (evd_cons (evd_int (ev_callRo (evd_int (ev_var rfl)) (evd_int (ev_var rfl)) (evd_int (ev_var rfl)) iT iO iN)) evd_nil) (by simp)) (evd_var rfl h7) (okD_flat ok) (okD_flat ok) (okD_shaped ok (by show (1 : Nat) ≤ 64; decide)) (okD_shaped ok (by show (1 : Nat) ≤ 64; decide))) (by rw [okD_eqv ok]))) fun v G9 H9 r9 hd => q v _ G9 H9 (gf.gr r9) rfl hd
end
end My
set_option maxHeartbeats 4000000
namespace My
open PySem L2 Lf Evl Tr NdefX LamX LfT
def spRf (Tb : List (Addr × Str)) : Sp := fun vs H Q _ => ∃ (L : Addr) (G : Hp), vs = [.ref L] ∧ At Lm L G H ∧ Tabs Tb H ∧ (∀ a o, G a = some o → dataO o = true) ∧ ∀ G' H', SN Tb Lm L G H G' H' → Q (.bl true) H'
def wides : List PyData := [.int (10 ^ 30), .int (-(10 ^ 30)), .none, .bool true, .str "1", .list [], .int (10 ^ 39)]
def odds : List PyData := [.int 0, .int 33, .int (-1), .none, .bool false, .str "3", .tuple [.int 2], .int (10 ^ 30)]
theorem wides_ok : (wides.all fun d => niceB d && !isIn d) = true := by decide +kernel
theorem odds_ok : (odds.all fun d => niceB d && !within 1 32 d) = true := by decide +kernel
theorem ins_ok : (isIn (.int (10 ^ 30 - 1)) && isIn (.int (1 - 10 ^ 30)) && isIn (.int 1) && isIn (.int 7)) = true := by decide +kernel
theorem num_okD {d : PyData} (h : Nice d) : okD (.str (numT d)) = true := okD_str (by
  have a := h.t
  unfold PyData.strOk at a ⊢
  rw [← Array.all_toList] at a ⊢
  have e : (numT d).cps.toList = ("number " : Str).cps.toList ++ d.shown.cps.toList := app_cps _ _
  rw [e, List.all_append, a, Bool.and_true]
  decide +kernel)
section
variable {P : Program} {w : World} {K : PySem.W.Frag} {mg : Str → Option Value} {base : Heap} {CN fI : Addr}
theorem ok_law_refused_right {Tb : List (Addr × Str)} {cU TU : Addr} (T : Txt P K mg CN fI) (xf : XfC K CN) (nn : PySem.W.exmOne K (.ref CN) (.ref CN) = some true) (D : DfC K mg "_law_refused_right" s_law_refused_right cU) (TB : TabB base mg cU TU) (hmT : (TU, (PyProof.Rows.envOfC "_law_refused_right" (defScope s_law_refused_right) 0 0 .none).qual ++ "<lambda>") ∈ Tb) (hu : ∀ p ∈ Tb, p.1 = TU → p.2 = (PyProof.Rows.envOfC "_law_refused_right" (defScope s_law_refused_right) 0 0 .none).qual ++ "<lambda>")
    (D_law_word : Df K mg "_law_word" s_law_word) (D_law_pick : DefOk P w K mg base CX0 2 "_law_pick" ["_law_loom_here", "_law_items"] (spDr Lm preP postP)) (D_slot_of : DefOk P w K mg base (L2.CX P w) 6 "slot_of" ["tick", "interval"] (spSo CN)) (D_rounded_up : DefOk P w K mg base (L2.CX P w) 6 "rounded_up" ["number", "slot", "interval"] (spRo CN)) : DefOkG P w K mg base CX0 9 "_law_refused_right" ["_law_loom_here"] (spRf Tb) := by
  refine D.okG sc_law_refused_right (fun _ _ _ _ _ _ us hl => match us, hl with | [_], _ => rfl) (fun vs H Q E h => ?_) (fun f A outer s H vs Q E hg hr h => ?_)
  · obtain ⟨_, _, rfl, _⟩ := h
    rfl
  obtain ⟨L, G, rfl, w, t0, hG, k⟩ := h
  refine ⟨_, (pss_cons (ps_set (i := 1) sc_law_refused_right.nd rfl (Or.inr rfl) (pe_callD D_law_pick (hr.mono (by decide)) pass0 (pa_cons (pv 0) (pa_cons (pe_lst (pa_cons (pe_op op_pow pe_int pe_int) (pa_cons (pe_un un_neg (pe_op op_pow pe_int pe_int)) (pa_cons pe_non (pa_cons pe_bl (pa_cons pe_str (pa_cons (pe_lst pa_nil) (pa_cons (pe_op op_pow pe_int pe_int) pa_nil)))))))) pa_nil))))
 (pss_cons (ps_set (i := 2) sc_law_refused_right.nd rfl (Or.inr rfl) (pe_callD D_law_pick (hr.mono (by decide)) pass0 (pa_cons (pv 0) (pa_cons (pe_lst (pa_cons pe_int (pa_cons pe_int (pa_cons (pe_un un_neg pe_int) (pa_cons pe_non (pa_cons pe_bl (pa_cons pe_str (pa_cons (pe_tup (pa_cons pe_int pa_nil)) (pa_cons (pe_op op_pow pe_int pe_int) pa_nil))))))))) pa_nil))))
 (pss_cons (ps_set (i := 3) sc_law_refused_right.nd rfl (Or.inl rfl) (pe_lst (pa_cons (LfT.pe_toldF (k := 6) D_law_word (by rfl) sc_law_word (by rfl) (by first | exact .inl rfl | exact .inr rfl | decide +kernel) (fun _ _ _ _ _ _ us hl => match us, hl with | [_], _ => rfl) (fun g cdg s H => hd_word T xf hg (by have := hr.un; omega) g cdg s H) (fun _ => rfl) TB rfl (Tb := Tb) hmT hu (by rfl) (hr.mono (by decide)) (show LamX.LamS (defScope s_law_refused_right) _ from LamX.lamS_by (by decide +kernel)) rfl (fun _ _ _ _ _ => rfl) (fun _ _ _ _ _ _ _ hr => (pe_callD D_slot_of (hr.mono (by decide)) (passes_call (takes_of rfl rfl rfl rfl) (fun _ _ _ _ h => h)) (pa_cons (pv 1) (pa_cons (pv 2) pa_nil))))) pa_nil)))
 (pss_cons (ps_expr (pe_bm PySem.F.plainAttrs_list PySem.F.slot_list_append PySem.F.type_list_append mt_append (pv 3) (pa_cons (LfT.pe_toldF (k := 6) D_law_word (by rfl) sc_law_word (by rfl) (by first | exact .inl rfl | exact .inr rfl | decide +kernel) (fun _ _ _ _ _ _ us hl => match us, hl with | [_], _ => rfl) (fun g cdg s H => hd_word T xf hg (by have := hr.un; omega) g cdg s H) (fun _ => rfl) TB rfl (Tb := Tb) hmT hu (by rfl) (hr.mono (by decide)) (show LamX.LamS (defScope s_law_refused_right) _ from LamX.lamS_by (by decide +kernel)) rfl (fun _ _ _ _ _ => rfl) (fun _ _ _ _ _ _ _ hr => (pe_callD D_slot_of (hr.mono (by decide)) (passes_call (takes_of rfl rfl rfl rfl) (fun _ _ _ _ h => h)) (pa_cons (pe_op op_sub (pe_op op_pow pe_int pe_int) pe_int) (pa_cons (pv 2) pa_nil))))) pa_nil)))
 (pss_cons (ps_expr (pe_bm PySem.F.plainAttrs_list PySem.F.slot_list_append PySem.F.type_list_append mt_append (pv 3) (pa_cons (LfT.pe_toldF (k := 6) D_law_word (by rfl) sc_law_word (by rfl) (by first | exact .inl rfl | exact .inr rfl | decide +kernel) (fun _ _ _ _ _ _ us hl => match us, hl with | [_], _ => rfl) (fun g cdg s H => hd_word T xf hg (by have := hr.un; omega) g cdg s H) (fun _ => rfl) TB rfl (Tb := Tb) hmT hu (by rfl) (hr.mono (by decide)) (show LamX.LamS (defScope s_law_refused_right) _ from LamX.lamS_by (by decide +kernel)) rfl (fun _ _ _ _ _ => rfl) (fun _ _ _ _ _ _ _ hr => (pe_callD D_rounded_up (hr.mono (by decide)) (passes_call (takes_of rfl rfl rfl rfl) (fun _ _ _ _ h => h)) (pa_cons (pv 1) (pa_cons (pv 2) (pa_cons (pv 2) pa_nil)))))) pa_nil)))
 (pss_cons (ps_expr (pe_bm PySem.F.plainAttrs_list PySem.F.slot_list_append PySem.F.type_list_append mt_append (pv 3) (pa_cons (LfT.pe_toldF (k := 6) D_law_word (by rfl) sc_law_word (by rfl) (by first | exact .inl rfl | exact .inr rfl | decide +kernel) (fun _ _ _ _ _ _ us hl => match us, hl with | [_], _ => rfl) (fun g cdg s H => hd_word T xf hg (by have := hr.un; omega) g cdg s H) (fun _ => rfl) TB rfl (Tb := Tb) hmT hu (by rfl) (hr.mono (by decide)) (show LamX.LamS (defScope s_law_refused_right) _ from LamX.lamS_by (by decide +kernel)) rfl (fun _ _ _ _ _ => rfl) (fun _ _ _ _ _ _ _ hr => (pe_callD D_rounded_up (hr.mono (by decide)) (passes_call (takes_of rfl rfl rfl rfl) (fun _ _ _ _ h => h)) (pa_cons pe_int (pa_cons (pv 1) (pa_cons (pv 2) pa_nil)))))) pa_nil)))
 (pss_cons (ps_expr (pe_bm PySem.F.plainAttrs_list PySem.F.slot_list_append PySem.F.type_list_append mt_append (pv 3) (pa_cons (LfT.pe_toldF (k := 6) D_law_word (by rfl) sc_law_word (by rfl) (by first | exact .inl rfl | exact .inr rfl | decide +kernel) (fun _ _ _ _ _ _ us hl => match us, hl with | [_], _ => rfl) (fun g cdg s H => hd_word T xf hg (by have := hr.un; omega) g cdg s H) (fun _ => rfl) TB rfl (Tb := Tb) hmT hu (by rfl) (hr.mono (by decide)) (show LamX.LamS (defScope s_law_refused_right) _ from LamX.lamS_by (by decide +kernel)) rfl (fun _ _ _ _ _ => rfl) (fun _ _ _ _ _ _ _ hr => (pe_callD D_rounded_up (hr.mono (by decide)) (passes_call (takes_of rfl rfl rfl rfl) (fun _ _ _ _ h => h)) (pa_cons (pe_op op_sub pe_int (pe_op op_pow pe_int pe_int)) (pa_cons pe_int (pa_cons (pv 2) pa_nil)))))) pa_nil)))
 (pss_cons (ps_set (i := 4) sc_law_refused_right.nd rfl (Or.inl rfl) (pe_lst (pa_cons (pe_op op_add_str pe_str (pe_callB (call_reprD hg hr) (by rfl) T.n_repr (by decide +kernel) (pa_cons (pv 1) pa_nil))) (pa_cons (pe_op op_add_str pe_str (pe_callB (call_reprD hg hr) (by rfl) T.n_repr (by decide +kernel) (pa_cons (pv 2) pa_nil))) pa_nil))))
 (pss_one (ps_ret (pe_cmpR (op_eqD hr.units) (pv 3) (pe_lst (pa_cons (pe_ix ix_list (pv 4) pe_int (fun _ _ => rfl)) (pa_cons (pe_ix ix_list (pv 4) pe_int (fun _ _ => rfl)) (pa_cons (pe_ix ix_list (pv 4) pe_int (fun _ _ => rfl)) (pa_cons (pe_ix ix_list (pv 4) pe_int (fun _ _ => rfl)) (pa_cons (pe_ix ix_list (pv 4) pe_int (fun _ _ => rfl)) pa_nil)))))) (nomark _)))))))))))), ?_⟩
  have S0 := SN.start w t0 hG
  refine q_rollQ S0 ((dr_pick (ds := wides) rfl (EvD.is (evd_lst (evd_cons (evd_pow (cpow 10 30 (by decide) (by decide))) (evd_cons (evd_int (ev_un (EvD.int_ (evd_pow (cpow 10 30 (by decide) (by decide)))) ru_neg)) (evd_cons (evd_non ev_c) (evd_cons (evd_bl ev_c) (evd_cons (evd_str ev_c (by decide)) (evd_cons (evd_lst evd_nil (by simp)) (evd_cons (evd_pow (cpow 10 39 (by decide) (by decide))) evd_nil))))))) (by simp)) (by unfold wides; rfl)) (by decide) (by decide)).imp (P' := fun d => Nice d ∧ isIn d = false) fun d hd => ?_) fun v1 wi G1 H1 S1 x1 hw h1 => ?_
  · have := List.all_eq_true.mp wides_ok d hd
    rw [Bool.and_eq_true, Bool.not_eq_true'] at this
    exact ⟨nice_of this.1, this.2⟩
  refine q_rollQ S1 ((dr_pick (ds := odds) rfl (EvD.is (evd_lst (evd_cons (evd_int ev_c) (evd_cons (evd_int ev_c) (evd_cons (evd_int (ev_un ev_c ru_neg)) (evd_cons (evd_non ev_c) (evd_cons (evd_bl ev_c) (evd_cons (evd_str ev_c (by decide)) (evd_cons (evd_tup (evd_cons (evd_int ev_c) evd_nil) (by simp)) (evd_cons (evd_pow (cpow 10 30 (by decide) (by decide))) evd_nil)))))))) (by simp)) (by unfold odds; rfl)) (by decide) (by decide)).imp (P' := fun d => Nice d ∧ within 1 32 d = false) fun d hd => ?_) fun v2 od G2 H2 S2 x2 ho h2 => ?_
  · have := List.all_eq_true.mp odds_ok d hd
    rw [Bool.and_eq_true, Bool.not_eq_true'] at this
    exact ⟨nice_of this.1, this.2⟩
  have h1 := h1.up x2
  have I := ins_ok
  simp only [Bool.and_eq_true] at I
  obtain ⟨⟨⟨i1, i2⟩, i3⟩, i4⟩ := I
  have pw30 : ∀ {σ : L2.St} {G : Hp}, Ev (tOp (rI CPow fun i j => .int (i ^ j.toNat)) (tC (.int 10)) (tC (.int 30))) σ G (.int (10 ^ 30)) := fun {σ G} => Evl.ev_is (EvD.int_ (evd_pow (cpow 10 30 (by decide) (by decide)))) rfl
  refine q_lstB S2.s S2.d S2.t (evn_word nn (mk_so1 (evd_var rfl h1) (evd_var rfl h2) hw.2) hw.1) fun p G3 H3 S3 x3 => ?_
  have h1 := h1.up x3
  have h2 := h2.up x3
  try unfold tNext
  try dsimp only
  refine q_appB S3 rfl (by simp) (evn_word nn (mk_so2 (d1 := .int (10 ^ 30 - 1)) (evd_int (ev_op pw30 ev_c rv_I0)) (evd_var rfl h2) i1 ho.2) ho.1) fun G4 H4 S4 x4 => ?_
  have h1 := h1.up x4
  have h2 := h2.up x4
  refine q_appB S4 rfl (by simp) (evn_word nn (mk_ro (e := wi) (evd_var rfl h1) (evd_var rfl h2) (evd_var rfl h2) (.inl ⟨hw.2, rfl⟩)) hw.1) fun G5 H5 S5 x5 => ?_
  have h1 := h1.up x5
  have h2 := h2.up x5
  refine q_appB S5 rfl (by simp) (evn_word nn (mk_ro (e := wi) (evd_int ev_c) (evd_var rfl h1) (evd_var rfl h2) (.inr (.inl ⟨i3, hw.2, rfl⟩))) hw.1) fun G6 H6 S6 x6 => ?_
  have h1 := h1.up x6
  have h2 := h2.up x6
  refine q_appB S6 rfl (by simp) (evn_word nn (mk_ro (e := od) (d1 := .int (1 - 10 ^ 30)) (evd_int (ev_op ev_c pw30 rv_I0)) (evd_int ev_c) (evd_var rfl h2) (.inr (.inr ⟨i2, i4, ho.2, rfl⟩))) ho.1) fun G7 H7 S7 x7 => ?_
  have h1 := h1.up x7
  have h2 := h2.up x7
  have wt : ∀ {σ : L2.St} {G : Hp} {te : TE} {d : PyData}, EvD te σ G d → Nice d → EvD (tOp rCat2 (tC (.str "number ")) (tCB (rReprD K) (tCons te tNil))) σ G (.str (numT d)) := fun {σ G te d} h n => by
    have e : (numT d).length = ("number " : Str).length + d.shown.length := strLen_append _ _
    have e7 : ("number " : Str).length = 7 := rfl
    have := n.l
    exact evd_str (ev_addS ev_c (EvD.str_ (evd_repr h n)) (by omega)) (by omega)
  refine q_asgN S7.s S7.d S7.t (EvD.evn (d := .list [.str (numT wi), .str (numT od)]) (evd_lst (evd_cons (wt (evd_var rfl h1) hw.1) (evd_cons (wt (evd_var rfl h2) ho.1) evd_nil)) (by simp))) fun v4 G8 H8 r8 h4 => ?_
  have S8 := S7.up r8
  obtain ⟨G9, x9, r9, hT⟩ := S8.put
  have hT : Da G9 (.ref p) (.list [.str (numT wi), .str (numT od), .str (numT wi), .str (numT wi), .str (numT od)]) := hT
  have h4 := h4.up x9
  have ok : okD (.list [.str (numT wi), .str (numT od), .str (numT wi), .str (numT wi), .str (numT od)]) = true := okD_lst fun e he => by
    simp only [List.mem_cons, List.not_mem_nil, or_false] at he
    rcases he with rfl | rfl | rfl | rfl | rfl
    · exact num_okD hw.1
    · exact num_okD ho.1
    · exact num_okD hw.1
    · exact num_okD hw.1
    · exact num_okD ho.1
  have S9 := S2.ev r9
  refine s_retQ S9 (evn_eq (EvD.evn (evd_var rfl hT)) (EvD.evn (evd_lst (evd_cons (evd_ixL (evd_var rfl h4) ev_c (atI_nat (j := 0) rfl)) (evd_cons (evd_ixL (evd_var rfl h4) ev_c (atI_nat (j := 1) rfl)) (evd_cons (evd_ixL (evd_var rfl h4) ev_c (atI_nat (j := 0) rfl)) (evd_cons (evd_ixL (evd_var rfl h4) ev_c (atI_nat (j := 0) rfl)) (evd_cons (evd_ixL (evd_var rfl h4) ev_c (atI_nat (j := 1) rfl)) evd_nil))))) (by simp))) (okD_flat ok) (okD_flat ok) (okD_shaped ok (by show (1 : Nat) ≤ 64; decide)) (okD_shaped ok (by show (1 : Nat) ≤ 64; decide))) fun v G10 H10 S10 x10 e => ?_
  rw [e, okD_eqv ok]
  exact k G10 H10 S10
end
end My
set_option maxHeartbeats 4000000
/-! tests whose calls draw from the loom and write tables -/
namespace L2
open PySem PySem.Spec PyProof.Rows NdefX LamX Evl Lf
section
variable {Tb : List (Addr × Str)} {Lm : List V → Prop} {L : Addr} {G0 H0 G H G1 H1 : Hp}
theorem SN.trn (a : SN Tb Lm L G0 H0 G H) (b : SN Tb Lm L G H G1 H1) : SN Tb Lm L G0 H0 G1 H1 := by
  obtain ⟨xs, hL, hm⟩ := b.w.l
  refine ⟨fun c o ne h nt => b.k c o ne (a.k c o ne h nt) nt, a.g.trans b.g, fun c o h nt z => ?_, b.w, b.t, b.d⟩
  by_cases e : c = L
  · rw [e]
    exact b.w.f
  · exact b.n c o (a.k c o e h nt) nt (a.n c o h nt z)
end
def EvS (Tb : List (Addr × Str)) (Lm : List V → Prop) (L : Addr) (t : TT) (σ : L2.St) (G : Hp) (b : Bool) : Prop := ∀ G1 H1, Ex G G1 → SN Tb Lm L G1 H1 G1 H1 → ∀ Q : Bool → Hp → Prop, (∀ G2 H2, SN Tb Lm L G1 H1 G2 H2 → Q b H2) → t σ H1 Q
section
variable {Tb : List (Addr × Str)} {Lm : List V → Prop} {L : Addr} {G0 H0 G H : Hp} {σ : L2.St} {te : TE} {t u : TT} {tu tw tz : TS} {D : Ends} {b c : Bool}
theorem SN.here (S : SN Tb Lm L G0 H0 G H) : SN Tb Lm L G H G H := SN.start S.w S.t S.d
theorem EvT.evs (h : EvT t σ G b) : EvS Tb Lm L t σ G b := fun G1 H1 x S Q q => h H1 (x.trans S.s) _ fun H2 x2 => q G1 H2 (S.keep x2)
theorem EvTN.evs (h : EvTN Tb t σ G b) : EvS Tb Lm L t σ G b := fun G1 H1 x S Q q => h G1 H1 x S.d S.s S.t _ fun G2 H2 r => q G2 H2 (S.ev r)
theorem es_dr (h : Dr Lm L te σ G fun d => d = .bool b) : EvS Tb Lm L (tB te) σ G b := fun G1 H1 x S Q q => h G1 H1 x S.w _ fun v d G2 H2 r e hd => by
  subst e
  cases hd
  exact ⟨_, rfl, q G2 H2 (S.roll r)⟩
theorem es_is (h : EvS Tb Lm L t σ G b) (e : b = c) : EvS Tb Lm L t σ G c := e ▸ h
theorem es_not (h : EvS Tb Lm L t σ G b) : EvS Tb Lm L (tNot t) σ G (!b) := fun G1 H1 x S Q q => h G1 H1 x S _ q
theorem es_or (h1 : EvS Tb Lm L t σ G b) (h2 : b = false → EvS Tb Lm L u σ G c) : EvS Tb Lm L (tOr t u) σ G (b || c) := fun G1 H1 x S Q q => h1 G1 H1 x S _ fun G2 H2 S2 => by
  cases b with
  | true =>
    show Q true H2
    exact q G2 H2 S2
  | false =>
    show u σ H2 Q
    exact h2 rfl G2 H2 (x.trans S2.g) S2.here Q fun G3 H3 S3 => q G3 H3 (S2.trn S3)
/-- a test that comes out false -/
theorem q_ifS0 (S : SN Tb Lm L G0 H0 G H) (h : EvS Tb Lm L t σ G false) (k : ∀ G1 H1, SN Tb Lm L G0 H0 G1 H1 → Ex G G1 → tw { D with nx := tz D } σ H1) : tSeq (tIfS t tu tw) tz D σ H := h G H (Ex.refl _) S.here _ fun G1 H1 r => by
  show tw { D with nx := tz D } σ H1
  exact k G1 H1 (S.trn r) r.g
theorem s_ifS0 (S : SN Tb Lm L G0 H0 G H) (h : EvS Tb Lm L t σ G false) (k : ∀ G1 H1, SN Tb Lm L G0 H0 G1 H1 → Ex G G1 → tw D σ H1) : tIfS t tu tw D σ H := h G H (Ex.refl _) S.here _ fun G1 H1 r => by
  show tw D σ H1
  exact k G1 H1 (S.trn r) r.g
end
end L2
set_option maxHeartbeats 4000000
namespace My
open PySem L2 Lf Evl Tr NdefX LamX LfT
abbrev s_law : Stmt := top 44
theorem sc_law : FnScope ["_law_script", "_law_spot", "_law_loom_here", "_law_value", "_law_some", "_law_one"] ["_law_script"] (defScope s_law) := ⟨rfl, rfl, rfl, by decide +kernel, rfl, by decide +kernel, by decide +kernel⟩
def valsL : List PyData := [.none, .int 0, .int 31, .str "x", .tuple [.str "a", .int 1], .bool true, .int (10 ^ 40 - 1)]
theorem vals_ok : (valsL.all fun d => niceB d && niceB (.tuple [d, .int 1])) = true := by decide +kernel
def someL : List PyData := [.int 0, .int (-1), .int (10 ^ 30 - 1), .int (1 - 10 ^ 30), .int (10 ^ 30), .int (-(10 ^ 30)), .bool true, .bool false, .none, .str "1", .tuple [.int 1], .dict []]
def someB : PyData := .list [.bool true, .bool true, .bool true, .bool true, .bool false, .bool false, .bool false, .bool false, .bool false, .bool false, .bool false, .bool false]
theorem some_in : PyData.list (someL.map fun d => .bool (isIn d)) = someB := by kernel_rfl
theorem pw40 : ((10 : Int) ^ (40 : Int).toNat) = 10 ^ 40 := by decide +kernel
def spLaw (K : PySem.W.Frag) (cs : List (Addr × Addr)) : Sp := fun vs H Q _ => ∃ (a : Addr) (ns : List Int), vs = [.ref a] ∧ SqL K H a (ns.map V.int) ∧ (∀ p ∈ cs, H p.2 = some (.tbl #[])) ∧ ∀ H', Q (.bl true) H'
section
variable {P : Program} {w : World} {K : PySem.W.Frag} {mg : Str → Option Value} {base : Heap} {CN fI : Addr} {Tb : List (Addr × Str)} {L : Addr} {σ : L2.St} {G H : Hp} {te : TE} {d : PyData} {E : XK} {i : Nat}
theorem es_err (h : EvD te σ G d) (n1 : Nice d) (n2 : Nice (.tuple [d, .int 1])) : EvS Tb Lm L (tB (tCallD spErr E (tCons te tNil))) σ G true := fun G1 H1 x S Q q => h G1 H1 x S.s _ fun v G2 H2 r hd =>
  ⟨G2, v, d, rfl, r.s, hd, n1, n2, fun H' x' => ⟨true, rfl, q G2 H' (S.ev (GrN.of S.t S.d (r.trans (Gr.keep r.s x'))))⟩⟩
theorem es_rf (hL : σ[i]? = some (some (.ref L))) : EvS Tb Lm L (tB (tCallD (spRf Tb) E (tCons (tVar i) tNil))) σ G true := fun G1 H1 x S Q q =>
  ⟨_, hL, L, G1, rfl, S.w, S.t, S.d, fun G' H' S' => ⟨true, rfl, q G' H' S'⟩⟩
theorem es_n (hL : σ[i]? = some (some (.ref L))) : EvS Tb Lm L (tB (tCallD (spDr Lm preN postTr) E (tCons (tVar i) tNil))) σ G true := es_dr ((dr_call hL drs_nil (fun ds e => e)).imp fun d ⟨ds, _, p⟩ => p)
theorem ok_law {f0 : Addr} {fd : FuncData} {cs : List (Addr × Addr)} (T : Txt P K mg CN fI) (F : Fun K "law" "law" s_law f0 fd) (hcs : ∀ p ∈ Tb, ∃ q ∈ cs, q.2 = p.1)
    (D_law_loom : DefOk P w K mg base CX0 1 "_law_loom" ["_law_script", "_law_spot"] (spLoom K)) (D_law_pick : DefOk P w K mg base CX0 2 "_law_pick" ["_law_loom_here", "_law_items"] (spDr Lm preP postP)) (D_is_integer : DefOk P w K mg base CX0 2 "is_integer" ["value"] (spB isIn))
    (D_law_errors_right : DefOkG P w K mg base CX0 4 "_law_errors_right" ["_law_value"] spErr) (D_law_names_right : DefOkG P w K mg base CX0 4 "_law_names_right" ["_law_loom_here"] (spDr Lm preN postTr)) (D_law_slots_right : DefOk P w K mg base CX0 7 "_law_slots_right" ["_law_loom_here"] (spDr Lm preN postTr)) (D_law_refused_right : DefOkG P w K mg base CX0 9 "_law_refused_right" ["_law_loom_here"] (spRf Tb))
    (D_slot_of : DefOk P w K mg base (L2.CX P w) 6 "slot_of" ["tick", "interval"] (spSo CN)) (D_rounded_up : DefOk P w K mg base (L2.CX P w) 6 "rounded_up" ["number", "slot", "interval"] (spRo CN)) : FnOkG P w K mg base CX0 10 f0 fd ["_law_script"] (spLaw K cs) := by
  refine F.okG sc_law (fun vs H Q E h => ?_) (fun cdv A outer s H vs Q E hg hr h => ?_)
  · obtain ⟨a, ns, rfl, _⟩ := h
    rfl
  obtain ⟨a, ns, rfl, hS, tb0, q⟩ := h
  have tb : Tabs Tb H := fun p hp => by
    obtain ⟨r, hr', e⟩ := hcs p hp
    exact e ▸ TabS.nil (tb0 r hr')
  clear tb0
  refine ⟨_, (pss_cons (ps_for PassesOwn.never rfl (pi_range1 (by rfl) T.n_range (pa_cons (pe_callB (call_max2 rfl) (by rfl) T.n_max (by decide +kernel) (pa_cons pe_int (pa_cons (pe_callB (call_min2 rfl) (by rfl) T.n_min (by decide +kernel) (pa_cons pe_int (pa_cons (pe_callB call_len_seq (by rfl) T.n_len (by decide +kernel) (pa_cons (pv 0) pa_nil)) pa_nil))) pa_nil))) pa_nil)) (pg_name (i := 1) sc_law.nd rfl (Or.inl rfl))
 (pss_cons (ps_set (i := 2) sc_law.nd rfl (Or.inl rfl) (pe_callD D_law_loom (hr.mono (by decide)) pass0 (pa_cons (pv 0) (pa_cons (pv 1) pa_nil))))
 (pss_cons (ps_set (i := 3) sc_law.nd rfl (Or.inl rfl) (pe_callD D_law_pick (hr.mono (by decide)) pass0 (pa_cons (pv 2) (pa_cons (pe_lst (pa_cons pe_non (pa_cons pe_int (pa_cons pe_int (pa_cons pe_str (pa_cons (pe_tup (pa_cons pe_str (pa_cons pe_int pa_nil))) (pa_cons pe_bl (pa_cons (pe_op op_sub (pe_op op_pow pe_int pe_int) pe_int) pa_nil)))))))) pa_nil))))
 (pss_cons (ps_if (PW.pt (pw_or (pt_not (pt_val (pe_callDG D_law_errors_right hg (hr.mono (by decide)) pass0 (pa_cons (pv 3) pa_nil)))) (pw_or1 (pt_not (pt_val (pe_callDG D_law_names_right hg (hr.mono (by decide)) pass0 (pa_cons (pv 2) pa_nil)))))))
 (pss_one (ps_ret pe_bl))
 pss_nil)
 (pss_one (ps_if (PW.pt (pw_or (pt_not (pt_val (pe_callD D_law_slots_right (hr.mono (by decide)) pass0 (pa_cons (pv 2) pa_nil)))) (pw_or1 (pt_not (pt_val (pe_callDG D_law_refused_right hg (hr.mono (by decide)) pass0 (pa_cons (pv 2) pa_nil)))))))
 (pss_one (ps_ret pe_bl))
 pss_nil))))))
 (pss_cons (ps_set (i := 4) sc_law.nd rfl (Or.inl rfl) (pe_lst (pa_cons pe_int (pa_cons (pe_un un_neg pe_int) (pa_cons (pe_op op_sub (pe_op op_pow pe_int pe_int) pe_int) (pa_cons (pe_op op_sub pe_int (pe_op op_pow pe_int pe_int)) (pa_cons (pe_op op_pow pe_int pe_int) (pa_cons (pe_un un_neg (pe_op op_pow pe_int pe_int)) (pa_cons pe_bl (pa_cons pe_bl (pa_cons pe_non (pa_cons pe_str (pa_cons (pe_tup (pa_cons pe_int pa_nil)) (pa_cons pe_dnewK pa_nil))))))))))))))
 (pss_cons (ps_if (pt_cmpR (op_neD hr.units) (pe_lc (own := [("_law_one", 5)]) (by rfl) sc_law.nd (pi_list (pv 4)) (blkOk_by (own := [("_law_one", 5)]) (N := ["_law_script", "_law_spot", "_law_loom_here", "_law_value", "_law_some", "_law_one"]) (sc := defScope s_law) (by decide +kernel)) (fun _ _ _ _ _ => (pg_name (i := 5) sc_law.nd rfl (Or.inl rfl))) (fun _ _ _ _ _ => pts_nil) (fun _ _ _ _ _ => (pe_callD D_is_integer (hr.mono (by decide)) pass0 (pa_cons (pv 5) pa_nil)))) (pe_op op_cat (pe_op op_rep (pe_lst (pa_cons pe_bl pa_nil)) pe_int) (pe_op op_rep (pe_lst (pa_cons pe_bl pa_nil)) pe_int)) (nomark _))
 (pss_one (ps_ret pe_bl))
 pss_nil)
 (pss_one (ps_ret (pe_cmpR (op_eqD hr.units) (pe_lst (pa_cons (pe_gInt (by rfl) T.g_MAX_INTERVAL) (pa_cons (pe_gInt (by rfl) T.g_MAX_TICKS) (pa_cons (pe_callD D_slot_of (hr.mono (by decide)) passL (pa_cons (pe_un un_neg pe_int) (pa_cons pe_int pa_nil))) (pa_cons (pe_callD D_rounded_up (hr.mono (by decide)) passL (pa_cons (pe_un un_neg pe_int) (pa_cons pe_int (pa_cons pe_int pa_nil)))) (pa_cons (pe_callD D_rounded_up (hr.mono (by decide)) passL (pa_cons pe_int (pa_cons pe_int (pa_cons pe_int pa_nil)))) pa_nil)))))) (pe_lst (pa_cons pe_int (pa_cons pe_int (pa_cons pe_int (pa_cons pe_int (pa_cons pe_int pa_nil)))))) (nomark _))))))), ?_⟩
  have hn : (1 : Int) ≤ (if (if ((ns.map V.int).length : Int) < 8 then ((ns.map V.int).length : Int) else 8) > 1 then (if ((ns.map V.int).length : Int) < 8 then ((ns.map V.int).length : Int) else 8) else 1) ∧ (if (if ((ns.map V.int).length : Int) < 8 then ((ns.map V.int).length : Int) else 8) > 1 then (if ((ns.map V.int).length : Int) < 8 then ((ns.map V.int).length : Int) else 8) else 1) ≤ 8 := by
    generalize ((ns.map V.int).length : Int) = z
    split <;> split <;> omega
  refine ⟨_, rfl, _, _, rfl, .inl hS, _, _, rfl, _, _, rfl, _, rfl, by omega, by omega, for_range (lo := 0) (fun i σ' H' => ∃ v1 v2 v3, σ' = [some (.ref a), v1, v2, v3, none, none] ∧ SqL K H' a (ns.map V.int) ∧ Tabs Tb H') ⟨_, _, _, rfl, hS, tb⟩ ?_ ?_⟩
  · rintro i σ' H' hi ⟨v1, v2, v3, rfl, hS, tb⟩
    refine ⟨_, rfl, _, rfl, a, ns, i, by rw [Int.zero_add], hS, fun p xs hp hx => ?_⟩
    have S0 : SN Tb Lm p (fun _ => none) (upd H' p (.lst xs)) (fun _ => none) (upd H' p (.lst xs)) := SN.start ⟨none_ex, rfl, xs, upd_same, hx⟩ (tb.ext (Ex.new hp)) none_data
    have sc0 := sc_keep (sc_of hS hp) (KeepN.of (Ex.new (o := .lst xs) hp))
    try unfold tNext
    try dsimp only
    refine q_rollQ S0 ((dr_pick (ds := valsL) rfl (EvD.is (evd_lst (evd_cons (evd_non ev_c) (evd_cons (evd_int ev_c) (evd_cons (evd_int ev_c) (evd_cons (evd_str ev_c (by decide)) (evd_cons (evd_tup (evd_cons (evd_str ev_c (by decide)) (evd_cons (evd_int ev_c) evd_nil)) (by simp)) (evd_cons (evd_bl ev_c) (evd_cons (evd_int (ev_op (EvD.int_ (evd_pow (cpow 10 40 (by decide) (by decide)))) ev_c rv_I0)) evd_nil))))))) (by simp)) (by unfold valsL; rfl)) (by decide) (by decide)).imp (P' := fun d => Nice d ∧ Nice (.tuple [d, .int 1])) fun d hd => ?_) fun u3 dv G1 H1 S1 x1 hn1 h3 => ?_
    · have := List.all_eq_true.mp vals_ok d hd
      rw [Bool.and_eq_true] at this
      exact ⟨nice_of this.1, nice_of this.2⟩
    try unfold tNext
    try dsimp only
    refine q_ifS0 S1 (es_is (es_or (es_not (es_err (evd_var rfl h3) hn1.1 hn1.2)) fun _ => es_not (es_n rfl)) rfl) fun G2 H2 S2 x2 => ?_
    try unfold tNext
    try dsimp only
    refine s_ifS0 S2 (es_is (es_or (es_not (es_n rfl)) fun _ => es_not (es_rf rfl)) rfl) fun G3 H3 S3 x3 => ?_
    exact ⟨_, _, _, rfl, sc_sq (sc_keep sc0 S3.k), S3.t⟩
  · rintro σ' H1 ⟨v1, v2, v3, rfl, hS, tb1⟩
    try unfold tNext
    try dsimp only
    have pw30 : ∀ {σ : L2.St} {G : Hp}, Ev (tOp (rI CPow fun i j => .int (i ^ j.toNat)) (tC (.int 10)) (tC (.int 30))) σ G (.int (10 ^ 30)) := fun {σ G} => Evl.ev_is (EvD.int_ (evd_pow (cpow 10 30 (by decide) (by decide)))) rfl
    refine q_asgD (G := fun _ => none) none_ex (d := .list someL) (EvD.is (evd_lst (evd_cons (evd_int ev_c) (evd_cons (evd_int (ev_un ev_c ru_neg)) (evd_cons (evd_int (ev_op pw30 ev_c rv_I0)) (evd_cons (evd_int (ev_op ev_c pw30 rv_I0)) (evd_cons (evd_int pw30) (evd_cons (evd_int (ev_un pw30 ru_neg)) (evd_cons (evd_bl ev_c) (evd_cons (evd_bl ev_c) (evd_cons (evd_non ev_c) (evd_cons (evd_str ev_c (by decide)) (evd_cons (evd_tup (evd_cons (evd_int ev_c) evd_nil) (by simp)) (evd_cons evd_dnew evd_nil)))))))))))) (by simp)) (by unfold someL; rfl)) fun v4 G2 H2 r2 h4 => ?_
    try unfold tNext
    try dsimp only
    refine q_ifD r2.s (b := false) (et_is (et_test (ev_neD (d := someB) (e := someB) (EvD.is (evd_lcL (fun _ => true) (fun d => .bool (isIn d)) (evd_var rfl h4) (by decide) (fun _ => rfl) (fun _ _ _ _ _ _ => et_yes (b := true)) (fun d hd' _ v G1 _ hv => evd_bl (ev_callB (evd_var rfl hv)))) (by rw [filter_yes]; exact some_in)) (EvD.is (evd_catL (evd_repL (n := 4) (evd_lst (evd_cons (evd_bl ev_c) evd_nil) (by simp)) ev_c (by decide) (by decide) (by simp)) (evd_repL (n := 8) (evd_lst (evd_cons (evd_bl ev_c) evd_nil) (by simp)) ev_c (by decide) (by decide) (by simp)) (by decide)) (by unfold someB; rfl)) (by decide) (by decide) (by decide +kernel) (by decide +kernel))) (by decide +kernel)) (fun c => by cases c) (fun _ H3 x3 => ?_)
    try unfold tNext
    try dsimp only
    refine Ev.ret (G := fun _ => none) none_ex (v := .bl true) (Evl.ev_is (ev_eqD (d := .list [.int 32, .int 4, .int 1, .int 2, .int 3]) (e := .list [.int 32, .int 4, .int 1, .int 2, .int 3]) (EvD.is (evd_lst (evd_cons (evd_int ev_c) (evd_cons (evd_int ev_c) (evd_cons (evd_int (ev_callSo (a := -3) (b := 4) (evd_int (ev_un ev_c ru_neg)) (evd_int ev_c) (by decide +kernel) (by decide +kernel))) (evd_cons (evd_int (ev_callRo (a := -1) (b := 6) (c := 4) (evd_int (ev_un ev_c ru_neg)) (evd_int ev_c) (evd_int ev_c) (by decide +kernel) (by decide +kernel) (by decide +kernel))) (evd_cons (evd_int (ev_callRo (a := 3) (b := 0) (c := 3) (evd_int ev_c) (evd_int ev_c) (evd_int ev_c) (by decide +kernel) (by decide +kernel) (by decide +kernel))) evd_nil))))) (by simp)) rfl) (EvD.is (evd_lst (evd_cons (evd_int ev_c) (evd_cons (evd_int ev_c) (evd_cons (evd_int ev_c) (evd_cons (evd_int ev_c) (evd_cons (evd_int ev_c) evd_nil))))) (by simp)) rfl) (by decide) (by decide) (by decide +kernel) (by decide +kernel)) (by rw [show PyData.eqv (.list [.int 32, .int 4, .int 1, .int 2, .int 3]) (.list [.int 32, .int 4, .int 1, .int 2, .int 3]) = true by decide +kernel])) fun H4 x4 => q H4
end
/-! ### the table -/
def lamQ : Str := (PyProof.Rows.envOfC "_law_refused_right" (defScope s_law_refused_right) 0 0 .none).qual ++ "<lambda>"
end My
set_option maxHeartbeats 0
namespace My
open PySem L2 Lf Evl Tr PyProof LamX LfT NdefX
theorem fld_limit : PySem.LfX.FldOk "limit" := ⟨by decide +kernel, by decide +kernel, by decide +kernel, by decide +kernel, fun _ _ _ _ _ _ _ _ _ _ _ _ _ => .of_eq rfl⟩
theorem fld_line : PySem.LfX.FldOk "line" := ⟨by decide +kernel, by decide +kernel, by decide +kernel, by decide +kernel, fun _ _ _ _ _ _ _ _ _ _ _ _ _ => .of_eq rfl⟩
theorem fld_many : PySem.LfX.FldOk "many" := ⟨by decide +kernel, by decide +kernel, by decide +kernel, by decide +kernel, fun _ _ _ _ _ _ _ _ _ _ _ _ _ => .of_eq rfl⟩
theorem fld_value : PySem.LfX.FldOk "value" := ⟨by decide +kernel, by decide +kernel, by decide +kernel, by decide +kernel, fun _ _ _ _ _ _ _ _ _ _ _ _ _ => .of_eq rfl⟩
theorem fld_wanted : PySem.LfX.FldOk "wanted" := ⟨by decide +kernel, by decide +kernel, by decide +kernel, by decide +kernel, fun _ _ _ _ _ _ _ _ _ _ _ _ _ => .of_eq rfl⟩
theorem fld_kind_reason : PySem.LfX2.FldOk2 "kind" "reason" := ⟨by decide +kernel, by decide +kernel, by decide +kernel, by decide +kernel, by decide +kernel, by decide +kernel, by decide +kernel, by decide +kernel, by decide +kernel, fun _ _ _ _ _ _ _ _ _ _ _ _ _ _ _ => .of_eq rfl⟩
theorem ex_0 {h : Heap} {K : PySem.W.Frag} (c : LfH.SaysZ fnL tfL (LfH.exA exL) h K) : (LfH.gloB K "is_name") = true := LfH.exA_at (f := fun K => LfH.gloB K "is_name") c.more 0 rfl
theorem ex_1 {h : Heap} {K : PySem.W.Frag} (c : LfH.SaysZ fnL tfL (LfH.exA exL) h K) : (LfH.gloB K "is_number") = true := LfH.exA_at (f := fun K => LfH.gloB K "is_number") c.more 1 rfl
theorem ex_2 {h : Heap} {K : PySem.W.Frag} (c : LfH.SaysZ fnL tfL (LfH.exA exL) h K) : (LfH.gloB K "is_integer") = true := LfH.exA_at (f := fun K => LfH.gloB K "is_integer") c.more 2 rfl
theorem ex_3 {h : Heap} {K : PySem.W.Frag} (c : LfH.SaysZ fnL tfL (LfH.exA exL) h K) : (LfH.gloB K "is_within") = true := LfH.exA_at (f := fun K => LfH.gloB K "is_within") c.more 3 rfl
theorem ex_4 {h : Heap} {K : PySem.W.Frag} (c : LfH.SaysZ fnL tfL (LfH.exA exL) h K) : (LfH.gloB K "require_integer") = true := LfH.exA_at (f := fun K => LfH.gloB K "require_integer") c.more 4 rfl
theorem ex_5 {h : Heap} {K : PySem.W.Frag} (c : LfH.SaysZ fnL tfL (LfH.exA exL) h K) : (LfH.gloB K "require_within") = true := LfH.exA_at (f := fun K => LfH.gloB K "require_within") c.more 5 rfl
theorem ex_6 {h : Heap} {K : PySem.W.Frag} (c : LfH.SaysZ fnL tfL (LfH.exA exL) h K) : (LfH.gloB K "require_interval") = true := LfH.exA_at (f := fun K => LfH.gloB K "require_interval") c.more 6 rfl
theorem ex_7 {h : Heap} {K : PySem.W.Frag} (c : LfH.SaysZ fnL tfL (LfH.exA exL) h K) : (LfH.gloB K "slot_in") = true := LfH.exA_at (f := fun K => LfH.gloB K "slot_in") c.more 7 rfl
theorem ex_8 {h : Heap} {K : PySem.W.Frag} (c : LfH.SaysZ fnL tfL (LfH.exA exL) h K) : (LfH.gloB K "rounded_in") = true := LfH.exA_at (f := fun K => LfH.gloB K "rounded_in") c.more 8 rfl
theorem ex_9 {h : Heap} {K : PySem.W.Frag} (c : LfH.SaysZ fnL tfL (LfH.exA exL) h K) : (LfH.gloB K "slot_of") = true := LfH.exA_at (f := fun K => LfH.gloB K "slot_of") c.more 9 rfl
theorem ex_10 {h : Heap} {K : PySem.W.Frag} (c : LfH.SaysZ fnL tfL (LfH.exA exL) h K) : (LfH.gloB K "rounded_up") = true := LfH.exA_at (f := fun K => LfH.gloB K "rounded_up") c.more 10 rfl
theorem ex_11 {h : Heap} {K : PySem.W.Frag} (c : LfH.SaysZ fnL tfL (LfH.exA exL) h K) : (LfH.gloB K "_law_loom") = true := LfH.exA_at (f := fun K => LfH.gloB K "_law_loom") c.more 11 rfl
theorem ex_12 {h : Heap} {K : PySem.W.Frag} (c : LfH.SaysZ fnL tfL (LfH.exA exL) h K) : (LfH.gloB K "_law_turn") = true := LfH.exA_at (f := fun K => LfH.gloB K "_law_turn") c.more 12 rfl
theorem ex_13 {h : Heap} {K : PySem.W.Frag} (c : LfH.SaysZ fnL tfL (LfH.exA exL) h K) : (LfH.gloB K "_law_pick") = true := LfH.exA_at (f := fun K => LfH.gloB K "_law_pick") c.more 13 rfl
theorem ex_14 {h : Heap} {K : PySem.W.Frag} (c : LfH.SaysZ fnL tfL (LfH.exA exL) h K) : (LfH.gloB K "_law_is_told") = true := LfH.exA_at (f := fun K => LfH.gloB K "_law_is_told") c.more 14 rfl
theorem ex_15 {h : Heap} {K : PySem.W.Frag} (c : LfH.SaysZ fnL tfL (LfH.exA exL) h K) : (LfH.gloB K "_law_families") = true := LfH.exA_at (f := fun K => LfH.gloB K "_law_families") c.more 15 rfl
theorem ex_16 {h : Heap} {K : PySem.W.Frag} (c : LfH.SaysZ fnL tfL (LfH.exA exL) h K) : (LfH.gloB K "_law_errors_right") = true := LfH.exA_at (f := fun K => LfH.gloB K "_law_errors_right") c.more 16 rfl
theorem ex_17 {h : Heap} {K : PySem.W.Frag} (c : LfH.SaysZ fnL tfL (LfH.exA exL) h K) : (LfH.gloB K "_law_word") = true := LfH.exA_at (f := fun K => LfH.gloB K "_law_word") c.more 17 rfl
theorem ex_18 {h : Heap} {K : PySem.W.Frag} (c : LfH.SaysZ fnL tfL (LfH.exA exL) h K) : (LfH.gloB K "_law_names_right") = true := LfH.exA_at (f := fun K => LfH.gloB K "_law_names_right") c.more 18 rfl
theorem ex_19 {h : Heap} {K : PySem.W.Frag} (c : LfH.SaysZ fnL tfL (LfH.exA exL) h K) : (LfH.gloB K "_law_slots_right") = true := LfH.exA_at (f := fun K => LfH.gloB K "_law_slots_right") c.more 19 rfl
theorem ex_20 {h : Heap} {K : PySem.W.Frag} (c : LfH.SaysZ fnL tfL (LfH.exA exL) h K) : (LfH.gloB K "_law_refused_right") = true := LfH.exA_at (f := fun K => LfH.gloB K "_law_refused_right") c.more 20 rfl
theorem ex_21 {h : Heap} {K : PySem.W.Frag} (c : LfH.SaysZ fnL tfL (LfH.exA exL) h K) : (LfH.gloB K "law") = true := LfH.exA_at (f := fun K => LfH.gloB K "law") c.more 21 rfl
theorem ex_22 {h : Heap} {K : PySem.W.Frag} (c : LfH.SaysZ fnL tfL (LfH.exA exL) h K) : ((He.Fa.free "isinstance").ok K) = true := LfH.exA_at (f := fun K => (He.Fa.free "isinstance").ok K) c.more 22 rfl
theorem ex_23 {h : Heap} {K : PySem.W.Frag} (c : LfH.SaysZ fnL tfL (LfH.exA exL) h K) : ((He.Fa.free "int").ok K) = true := LfH.exA_at (f := fun K => (He.Fa.free "int").ok K) c.more 23 rfl
theorem ex_24 {h : Heap} {K : PySem.W.Frag} (c : LfH.SaysZ fnL tfL (LfH.exA exL) h K) : ((He.Fa.free "bool").ok K) = true := LfH.exA_at (f := fun K => (He.Fa.free "bool").ok K) c.more 24 rfl
theorem ex_25 {h : Heap} {K : PySem.W.Frag} (c : LfH.SaysZ fnL tfL (LfH.exA exL) h K) : ((He.Fa.free "str").ok K) = true := LfH.exA_at (f := fun K => (He.Fa.free "str").ok K) c.more 25 rfl
theorem ex_26 {h : Heap} {K : PySem.W.Frag} (c : LfH.SaysZ fnL tfL (LfH.exA exL) h K) : ((He.Fa.free "tuple").ok K) = true := LfH.exA_at (f := fun K => (He.Fa.free "tuple").ok K) c.more 26 rfl
theorem ex_27 {h : Heap} {K : PySem.W.Frag} (c : LfH.SaysZ fnL tfL (LfH.exA exL) h K) : ((He.Fa.free "len").ok K) = true := LfH.exA_at (f := fun K => (He.Fa.free "len").ok K) c.more 27 rfl
theorem ex_28 {h : Heap} {K : PySem.W.Frag} (c : LfH.SaysZ fnL tfL (LfH.exA exL) h K) : ((He.Fa.free "abs").ok K) = true := LfH.exA_at (f := fun K => (He.Fa.free "abs").ok K) c.more 28 rfl
theorem ex_29 {h : Heap} {K : PySem.W.Frag} (c : LfH.SaysZ fnL tfL (LfH.exA exL) h K) : ((He.Fa.free "max").ok K) = true := LfH.exA_at (f := fun K => (He.Fa.free "max").ok K) c.more 29 rfl
theorem ex_30 {h : Heap} {K : PySem.W.Frag} (c : LfH.SaysZ fnL tfL (LfH.exA exL) h K) : ((He.Fa.free "min").ok K) = true := LfH.exA_at (f := fun K => (He.Fa.free "min").ok K) c.more 30 rfl
theorem ex_31 {h : Heap} {K : PySem.W.Frag} (c : LfH.SaysZ fnL tfL (LfH.exA exL) h K) : ((He.Fa.free "list").ok K) = true := LfH.exA_at (f := fun K => (He.Fa.free "list").ok K) c.more 31 rfl
theorem ex_32 {h : Heap} {K : PySem.W.Frag} (c : LfH.SaysZ fnL tfL (LfH.exA exL) h K) : ((He.Fa.free "range").ok K) = true := LfH.exA_at (f := fun K => (He.Fa.free "range").ok K) c.more 32 rfl
theorem ex_33 {h : Heap} {K : PySem.W.Frag} (c : LfH.SaysZ fnL tfL (LfH.exA exL) h K) : ((He.Fa.free "all").ok K) = true := LfH.exA_at (f := fun K => (He.Fa.free "all").ok K) c.more 33 rfl
theorem ex_34 {h : Heap} {K : PySem.W.Frag} (c : LfH.SaysZ fnL tfL (LfH.exA exL) h K) : ((He.Fa.free "repr").ok K) = true := LfH.exA_at (f := fun K => (He.Fa.free "repr").ok K) c.more 34 rfl
theorem ex_35 {h : Heap} {K : PySem.W.Frag} (c : LfH.SaysZ fnL tfL (LfH.exA exL) h K) : ((He.Fa.free "ord").ok K) = true := LfH.exA_at (f := fun K => (He.Fa.free "ord").ok K) c.more 35 rfl
theorem ex_36 {h : Heap} {K : PySem.W.Frag} (c : LfH.SaysZ fnL tfL (LfH.exA exL) h K) : ((He.Fa.free "ValueError").ok K) = true := LfH.exA_at (f := fun K => (He.Fa.free "ValueError").ok K) c.more 36 rfl
theorem ex_37 {h : Heap} {K : PySem.W.Frag} (c : LfH.SaysZ fnL tfL (LfH.exA exL) h K) : ((He.Fa.free "KeyError").ok K) = true := LfH.exA_at (f := fun K => (He.Fa.free "KeyError").ok K) c.more 37 rfl
theorem ex_38 {h : Heap} {K : PySem.W.Frag} (c : LfH.SaysZ fnL tfL (LfH.exA exL) h K) : ((He.Fa.free "RuntimeError").ok K) = true := LfH.exA_at (f := fun K => (He.Fa.free "RuntimeError").ok K) c.more 38 rfl
theorem ex_39 {h : Heap} {K : PySem.W.Frag} (c : LfH.SaysZ fnL tfL (LfH.exA exL) h K) : ((He.Fa.free "OverflowError").ok K) = true := LfH.exA_at (f := fun K => (He.Fa.free "OverflowError").ok K) c.more 39 rfl
theorem ex_40 {h : Heap} {K : PySem.W.Frag} (c : LfH.SaysZ fnL tfL (LfH.exA exL) h K) : ((He.Fa.free "IndexError").ok K) = true := LfH.exA_at (f := fun K => (He.Fa.free "IndexError").ok K) c.more 40 rfl
theorem ex_41 {h : Heap} {K : PySem.W.Frag} (c : LfH.SaysZ fnL tfL (LfH.exA exL) h K) : ((He.Fa.free "ArithmeticError").ok K) = true := LfH.exA_at (f := fun K => (He.Fa.free "ArithmeticError").ok K) c.more 41 rfl
theorem ex_42 {h : Heap} {K : PySem.W.Frag} (c : LfH.SaysZ fnL tfL (LfH.exA exL) h K) : ((He.Fa.int "MAX_NAME" 8).ok K) = true := LfH.exA_at (f := fun K => (He.Fa.int "MAX_NAME" 8).ok K) c.more 42 rfl
theorem ex_43 {h : Heap} {K : PySem.W.Frag} (c : LfH.SaysZ fnL tfL (LfH.exA exL) h K) : ((He.Fa.int "LIMIT" lim).ok K) = true := LfH.exA_at (f := fun K => (He.Fa.int "LIMIT" lim).ok K) c.more 43 rfl
theorem ex_44 {h : Heap} {K : PySem.W.Frag} (c : LfH.SaysZ fnL tfL (LfH.exA exL) h K) : ((He.Fa.int "MAX_INTERVAL" 32).ok K) = true := LfH.exA_at (f := fun K => (He.Fa.int "MAX_INTERVAL" 32).ok K) c.more 44 rfl
theorem ex_45 {h : Heap} {K : PySem.W.Frag} (c : LfH.SaysZ fnL tfL (LfH.exA exL) h K) : ((He.Fa.int "MAX_TICKS" 4).ok K) = true := LfH.exA_at (f := fun K => (He.Fa.int "MAX_TICKS" 4).ok K) c.more 45 rfl
theorem ex_46 {h : Heap} {K : PySem.W.Frag} (c : LfH.SaysZ fnL tfL (LfH.exA exL) h K) : ((He.Fa.str "LETTERS" letters).ok K) = true := LfH.exA_at (f := fun K => (He.Fa.str "LETTERS" letters).ok K) c.more 46 rfl
theorem ex_47 {h : Heap} {K : PySem.W.Frag} (c : LfH.SaysZ fnL tfL (LfH.exA exL) h K) : (LfH.excB K (He.ga K "InvalidTree") [.type "ValueError", .type "Exception", .type "BaseException", .type "object"] "ValueError.__new__") = true := LfH.exA_at (f := fun K => LfH.excB K (He.ga K "InvalidTree") [.type "ValueError", .type "Exception", .type "BaseException", .type "object"] "ValueError.__new__") c.more 47 rfl
theorem ex_48 {h : Heap} {K : PySem.W.Frag} (c : LfH.SaysZ fnL tfL (LfH.exA exL) h K) : (LfH.gloB K "InvalidTree") = true := LfH.exA_at (f := fun K => LfH.gloB K "InvalidTree") c.more 48 rfl
theorem ex_49 {h : Heap} {K : PySem.W.Frag} (c : LfH.SaysZ fnL tfL (LfH.exA exL) h K) : (LfH.excB K (He.ga K "InvalidBody") [.type "ValueError", .type "Exception", .type "BaseException", .type "object"] "ValueError.__new__") = true := LfH.exA_at (f := fun K => LfH.excB K (He.ga K "InvalidBody") [.type "ValueError", .type "Exception", .type "BaseException", .type "object"] "ValueError.__new__") c.more 49 rfl
theorem ex_50 {h : Heap} {K : PySem.W.Frag} (c : LfH.SaysZ fnL tfL (LfH.exA exL) h K) : (LfH.gloB K "InvalidBody") = true := LfH.exA_at (f := fun K => LfH.gloB K "InvalidBody") c.more 50 rfl
theorem ex_51 {h : Heap} {K : PySem.W.Frag} (c : LfH.SaysZ fnL tfL (LfH.exA exL) h K) : (LfH.excB K (He.ga K "InvalidMachine") [.type "ValueError", .type "Exception", .type "BaseException", .type "object"] "ValueError.__new__") = true := LfH.exA_at (f := fun K => LfH.excB K (He.ga K "InvalidMachine") [.type "ValueError", .type "Exception", .type "BaseException", .type "object"] "ValueError.__new__") c.more 51 rfl
theorem ex_52 {h : Heap} {K : PySem.W.Frag} (c : LfH.SaysZ fnL tfL (LfH.exA exL) h K) : (LfH.gloB K "InvalidMachine") = true := LfH.exA_at (f := fun K => LfH.gloB K "InvalidMachine") c.more 52 rfl
theorem ex_53 {h : Heap} {K : PySem.W.Frag} (c : LfH.SaysZ fnL tfL (LfH.exA exL) h K) : (LfH.excB K (He.ga K "InvalidCover") [.type "ValueError", .type "Exception", .type "BaseException", .type "object"] "ValueError.__new__") = true := LfH.exA_at (f := fun K => LfH.excB K (He.ga K "InvalidCover") [.type "ValueError", .type "Exception", .type "BaseException", .type "object"] "ValueError.__new__") c.more 53 rfl
theorem ex_54 {h : Heap} {K : PySem.W.Frag} (c : LfH.SaysZ fnL tfL (LfH.exA exL) h K) : (LfH.gloB K "InvalidCover") = true := LfH.exA_at (f := fun K => LfH.gloB K "InvalidCover") c.more 54 rfl
theorem ex_55 {h : Heap} {K : PySem.W.Frag} (c : LfH.SaysZ fnL tfL (LfH.exA exL) h K) : (LfH.excB K (He.ga K "InvalidJob") [.type "ValueError", .type "Exception", .type "BaseException", .type "object"] "ValueError.__new__") = true := LfH.exA_at (f := fun K => LfH.excB K (He.ga K "InvalidJob") [.type "ValueError", .type "Exception", .type "BaseException", .type "object"] "ValueError.__new__") c.more 55 rfl
theorem ex_56 {h : Heap} {K : PySem.W.Frag} (c : LfH.SaysZ fnL tfL (LfH.exA exL) h K) : (LfH.gloB K "InvalidJob") = true := LfH.exA_at (f := fun K => LfH.gloB K "InvalidJob") c.more 56 rfl
theorem ex_57 {h : Heap} {K : PySem.W.Frag} (c : LfH.SaysZ fnL tfL (LfH.exA exL) h K) : (LfH.excB K (He.ga K "InvalidLives") [.type "ValueError", .type "Exception", .type "BaseException", .type "object"] "ValueError.__new__") = true := LfH.exA_at (f := fun K => LfH.excB K (He.ga K "InvalidLives") [.type "ValueError", .type "Exception", .type "BaseException", .type "object"] "ValueError.__new__") c.more 57 rfl
theorem ex_58 {h : Heap} {K : PySem.W.Frag} (c : LfH.SaysZ fnL tfL (LfH.exA exL) h K) : (LfH.gloB K "InvalidLives") = true := LfH.exA_at (f := fun K => LfH.gloB K "InvalidLives") c.more 58 rfl
theorem ex_59 {h : Heap} {K : PySem.W.Frag} (c : LfH.SaysZ fnL tfL (LfH.exA exL) h K) : (LfH.excB K (He.ga K "InvalidKernel") [.type "ValueError", .type "Exception", .type "BaseException", .type "object"] "ValueError.__new__") = true := LfH.exA_at (f := fun K => LfH.excB K (He.ga K "InvalidKernel") [.type "ValueError", .type "Exception", .type "BaseException", .type "object"] "ValueError.__new__") c.more 59 rfl
theorem ex_60 {h : Heap} {K : PySem.W.Frag} (c : LfH.SaysZ fnL tfL (LfH.exA exL) h K) : (LfH.gloB K "InvalidKernel") = true := LfH.exA_at (f := fun K => LfH.gloB K "InvalidKernel") c.more 60 rfl
theorem ex_61 {h : Heap} {K : PySem.W.Frag} (c : LfH.SaysZ fnL tfL (LfH.exA exL) h K) : (LfH.excB K (He.ga K "InvalidArgument") [.type "ValueError", .type "Exception", .type "BaseException", .type "object"] "ValueError.__new__") = true := LfH.exA_at (f := fun K => LfH.excB K (He.ga K "InvalidArgument") [.type "ValueError", .type "Exception", .type "BaseException", .type "object"] "ValueError.__new__") c.more 61 rfl
theorem ex_62 {h : Heap} {K : PySem.W.Frag} (c : LfH.SaysZ fnL tfL (LfH.exA exL) h K) : (LfH.gloB K "InvalidArgument") = true := LfH.exA_at (f := fun K => LfH.gloB K "InvalidArgument") c.more 62 rfl
theorem ex_63 {h : Heap} {K : PySem.W.Frag} (c : LfH.SaysZ fnL tfL (LfH.exA exL) h K) : (LfH.excB K (He.ga K "FoundryError") [.type "ValueError", .type "Exception", .type "BaseException", .type "object"] "ValueError.__new__") = true := LfH.exA_at (f := fun K => LfH.excB K (He.ga K "FoundryError") [.type "ValueError", .type "Exception", .type "BaseException", .type "object"] "ValueError.__new__") c.more 63 rfl
theorem ex_64 {h : Heap} {K : PySem.W.Frag} (c : LfH.SaysZ fnL tfL (LfH.exA exL) h K) : (LfH.gloB K "FoundryError") = true := LfH.exA_at (f := fun K => LfH.gloB K "FoundryError") c.more 64 rfl
theorem ex_65 {h : Heap} {K : PySem.W.Frag} (c : LfH.SaysZ fnL tfL (LfH.exA exL) h K) : (LfH.xB_ K (He.ga K "ParseError") [.ref (He.ga K "FoundryError"), .type "ValueError", .type "Exception", .type "BaseException", .type "object"] "line" fileP "ValueError" "ValueError.__init__" "ValueError.__new__") = true := LfH.exA_at (f := fun K => LfH.xB_ K (He.ga K "ParseError") [.ref (He.ga K "FoundryError"), .type "ValueError", .type "Exception", .type "BaseException", .type "object"] "line" fileP "ValueError" "ValueError.__init__" "ValueError.__new__") c.more 65 rfl
theorem ex_66 {h : Heap} {K : PySem.W.Frag} (c : LfH.SaysZ fnL tfL (LfH.exA exL) h K) : (LfH.gloB K "ParseError") = true := LfH.exA_at (f := fun K => LfH.gloB K "ParseError") c.more 66 rfl
theorem ex_67 {h : Heap} {K : PySem.W.Frag} (c : LfH.SaysZ fnL tfL (LfH.exA exL) h K) : ((He.Fa.free "super").ok K) = true := LfH.exA_at (f := fun K => (He.Fa.free "super").ok K) c.more 67 rfl
theorem ex_68 {h : Heap} {K : PySem.W.Frag} (c : LfH.SaysZ fnL tfL (LfH.exA exL) h K) : (LfH.xB_ K (He.ga K "InvalidNumber") [.type "RuntimeError", .type "Exception", .type "BaseException", .type "object"] "value" fileP "RuntimeError" "RuntimeError.__init__" "RuntimeError.__new__") = true := LfH.exA_at (f := fun K => LfH.xB_ K (He.ga K "InvalidNumber") [.type "RuntimeError", .type "Exception", .type "BaseException", .type "object"] "value" fileP "RuntimeError" "RuntimeError.__init__" "RuntimeError.__new__") c.more 68 rfl
theorem ex_69 {h : Heap} {K : PySem.W.Frag} (c : LfH.SaysZ fnL tfL (LfH.exA exL) h K) : (LfH.gloB K "InvalidNumber") = true := LfH.exA_at (f := fun K => LfH.gloB K "InvalidNumber") c.more 69 rfl
theorem ex_70 {h : Heap} {K : PySem.W.Frag} (c : LfH.SaysZ fnL tfL (LfH.exA exL) h K) : (LfH.xB_ K (He.ga K "TooMany") [.type "OverflowError", .type "ArithmeticError", .type "Exception", .type "BaseException", .type "object"] "limit" fileP "OverflowError" "OverflowError.__init__" "OverflowError.__new__") = true := LfH.exA_at (f := fun K => LfH.xB_ K (He.ga K "TooMany") [.type "OverflowError", .type "ArithmeticError", .type "Exception", .type "BaseException", .type "object"] "limit" fileP "OverflowError" "OverflowError.__init__" "OverflowError.__new__") c.more 70 rfl
theorem ex_71 {h : Heap} {K : PySem.W.Frag} (c : LfH.SaysZ fnL tfL (LfH.exA exL) h K) : (LfH.gloB K "TooMany") = true := LfH.exA_at (f := fun K => LfH.gloB K "TooMany") c.more 71 rfl
theorem ex_72 {h : Heap} {K : PySem.W.Frag} (c : LfH.SaysZ fnL tfL (LfH.exA exL) h K) : (LfH.xB_ K (He.ga K "NothingToUndo") [.type "IndexError", .type "LookupError", .type "Exception", .type "BaseException", .type "object"] "many" fileP "IndexError" "IndexError.__init__" "IndexError.__new__") = true := LfH.exA_at (f := fun K => LfH.xB_ K (He.ga K "NothingToUndo") [.type "IndexError", .type "LookupError", .type "Exception", .type "BaseException", .type "object"] "many" fileP "IndexError" "IndexError.__init__" "IndexError.__new__") c.more 72 rfl
theorem ex_73 {h : Heap} {K : PySem.W.Frag} (c : LfH.SaysZ fnL tfL (LfH.exA exL) h K) : (LfH.gloB K "NothingToUndo") = true := LfH.exA_at (f := fun K => LfH.gloB K "NothingToUndo") c.more 73 rfl
theorem ex_74 {h : Heap} {K : PySem.W.Frag} (c : LfH.SaysZ fnL tfL (LfH.exA exL) h K) : (LfH.xB_ K (He.ga K "Broken") [.type "ArithmeticError", .type "Exception", .type "BaseException", .type "object"] "kind" fileP "ArithmeticError" "ArithmeticError.__init__" "ArithmeticError.__new__") = true := LfH.exA_at (f := fun K => LfH.xB_ K (He.ga K "Broken") [.type "ArithmeticError", .type "Exception", .type "BaseException", .type "object"] "kind" fileP "ArithmeticError" "ArithmeticError.__init__" "ArithmeticError.__new__") c.more 74 rfl
theorem ex_75 {h : Heap} {K : PySem.W.Frag} (c : LfH.SaysZ fnL tfL (LfH.exA exL) h K) : (LfH.gloB K "Broken") = true := LfH.exA_at (f := fun K => LfH.gloB K "Broken") c.more 75 rfl
theorem ex_76 {h : Heap} {K : PySem.W.Frag} (c : LfH.SaysZ fnL tfL (LfH.exA exL) h K) : (LfH.noB K (He.ga K "Broken") "reason") = true := LfH.exA_at (f := fun K => LfH.noB K (He.ga K "Broken") "reason") c.more 76 rfl
theorem ex_77 {h : Heap} {K : PySem.W.Frag} (c : LfH.SaysZ fnL tfL (LfH.exA exL) h K) : (LfH.xB_ K (He.ga K "UnknownName") [.type "KeyError", .type "LookupError", .type "Exception", .type "BaseException", .type "object"] "wanted" fileP "KeyError" "KeyError.__init__" "LookupError.__new__") = true := LfH.exA_at (f := fun K => LfH.xB_ K (He.ga K "UnknownName") [.type "KeyError", .type "LookupError", .type "Exception", .type "BaseException", .type "object"] "wanted" fileP "KeyError" "KeyError.__init__" "LookupError.__new__") c.more 77 rfl
theorem ex_78 {h : Heap} {K : PySem.W.Frag} (c : LfH.SaysZ fnL tfL (LfH.exA exL) h K) : (LfH.gloB K "UnknownName") = true := LfH.exA_at (f := fun K => LfH.gloB K "UnknownName") c.more 78 rfl
theorem ex_79 {h : Heap} {K : PySem.W.Frag} (c : LfH.SaysZ fnL tfL (LfH.exA exL) h K) : (excCB K (He.ga K "InvalidTree")) = true := LfH.exA_at (f := fun K => excCB K (He.ga K "InvalidTree")) c.more 79 rfl
theorem ex_80 {h : Heap} {K : PySem.W.Frag} (c : LfH.SaysZ fnL tfL (LfH.exA exL) h K) : (excCB K (He.ga K "InvalidBody")) = true := LfH.exA_at (f := fun K => excCB K (He.ga K "InvalidBody")) c.more 80 rfl
theorem ex_81 {h : Heap} {K : PySem.W.Frag} (c : LfH.SaysZ fnL tfL (LfH.exA exL) h K) : (excCB K (He.ga K "InvalidMachine")) = true := LfH.exA_at (f := fun K => excCB K (He.ga K "InvalidMachine")) c.more 81 rfl
theorem ex_82 {h : Heap} {K : PySem.W.Frag} (c : LfH.SaysZ fnL tfL (LfH.exA exL) h K) : (excCB K (He.ga K "InvalidCover")) = true := LfH.exA_at (f := fun K => excCB K (He.ga K "InvalidCover")) c.more 82 rfl
theorem ex_83 {h : Heap} {K : PySem.W.Frag} (c : LfH.SaysZ fnL tfL (LfH.exA exL) h K) : (excCB K (He.ga K "InvalidJob")) = true := LfH.exA_at (f := fun K => excCB K (He.ga K "InvalidJob")) c.more 83 rfl
theorem ex_84 {h : Heap} {K : PySem.W.Frag} (c : LfH.SaysZ fnL tfL (LfH.exA exL) h K) : (excCB K (He.ga K "InvalidLives")) = true := LfH.exA_at (f := fun K => excCB K (He.ga K "InvalidLives")) c.more 84 rfl
theorem ex_85 {h : Heap} {K : PySem.W.Frag} (c : LfH.SaysZ fnL tfL (LfH.exA exL) h K) : (excCB K (He.ga K "InvalidKernel")) = true := LfH.exA_at (f := fun K => excCB K (He.ga K "InvalidKernel")) c.more 85 rfl
theorem ex_86 {h : Heap} {K : PySem.W.Frag} (c : LfH.SaysZ fnL tfL (LfH.exA exL) h K) : (excCB K (He.ga K "InvalidArgument")) = true := LfH.exA_at (f := fun K => excCB K (He.ga K "InvalidArgument")) c.more 86 rfl
theorem ex_87 {h : Heap} {K : PySem.W.Frag} (c : LfH.SaysZ fnL tfL (LfH.exA exL) h K) : (excCB K (He.ga K "ParseError")) = true := LfH.exA_at (f := fun K => excCB K (He.ga K "ParseError")) c.more 87 rfl
theorem ex_88 {h : Heap} {K : PySem.W.Frag} (c : LfH.SaysZ fnL tfL (LfH.exA exL) h K) : (excCB K (He.ga K "UnknownName")) = true := LfH.exA_at (f := fun K => excCB K (He.ga K "UnknownName")) c.more 88 rfl
theorem ex_89 {h : Heap} {K : PySem.W.Frag} (c : LfH.SaysZ fnL tfL (LfH.exA exL) h K) : (excCB K (He.ga K "InvalidNumber")) = true := LfH.exA_at (f := fun K => excCB K (He.ga K "InvalidNumber")) c.more 89 rfl
theorem ex_90 {h : Heap} {K : PySem.W.Frag} (c : LfH.SaysZ fnL tfL (LfH.exA exL) h K) : (excCB K (He.ga K "TooMany")) = true := LfH.exA_at (f := fun K => excCB K (He.ga K "TooMany")) c.more 90 rfl
theorem ex_91 {h : Heap} {K : PySem.W.Frag} (c : LfH.SaysZ fnL tfL (LfH.exA exL) h K) : (excCB K (He.ga K "NothingToUndo")) = true := LfH.exA_at (f := fun K => excCB K (He.ga K "NothingToUndo")) c.more 91 rfl
theorem ex_92 {h : Heap} {K : PySem.W.Frag} (c : LfH.SaysZ fnL tfL (LfH.exA exL) h K) : (excCB K (He.ga K "Broken")) = true := LfH.exA_at (f := fun K => excCB K (He.ga K "Broken")) c.more 92 rfl
theorem ex_93 {h : Heap} {K : PySem.W.Frag} (c : LfH.SaysZ fnL tfL (LfH.exA exL) h K) : (decide (([PySem.W.kitOne K (.ref (He.ga K "InvalidTree")) (.type "ValueError"), PySem.W.kitOne K (.ref (He.ga K "InvalidTree")) (.type "KeyError"), PySem.W.kitOne K (.ref (He.ga K "InvalidTree")) (.type "RuntimeError"), PySem.W.kitOne K (.ref (He.ga K "InvalidTree")) (.type "OverflowError"), PySem.W.kitOne K (.ref (He.ga K "InvalidTree")) (.type "IndexError"), PySem.W.kitOne K (.ref (He.ga K "InvalidTree")) (.type "ArithmeticError"), PySem.W.kitOne K (.ref (He.ga K "InvalidTree")) (.ref (He.ga K "FoundryError"))] : List (Option Bool)) = [some true, some false, some false, some false, some false, some false, some true])) = true := LfH.exA_at (f := fun K => decide (([PySem.W.kitOne K (.ref (He.ga K "InvalidTree")) (.type "ValueError"), PySem.W.kitOne K (.ref (He.ga K "InvalidTree")) (.type "KeyError"), PySem.W.kitOne K (.ref (He.ga K "InvalidTree")) (.type "RuntimeError"), PySem.W.kitOne K (.ref (He.ga K "InvalidTree")) (.type "OverflowError"), PySem.W.kitOne K (.ref (He.ga K "InvalidTree")) (.type "IndexError"), PySem.W.kitOne K (.ref (He.ga K "InvalidTree")) (.type "ArithmeticError"), PySem.W.kitOne K (.ref (He.ga K "InvalidTree")) (.ref (He.ga K "FoundryError"))] : List (Option Bool)) = [some true, some false, some false, some false, some false, some false, some true])) c.more 93 rfl
theorem ex_94 {h : Heap} {K : PySem.W.Frag} (c : LfH.SaysZ fnL tfL (LfH.exA exL) h K) : (decide (([PySem.W.kitOne K (.ref (He.ga K "InvalidBody")) (.type "ValueError"), PySem.W.kitOne K (.ref (He.ga K "InvalidBody")) (.type "KeyError"), PySem.W.kitOne K (.ref (He.ga K "InvalidBody")) (.type "RuntimeError"), PySem.W.kitOne K (.ref (He.ga K "InvalidBody")) (.type "OverflowError"), PySem.W.kitOne K (.ref (He.ga K "InvalidBody")) (.type "IndexError"), PySem.W.kitOne K (.ref (He.ga K "InvalidBody")) (.type "ArithmeticError"), PySem.W.kitOne K (.ref (He.ga K "InvalidBody")) (.ref (He.ga K "FoundryError"))] : List (Option Bool)) = [some true, some false, some false, some false, some false, some false, some true])) = true := LfH.exA_at (f := fun K => decide (([PySem.W.kitOne K (.ref (He.ga K "InvalidBody")) (.type "ValueError"), PySem.W.kitOne K (.ref (He.ga K "InvalidBody")) (.type "KeyError"), PySem.W.kitOne K (.ref (He.ga K "InvalidBody")) (.type "RuntimeError"), PySem.W.kitOne K (.ref (He.ga K "InvalidBody")) (.type "OverflowError"), PySem.W.kitOne K (.ref (He.ga K "InvalidBody")) (.type "IndexError"), PySem.W.kitOne K (.ref (He.ga K "InvalidBody")) (.type "ArithmeticError"), PySem.W.kitOne K (.ref (He.ga K "InvalidBody")) (.ref (He.ga K "FoundryError"))] : List (Option Bool)) = [some true, some false, some false, some false, some false, some false, some true])) c.more 94 rfl
theorem ex_95 {h : Heap} {K : PySem.W.Frag} (c : LfH.SaysZ fnL tfL (LfH.exA exL) h K) : (decide (([PySem.W.kitOne K (.ref (He.ga K "InvalidMachine")) (.type "ValueError"), PySem.W.kitOne K (.ref (He.ga K "InvalidMachine")) (.type "KeyError"), PySem.W.kitOne K (.ref (He.ga K "InvalidMachine")) (.type "RuntimeError"), PySem.W.kitOne K (.ref (He.ga K "InvalidMachine")) (.type "OverflowError"), PySem.W.kitOne K (.ref (He.ga K "InvalidMachine")) (.type "IndexError"), PySem.W.kitOne K (.ref (He.ga K "InvalidMachine")) (.type "ArithmeticError"), PySem.W.kitOne K (.ref (He.ga K "InvalidMachine")) (.ref (He.ga K "FoundryError"))] : List (Option Bool)) = [some true, some false, some false, some false, some false, some false, some true])) = true := LfH.exA_at (f := fun K => decide (([PySem.W.kitOne K (.ref (He.ga K "InvalidMachine")) (.type "ValueError"), PySem.W.kitOne K (.ref (He.ga K "InvalidMachine")) (.type "KeyError"), PySem.W.kitOne K (.ref (He.ga K "InvalidMachine")) (.type "RuntimeError"), PySem.W.kitOne K (.ref (He.ga K "InvalidMachine")) (.type "OverflowError"), PySem.W.kitOne K (.ref (He.ga K "InvalidMachine")) (.type "IndexError"), PySem.W.kitOne K (.ref (He.ga K "InvalidMachine")) (.type "ArithmeticError"), PySem.W.kitOne K (.ref (He.ga K "InvalidMachine")) (.ref (He.ga K "FoundryError"))] : List (Option Bool)) = [some true, some false, some false, some false, some false, some false, some true])) c.more 95 rfl
theorem ex_96 {h : Heap} {K : PySem.W.Frag} (c : LfH.SaysZ fnL tfL (LfH.exA exL) h K) : (decide (([PySem.W.kitOne K (.ref (He.ga K "InvalidCover")) (.type "ValueError"), PySem.W.kitOne K (.ref (He.ga K "InvalidCover")) (.type "KeyError"), PySem.W.kitOne K (.ref (He.ga K "InvalidCover")) (.type "RuntimeError"), PySem.W.kitOne K (.ref (He.ga K "InvalidCover")) (.type "OverflowError"), PySem.W.kitOne K (.ref (He.ga K "InvalidCover")) (.type "IndexError"), PySem.W.kitOne K (.ref (He.ga K "InvalidCover")) (.type "ArithmeticError"), PySem.W.kitOne K (.ref (He.ga K "InvalidCover")) (.ref (He.ga K "FoundryError"))] : List (Option Bool)) = [some true, some false, some false, some false, some false, some false, some true])) = true := LfH.exA_at (f := fun K => decide (([PySem.W.kitOne K (.ref (He.ga K "InvalidCover")) (.type "ValueError"), PySem.W.kitOne K (.ref (He.ga K "InvalidCover")) (.type "KeyError"), PySem.W.kitOne K (.ref (He.ga K "InvalidCover")) (.type "RuntimeError"), PySem.W.kitOne K (.ref (He.ga K "InvalidCover")) (.type "OverflowError"), PySem.W.kitOne K (.ref (He.ga K "InvalidCover")) (.type "IndexError"), PySem.W.kitOne K (.ref (He.ga K "InvalidCover")) (.type "ArithmeticError"), PySem.W.kitOne K (.ref (He.ga K "InvalidCover")) (.ref (He.ga K "FoundryError"))] : List (Option Bool)) = [some true, some false, some false, some false, some false, some false, some true])) c.more 96 rfl
theorem ex_97 {h : Heap} {K : PySem.W.Frag} (c : LfH.SaysZ fnL tfL (LfH.exA exL) h K) : (decide (([PySem.W.kitOne K (.ref (He.ga K "InvalidJob")) (.type "ValueError"), PySem.W.kitOne K (.ref (He.ga K "InvalidJob")) (.type "KeyError"), PySem.W.kitOne K (.ref (He.ga K "InvalidJob")) (.type "RuntimeError"), PySem.W.kitOne K (.ref (He.ga K "InvalidJob")) (.type "OverflowError"), PySem.W.kitOne K (.ref (He.ga K "InvalidJob")) (.type "IndexError"), PySem.W.kitOne K (.ref (He.ga K "InvalidJob")) (.type "ArithmeticError"), PySem.W.kitOne K (.ref (He.ga K "InvalidJob")) (.ref (He.ga K "FoundryError"))] : List (Option Bool)) = [some true, some false, some false, some false, some false, some false, some true])) = true := LfH.exA_at (f := fun K => decide (([PySem.W.kitOne K (.ref (He.ga K "InvalidJob")) (.type "ValueError"), PySem.W.kitOne K (.ref (He.ga K "InvalidJob")) (.type "KeyError"), PySem.W.kitOne K (.ref (He.ga K "InvalidJob")) (.type "RuntimeError"), PySem.W.kitOne K (.ref (He.ga K "InvalidJob")) (.type "OverflowError"), PySem.W.kitOne K (.ref (He.ga K "InvalidJob")) (.type "IndexError"), PySem.W.kitOne K (.ref (He.ga K "InvalidJob")) (.type "ArithmeticError"), PySem.W.kitOne K (.ref (He.ga K "InvalidJob")) (.ref (He.ga K "FoundryError"))] : List (Option Bool)) = [some true, some false, some false, some false, some false, some false, some true])) c.more 97 rfl
theorem ex_98 {h : Heap} {K : PySem.W.Frag} (c : LfH.SaysZ fnL tfL (LfH.exA exL) h K) : (decide (([PySem.W.kitOne K (.ref (He.ga K "InvalidLives")) (.type "ValueError"), PySem.W.kitOne K (.ref (He.ga K "InvalidLives")) (.type "KeyError"), PySem.W.kitOne K (.ref (He.ga K "InvalidLives")) (.type "RuntimeError"), PySem.W.kitOne K (.ref (He.ga K "InvalidLives")) (.type "OverflowError"), PySem.W.kitOne K (.ref (He.ga K "InvalidLives")) (.type "IndexError"), PySem.W.kitOne K (.ref (He.ga K "InvalidLives")) (.type "ArithmeticError"), PySem.W.kitOne K (.ref (He.ga K "InvalidLives")) (.ref (He.ga K "FoundryError"))] : List (Option Bool)) = [some true, some false, some false, some false, some false, some false, some true])) = true := LfH.exA_at (f := fun K => decide (([PySem.W.kitOne K (.ref (He.ga K "InvalidLives")) (.type "ValueError"), PySem.W.kitOne K (.ref (He.ga K "InvalidLives")) (.type "KeyError"), PySem.W.kitOne K (.ref (He.ga K "InvalidLives")) (.type "RuntimeError"), PySem.W.kitOne K (.ref (He.ga K "InvalidLives")) (.type "OverflowError"), PySem.W.kitOne K (.ref (He.ga K "InvalidLives")) (.type "IndexError"), PySem.W.kitOne K (.ref (He.ga K "InvalidLives")) (.type "ArithmeticError"), PySem.W.kitOne K (.ref (He.ga K "InvalidLives")) (.ref (He.ga K "FoundryError"))] : List (Option Bool)) = [some true, some false, some false, some false, some false, some false, some true])) c.more 98 rfl
theorem ex_99 {h : Heap} {K : PySem.W.Frag} (c : LfH.SaysZ fnL tfL (LfH.exA exL) h K) : (decide (([PySem.W.kitOne K (.ref (He.ga K "InvalidKernel")) (.type "ValueError"), PySem.W.kitOne K (.ref (He.ga K "InvalidKernel")) (.type "KeyError"), PySem.W.kitOne K (.ref (He.ga K "InvalidKernel")) (.type "RuntimeError"), PySem.W.kitOne K (.ref (He.ga K "InvalidKernel")) (.type "OverflowError"), PySem.W.kitOne K (.ref (He.ga K "InvalidKernel")) (.type "IndexError"), PySem.W.kitOne K (.ref (He.ga K "InvalidKernel")) (.type "ArithmeticError"), PySem.W.kitOne K (.ref (He.ga K "InvalidKernel")) (.ref (He.ga K "FoundryError"))] : List (Option Bool)) = [some true, some false, some false, some false, some false, some false, some true])) = true := LfH.exA_at (f := fun K => decide (([PySem.W.kitOne K (.ref (He.ga K "InvalidKernel")) (.type "ValueError"), PySem.W.kitOne K (.ref (He.ga K "InvalidKernel")) (.type "KeyError"), PySem.W.kitOne K (.ref (He.ga K "InvalidKernel")) (.type "RuntimeError"), PySem.W.kitOne K (.ref (He.ga K "InvalidKernel")) (.type "OverflowError"), PySem.W.kitOne K (.ref (He.ga K "InvalidKernel")) (.type "IndexError"), PySem.W.kitOne K (.ref (He.ga K "InvalidKernel")) (.type "ArithmeticError"), PySem.W.kitOne K (.ref (He.ga K "InvalidKernel")) (.ref (He.ga K "FoundryError"))] : List (Option Bool)) = [some true, some false, some false, some false, some false, some false, some true])) c.more 99 rfl
theorem ex_100 {h : Heap} {K : PySem.W.Frag} (c : LfH.SaysZ fnL tfL (LfH.exA exL) h K) : (decide (([PySem.W.kitOne K (.ref (He.ga K "InvalidArgument")) (.type "ValueError"), PySem.W.kitOne K (.ref (He.ga K "InvalidArgument")) (.type "KeyError"), PySem.W.kitOne K (.ref (He.ga K "InvalidArgument")) (.type "RuntimeError"), PySem.W.kitOne K (.ref (He.ga K "InvalidArgument")) (.type "OverflowError"), PySem.W.kitOne K (.ref (He.ga K "InvalidArgument")) (.type "IndexError"), PySem.W.kitOne K (.ref (He.ga K "InvalidArgument")) (.type "ArithmeticError"), PySem.W.kitOne K (.ref (He.ga K "InvalidArgument")) (.ref (He.ga K "FoundryError"))] : List (Option Bool)) = [some true, some false, some false, some false, some false, some false, some true])) = true := LfH.exA_at (f := fun K => decide (([PySem.W.kitOne K (.ref (He.ga K "InvalidArgument")) (.type "ValueError"), PySem.W.kitOne K (.ref (He.ga K "InvalidArgument")) (.type "KeyError"), PySem.W.kitOne K (.ref (He.ga K "InvalidArgument")) (.type "RuntimeError"), PySem.W.kitOne K (.ref (He.ga K "InvalidArgument")) (.type "OverflowError"), PySem.W.kitOne K (.ref (He.ga K "InvalidArgument")) (.type "IndexError"), PySem.W.kitOne K (.ref (He.ga K "InvalidArgument")) (.type "ArithmeticError"), PySem.W.kitOne K (.ref (He.ga K "InvalidArgument")) (.ref (He.ga K "FoundryError"))] : List (Option Bool)) = [some true, some false, some false, some false, some false, some false, some true])) c.more 100 rfl
theorem ex_101 {h : Heap} {K : PySem.W.Frag} (c : LfH.SaysZ fnL tfL (LfH.exA exL) h K) : (decide (([PySem.W.kitOne K (.ref (He.ga K "ParseError")) (.type "ValueError"), PySem.W.kitOne K (.ref (He.ga K "ParseError")) (.type "KeyError"), PySem.W.kitOne K (.ref (He.ga K "ParseError")) (.type "RuntimeError"), PySem.W.kitOne K (.ref (He.ga K "ParseError")) (.type "OverflowError"), PySem.W.kitOne K (.ref (He.ga K "ParseError")) (.type "IndexError"), PySem.W.kitOne K (.ref (He.ga K "ParseError")) (.type "ArithmeticError"), PySem.W.kitOne K (.ref (He.ga K "ParseError")) (.ref (He.ga K "FoundryError"))] : List (Option Bool)) = [some true, some false, some false, some false, some false, some false, some true])) = true := LfH.exA_at (f := fun K => decide (([PySem.W.kitOne K (.ref (He.ga K "ParseError")) (.type "ValueError"), PySem.W.kitOne K (.ref (He.ga K "ParseError")) (.type "KeyError"), PySem.W.kitOne K (.ref (He.ga K "ParseError")) (.type "RuntimeError"), PySem.W.kitOne K (.ref (He.ga K "ParseError")) (.type "OverflowError"), PySem.W.kitOne K (.ref (He.ga K "ParseError")) (.type "IndexError"), PySem.W.kitOne K (.ref (He.ga K "ParseError")) (.type "ArithmeticError"), PySem.W.kitOne K (.ref (He.ga K "ParseError")) (.ref (He.ga K "FoundryError"))] : List (Option Bool)) = [some true, some false, some false, some false, some false, some false, some true])) c.more 101 rfl
theorem ex_102 {h : Heap} {K : PySem.W.Frag} (c : LfH.SaysZ fnL tfL (LfH.exA exL) h K) : (decide (([PySem.W.kitOne K (.ref (He.ga K "UnknownName")) (.type "ValueError"), PySem.W.kitOne K (.ref (He.ga K "UnknownName")) (.type "KeyError"), PySem.W.kitOne K (.ref (He.ga K "UnknownName")) (.type "RuntimeError"), PySem.W.kitOne K (.ref (He.ga K "UnknownName")) (.type "OverflowError"), PySem.W.kitOne K (.ref (He.ga K "UnknownName")) (.type "IndexError"), PySem.W.kitOne K (.ref (He.ga K "UnknownName")) (.type "ArithmeticError"), PySem.W.kitOne K (.ref (He.ga K "UnknownName")) (.ref (He.ga K "FoundryError"))] : List (Option Bool)) = [some false, some true, some false, some false, some false, some false, some false])) = true := LfH.exA_at (f := fun K => decide (([PySem.W.kitOne K (.ref (He.ga K "UnknownName")) (.type "ValueError"), PySem.W.kitOne K (.ref (He.ga K "UnknownName")) (.type "KeyError"), PySem.W.kitOne K (.ref (He.ga K "UnknownName")) (.type "RuntimeError"), PySem.W.kitOne K (.ref (He.ga K "UnknownName")) (.type "OverflowError"), PySem.W.kitOne K (.ref (He.ga K "UnknownName")) (.type "IndexError"), PySem.W.kitOne K (.ref (He.ga K "UnknownName")) (.type "ArithmeticError"), PySem.W.kitOne K (.ref (He.ga K "UnknownName")) (.ref (He.ga K "FoundryError"))] : List (Option Bool)) = [some false, some true, some false, some false, some false, some false, some false])) c.more 102 rfl
theorem ex_103 {h : Heap} {K : PySem.W.Frag} (c : LfH.SaysZ fnL tfL (LfH.exA exL) h K) : (decide (([PySem.W.kitOne K (.ref (He.ga K "InvalidNumber")) (.type "ValueError"), PySem.W.kitOne K (.ref (He.ga K "InvalidNumber")) (.type "KeyError"), PySem.W.kitOne K (.ref (He.ga K "InvalidNumber")) (.type "RuntimeError"), PySem.W.kitOne K (.ref (He.ga K "InvalidNumber")) (.type "OverflowError"), PySem.W.kitOne K (.ref (He.ga K "InvalidNumber")) (.type "IndexError"), PySem.W.kitOne K (.ref (He.ga K "InvalidNumber")) (.type "ArithmeticError"), PySem.W.kitOne K (.ref (He.ga K "InvalidNumber")) (.ref (He.ga K "FoundryError"))] : List (Option Bool)) = [some false, some false, some true, some false, some false, some false, some false])) = true := LfH.exA_at (f := fun K => decide (([PySem.W.kitOne K (.ref (He.ga K "InvalidNumber")) (.type "ValueError"), PySem.W.kitOne K (.ref (He.ga K "InvalidNumber")) (.type "KeyError"), PySem.W.kitOne K (.ref (He.ga K "InvalidNumber")) (.type "RuntimeError"), PySem.W.kitOne K (.ref (He.ga K "InvalidNumber")) (.type "OverflowError"), PySem.W.kitOne K (.ref (He.ga K "InvalidNumber")) (.type "IndexError"), PySem.W.kitOne K (.ref (He.ga K "InvalidNumber")) (.type "ArithmeticError"), PySem.W.kitOne K (.ref (He.ga K "InvalidNumber")) (.ref (He.ga K "FoundryError"))] : List (Option Bool)) = [some false, some false, some true, some false, some false, some false, some false])) c.more 103 rfl
theorem ex_104 {h : Heap} {K : PySem.W.Frag} (c : LfH.SaysZ fnL tfL (LfH.exA exL) h K) : (decide (([PySem.W.kitOne K (.ref (He.ga K "TooMany")) (.type "ValueError"), PySem.W.kitOne K (.ref (He.ga K "TooMany")) (.type "KeyError"), PySem.W.kitOne K (.ref (He.ga K "TooMany")) (.type "RuntimeError"), PySem.W.kitOne K (.ref (He.ga K "TooMany")) (.type "OverflowError"), PySem.W.kitOne K (.ref (He.ga K "TooMany")) (.type "IndexError"), PySem.W.kitOne K (.ref (He.ga K "TooMany")) (.type "ArithmeticError"), PySem.W.kitOne K (.ref (He.ga K "TooMany")) (.ref (He.ga K "FoundryError"))] : List (Option Bool)) = [some false, some false, some false, some true, some false, some true, some false])) = true := LfH.exA_at (f := fun K => decide (([PySem.W.kitOne K (.ref (He.ga K "TooMany")) (.type "ValueError"), PySem.W.kitOne K (.ref (He.ga K "TooMany")) (.type "KeyError"), PySem.W.kitOne K (.ref (He.ga K "TooMany")) (.type "RuntimeError"), PySem.W.kitOne K (.ref (He.ga K "TooMany")) (.type "OverflowError"), PySem.W.kitOne K (.ref (He.ga K "TooMany")) (.type "IndexError"), PySem.W.kitOne K (.ref (He.ga K "TooMany")) (.type "ArithmeticError"), PySem.W.kitOne K (.ref (He.ga K "TooMany")) (.ref (He.ga K "FoundryError"))] : List (Option Bool)) = [some false, some false, some false, some true, some false, some true, some false])) c.more 104 rfl
theorem ex_105 {h : Heap} {K : PySem.W.Frag} (c : LfH.SaysZ fnL tfL (LfH.exA exL) h K) : (decide (([PySem.W.kitOne K (.ref (He.ga K "NothingToUndo")) (.type "ValueError"), PySem.W.kitOne K (.ref (He.ga K "NothingToUndo")) (.type "KeyError"), PySem.W.kitOne K (.ref (He.ga K "NothingToUndo")) (.type "RuntimeError"), PySem.W.kitOne K (.ref (He.ga K "NothingToUndo")) (.type "OverflowError"), PySem.W.kitOne K (.ref (He.ga K "NothingToUndo")) (.type "IndexError"), PySem.W.kitOne K (.ref (He.ga K "NothingToUndo")) (.type "ArithmeticError"), PySem.W.kitOne K (.ref (He.ga K "NothingToUndo")) (.ref (He.ga K "FoundryError"))] : List (Option Bool)) = [some false, some false, some false, some false, some true, some false, some false])) = true := LfH.exA_at (f := fun K => decide (([PySem.W.kitOne K (.ref (He.ga K "NothingToUndo")) (.type "ValueError"), PySem.W.kitOne K (.ref (He.ga K "NothingToUndo")) (.type "KeyError"), PySem.W.kitOne K (.ref (He.ga K "NothingToUndo")) (.type "RuntimeError"), PySem.W.kitOne K (.ref (He.ga K "NothingToUndo")) (.type "OverflowError"), PySem.W.kitOne K (.ref (He.ga K "NothingToUndo")) (.type "IndexError"), PySem.W.kitOne K (.ref (He.ga K "NothingToUndo")) (.type "ArithmeticError"), PySem.W.kitOne K (.ref (He.ga K "NothingToUndo")) (.ref (He.ga K "FoundryError"))] : List (Option Bool)) = [some false, some false, some false, some false, some true, some false, some false])) c.more 105 rfl
theorem ex_106 {h : Heap} {K : PySem.W.Frag} (c : LfH.SaysZ fnL tfL (LfH.exA exL) h K) : (decide (([PySem.W.kitOne K (.ref (He.ga K "Broken")) (.type "ValueError"), PySem.W.kitOne K (.ref (He.ga K "Broken")) (.type "KeyError"), PySem.W.kitOne K (.ref (He.ga K "Broken")) (.type "RuntimeError"), PySem.W.kitOne K (.ref (He.ga K "Broken")) (.type "OverflowError"), PySem.W.kitOne K (.ref (He.ga K "Broken")) (.type "IndexError"), PySem.W.kitOne K (.ref (He.ga K "Broken")) (.type "ArithmeticError"), PySem.W.kitOne K (.ref (He.ga K "Broken")) (.ref (He.ga K "FoundryError"))] : List (Option Bool)) = [some false, some false, some false, some false, some false, some true, some false])) = true := LfH.exA_at (f := fun K => decide (([PySem.W.kitOne K (.ref (He.ga K "Broken")) (.type "ValueError"), PySem.W.kitOne K (.ref (He.ga K "Broken")) (.type "KeyError"), PySem.W.kitOne K (.ref (He.ga K "Broken")) (.type "RuntimeError"), PySem.W.kitOne K (.ref (He.ga K "Broken")) (.type "OverflowError"), PySem.W.kitOne K (.ref (He.ga K "Broken")) (.type "IndexError"), PySem.W.kitOne K (.ref (He.ga K "Broken")) (.type "ArithmeticError"), PySem.W.kitOne K (.ref (He.ga K "Broken")) (.ref (He.ga K "FoundryError"))] : List (Option Bool)) = [some false, some false, some false, some false, some false, some true, some false])) c.more 106 rfl
theorem ex_107 {h : Heap} {K : PySem.W.Frag} (c : LfH.SaysZ fnL tfL (LfH.exA exL) h K) : (decide (([PySem.W.kitOne K (.ref (He.ga K "InvalidTree")) (.ref (He.ga K "InvalidTree")), PySem.W.kitOne K (.ref (He.ga K "InvalidTree")) (.ref (He.ga K "InvalidBody")), PySem.W.kitOne K (.ref (He.ga K "InvalidTree")) (.ref (He.ga K "InvalidMachine")), PySem.W.kitOne K (.ref (He.ga K "InvalidTree")) (.ref (He.ga K "InvalidCover")), PySem.W.kitOne K (.ref (He.ga K "InvalidTree")) (.ref (He.ga K "InvalidJob")), PySem.W.kitOne K (.ref (He.ga K "InvalidTree")) (.ref (He.ga K "InvalidLives")), PySem.W.kitOne K (.ref (He.ga K "InvalidTree")) (.ref (He.ga K "InvalidKernel")), PySem.W.kitOne K (.ref (He.ga K "InvalidTree")) (.ref (He.ga K "InvalidArgument")), PySem.W.kitOne K (.ref (He.ga K "InvalidTree")) (.ref (He.ga K "ParseError"))] : List (Option Bool)) = [some true, some false, some false, some false, some false, some false, some false, some false, some false])) = true := LfH.exA_at (f := fun K => decide (([PySem.W.kitOne K (.ref (He.ga K "InvalidTree")) (.ref (He.ga K "InvalidTree")), PySem.W.kitOne K (.ref (He.ga K "InvalidTree")) (.ref (He.ga K "InvalidBody")), PySem.W.kitOne K (.ref (He.ga K "InvalidTree")) (.ref (He.ga K "InvalidMachine")), PySem.W.kitOne K (.ref (He.ga K "InvalidTree")) (.ref (He.ga K "InvalidCover")), PySem.W.kitOne K (.ref (He.ga K "InvalidTree")) (.ref (He.ga K "InvalidJob")), PySem.W.kitOne K (.ref (He.ga K "InvalidTree")) (.ref (He.ga K "InvalidLives")), PySem.W.kitOne K (.ref (He.ga K "InvalidTree")) (.ref (He.ga K "InvalidKernel")), PySem.W.kitOne K (.ref (He.ga K "InvalidTree")) (.ref (He.ga K "InvalidArgument")), PySem.W.kitOne K (.ref (He.ga K "InvalidTree")) (.ref (He.ga K "ParseError"))] : List (Option Bool)) = [some true, some false, some false, some false, some false, some false, some false, some false, some false])) c.more 107 rfl
theorem ex_108 {h : Heap} {K : PySem.W.Frag} (c : LfH.SaysZ fnL tfL (LfH.exA exL) h K) : (decide (([PySem.W.kitOne K (.ref (He.ga K "InvalidBody")) (.ref (He.ga K "InvalidTree")), PySem.W.kitOne K (.ref (He.ga K "InvalidBody")) (.ref (He.ga K "InvalidBody")), PySem.W.kitOne K (.ref (He.ga K "InvalidBody")) (.ref (He.ga K "InvalidMachine")), PySem.W.kitOne K (.ref (He.ga K "InvalidBody")) (.ref (He.ga K "InvalidCover")), PySem.W.kitOne K (.ref (He.ga K "InvalidBody")) (.ref (He.ga K "InvalidJob")), PySem.W.kitOne K (.ref (He.ga K "InvalidBody")) (.ref (He.ga K "InvalidLives")), PySem.W.kitOne K (.ref (He.ga K "InvalidBody")) (.ref (He.ga K "InvalidKernel")), PySem.W.kitOne K (.ref (He.ga K "InvalidBody")) (.ref (He.ga K "InvalidArgument")), PySem.W.kitOne K (.ref (He.ga K "InvalidBody")) (.ref (He.ga K "ParseError"))] : List (Option Bool)) = [some false, some true, some false, some false, some false, some false, some false, some false, some false])) = true := LfH.exA_at (f := fun K => decide (([PySem.W.kitOne K (.ref (He.ga K "InvalidBody")) (.ref (He.ga K "InvalidTree")), PySem.W.kitOne K (.ref (He.ga K "InvalidBody")) (.ref (He.ga K "InvalidBody")), PySem.W.kitOne K (.ref (He.ga K "InvalidBody")) (.ref (He.ga K "InvalidMachine")), PySem.W.kitOne K (.ref (He.ga K "InvalidBody")) (.ref (He.ga K "InvalidCover")), PySem.W.kitOne K (.ref (He.ga K "InvalidBody")) (.ref (He.ga K "InvalidJob")), PySem.W.kitOne K (.ref (He.ga K "InvalidBody")) (.ref (He.ga K "InvalidLives")), PySem.W.kitOne K (.ref (He.ga K "InvalidBody")) (.ref (He.ga K "InvalidKernel")), PySem.W.kitOne K (.ref (He.ga K "InvalidBody")) (.ref (He.ga K "InvalidArgument")), PySem.W.kitOne K (.ref (He.ga K "InvalidBody")) (.ref (He.ga K "ParseError"))] : List (Option Bool)) = [some false, some true, some false, some false, some false, some false, some false, some false, some false])) c.more 108 rfl
theorem ex_109 {h : Heap} {K : PySem.W.Frag} (c : LfH.SaysZ fnL tfL (LfH.exA exL) h K) : (decide (([PySem.W.kitOne K (.ref (He.ga K "InvalidMachine")) (.ref (He.ga K "InvalidTree")), PySem.W.kitOne K (.ref (He.ga K "InvalidMachine")) (.ref (He.ga K "InvalidBody")), PySem.W.kitOne K (.ref (He.ga K "InvalidMachine")) (.ref (He.ga K "InvalidMachine")), PySem.W.kitOne K (.ref (He.ga K "InvalidMachine")) (.ref (He.ga K "InvalidCover")), PySem.W.kitOne K (.ref (He.ga K "InvalidMachine")) (.ref (He.ga K "InvalidJob")), PySem.W.kitOne K (.ref (He.ga K "InvalidMachine")) (.ref (He.ga K "InvalidLives")), PySem.W.kitOne K (.ref (He.ga K "InvalidMachine")) (.ref (He.ga K "InvalidKernel")), PySem.W.kitOne K (.ref (He.ga K "InvalidMachine")) (.ref (He.ga K "InvalidArgument")), PySem.W.kitOne K (.ref (He.ga K "InvalidMachine")) (.ref (He.ga K "ParseError"))] : List (Option Bool)) = [some false, some false, some true, some false, some false, some false, some false, some false, some false])) = true := LfH.exA_at (f := fun K => decide (([PySem.W.kitOne K (.ref (He.ga K "InvalidMachine")) (.ref (He.ga K "InvalidTree")), PySem.W.kitOne K (.ref (He.ga K "InvalidMachine")) (.ref (He.ga K "InvalidBody")), PySem.W.kitOne K (.ref (He.ga K "InvalidMachine")) (.ref (He.ga K "InvalidMachine")), PySem.W.kitOne K (.ref (He.ga K "InvalidMachine")) (.ref (He.ga K "InvalidCover")), PySem.W.kitOne K (.ref (He.ga K "InvalidMachine")) (.ref (He.ga K "InvalidJob")), PySem.W.kitOne K (.ref (He.ga K "InvalidMachine")) (.ref (He.ga K "InvalidLives")), PySem.W.kitOne K (.ref (He.ga K "InvalidMachine")) (.ref (He.ga K "InvalidKernel")), PySem.W.kitOne K (.ref (He.ga K "InvalidMachine")) (.ref (He.ga K "InvalidArgument")), PySem.W.kitOne K (.ref (He.ga K "InvalidMachine")) (.ref (He.ga K "ParseError"))] : List (Option Bool)) = [some false, some false, some true, some false, some false, some false, some false, some false, some false])) c.more 109 rfl
theorem ex_110 {h : Heap} {K : PySem.W.Frag} (c : LfH.SaysZ fnL tfL (LfH.exA exL) h K) : (decide (([PySem.W.kitOne K (.ref (He.ga K "InvalidCover")) (.ref (He.ga K "InvalidTree")), PySem.W.kitOne K (.ref (He.ga K "InvalidCover")) (.ref (He.ga K "InvalidBody")), PySem.W.kitOne K (.ref (He.ga K "InvalidCover")) (.ref (He.ga K "InvalidMachine")), PySem.W.kitOne K (.ref (He.ga K "InvalidCover")) (.ref (He.ga K "InvalidCover")), PySem.W.kitOne K (.ref (He.ga K "InvalidCover")) (.ref (He.ga K "InvalidJob")), PySem.W.kitOne K (.ref (He.ga K "InvalidCover")) (.ref (He.ga K "InvalidLives")), PySem.W.kitOne K (.ref (He.ga K "InvalidCover")) (.ref (He.ga K "InvalidKernel")), PySem.W.kitOne K (.ref (He.ga K "InvalidCover")) (.ref (He.ga K "InvalidArgument")), PySem.W.kitOne K (.ref (He.ga K "InvalidCover")) (.ref (He.ga K "ParseError"))] : List (Option Bool)) = [some false, some false, some false, some true, some false, some false, some false, some false, some false])) = true := LfH.exA_at (f := fun K => decide (([PySem.W.kitOne K (.ref (He.ga K "InvalidCover")) (.ref (He.ga K "InvalidTree")), PySem.W.kitOne K (.ref (He.ga K "InvalidCover")) (.ref (He.ga K "InvalidBody")), PySem.W.kitOne K (.ref (He.ga K "InvalidCover")) (.ref (He.ga K "InvalidMachine")), PySem.W.kitOne K (.ref (He.ga K "InvalidCover")) (.ref (He.ga K "InvalidCover")), PySem.W.kitOne K (.ref (He.ga K "InvalidCover")) (.ref (He.ga K "InvalidJob")), PySem.W.kitOne K (.ref (He.ga K "InvalidCover")) (.ref (He.ga K "InvalidLives")), PySem.W.kitOne K (.ref (He.ga K "InvalidCover")) (.ref (He.ga K "InvalidKernel")), PySem.W.kitOne K (.ref (He.ga K "InvalidCover")) (.ref (He.ga K "InvalidArgument")), PySem.W.kitOne K (.ref (He.ga K "InvalidCover")) (.ref (He.ga K "ParseError"))] : List (Option Bool)) = [some false, some false, some false, some true, some false, some false, some false, some false, some false])) c.more 110 rfl
theorem ex_111 {h : Heap} {K : PySem.W.Frag} (c : LfH.SaysZ fnL tfL (LfH.exA exL) h K) : (decide (([PySem.W.kitOne K (.ref (He.ga K "InvalidJob")) (.ref (He.ga K "InvalidTree")), PySem.W.kitOne K (.ref (He.ga K "InvalidJob")) (.ref (He.ga K "InvalidBody")), PySem.W.kitOne K (.ref (He.ga K "InvalidJob")) (.ref (He.ga K "InvalidMachine")), PySem.W.kitOne K (.ref (He.ga K "InvalidJob")) (.ref (He.ga K "InvalidCover")), PySem.W.kitOne K (.ref (He.ga K "InvalidJob")) (.ref (He.ga K "InvalidJob")), PySem.W.kitOne K (.ref (He.ga K "InvalidJob")) (.ref (He.ga K "InvalidLives")), PySem.W.kitOne K (.ref (He.ga K "InvalidJob")) (.ref (He.ga K "InvalidKernel")), PySem.W.kitOne K (.ref (He.ga K "InvalidJob")) (.ref (He.ga K "InvalidArgument")), PySem.W.kitOne K (.ref (He.ga K "InvalidJob")) (.ref (He.ga K "ParseError"))] : List (Option Bool)) = [some false, some false, some false, some false, some true, some false, some false, some false, some false])) = true := LfH.exA_at (f := fun K => decide (([PySem.W.kitOne K (.ref (He.ga K "InvalidJob")) (.ref (He.ga K "InvalidTree")), PySem.W.kitOne K (.ref (He.ga K "InvalidJob")) (.ref (He.ga K "InvalidBody")), PySem.W.kitOne K (.ref (He.ga K "InvalidJob")) (.ref (He.ga K "InvalidMachine")), PySem.W.kitOne K (.ref (He.ga K "InvalidJob")) (.ref (He.ga K "InvalidCover")), PySem.W.kitOne K (.ref (He.ga K "InvalidJob")) (.ref (He.ga K "InvalidJob")), PySem.W.kitOne K (.ref (He.ga K "InvalidJob")) (.ref (He.ga K "InvalidLives")), PySem.W.kitOne K (.ref (He.ga K "InvalidJob")) (.ref (He.ga K "InvalidKernel")), PySem.W.kitOne K (.ref (He.ga K "InvalidJob")) (.ref (He.ga K "InvalidArgument")), PySem.W.kitOne K (.ref (He.ga K "InvalidJob")) (.ref (He.ga K "ParseError"))] : List (Option Bool)) = [some false, some false, some false, some false, some true, some false, some false, some false, some false])) c.more 111 rfl
theorem ex_112 {h : Heap} {K : PySem.W.Frag} (c : LfH.SaysZ fnL tfL (LfH.exA exL) h K) : (decide (([PySem.W.kitOne K (.ref (He.ga K "InvalidLives")) (.ref (He.ga K "InvalidTree")), PySem.W.kitOne K (.ref (He.ga K "InvalidLives")) (.ref (He.ga K "InvalidBody")), PySem.W.kitOne K (.ref (He.ga K "InvalidLives")) (.ref (He.ga K "InvalidMachine")), PySem.W.kitOne K (.ref (He.ga K "InvalidLives")) (.ref (He.ga K "InvalidCover")), PySem.W.kitOne K (.ref (He.ga K "InvalidLives")) (.ref (He.ga K "InvalidJob")), PySem.W.kitOne K (.ref (He.ga K "InvalidLives")) (.ref (He.ga K "InvalidLives")), PySem.W.kitOne K (.ref (He.ga K "InvalidLives")) (.ref (He.ga K "InvalidKernel")), PySem.W.kitOne K (.ref (He.ga K "InvalidLives")) (.ref (He.ga K "InvalidArgument")), PySem.W.kitOne K (.ref (He.ga K "InvalidLives")) (.ref (He.ga K "ParseError"))] : List (Option Bool)) = [some false, some false, some false, some false, some false, some true, some false, some false, some false])) = true := LfH.exA_at (f := fun K => decide (([PySem.W.kitOne K (.ref (He.ga K "InvalidLives")) (.ref (He.ga K "InvalidTree")), PySem.W.kitOne K (.ref (He.ga K "InvalidLives")) (.ref (He.ga K "InvalidBody")), PySem.W.kitOne K (.ref (He.ga K "InvalidLives")) (.ref (He.ga K "InvalidMachine")), PySem.W.kitOne K (.ref (He.ga K "InvalidLives")) (.ref (He.ga K "InvalidCover")), PySem.W.kitOne K (.ref (He.ga K "InvalidLives")) (.ref (He.ga K "InvalidJob")), PySem.W.kitOne K (.ref (He.ga K "InvalidLives")) (.ref (He.ga K "InvalidLives")), PySem.W.kitOne K (.ref (He.ga K "InvalidLives")) (.ref (He.ga K "InvalidKernel")), PySem.W.kitOne K (.ref (He.ga K "InvalidLives")) (.ref (He.ga K "InvalidArgument")), PySem.W.kitOne K (.ref (He.ga K "InvalidLives")) (.ref (He.ga K "ParseError"))] : List (Option Bool)) = [some false, some false, some false, some false, some false, some true, some false, some false, some false])) c.more 112 rfl
theorem ex_113 {h : Heap} {K : PySem.W.Frag} (c : LfH.SaysZ fnL tfL (LfH.exA exL) h K) : (decide (([PySem.W.kitOne K (.ref (He.ga K "InvalidKernel")) (.ref (He.ga K "InvalidTree")), PySem.W.kitOne K (.ref (He.ga K "InvalidKernel")) (.ref (He.ga K "InvalidBody")), PySem.W.kitOne K (.ref (He.ga K "InvalidKernel")) (.ref (He.ga K "InvalidMachine")), PySem.W.kitOne K (.ref (He.ga K "InvalidKernel")) (.ref (He.ga K "InvalidCover")), PySem.W.kitOne K (.ref (He.ga K "InvalidKernel")) (.ref (He.ga K "InvalidJob")), PySem.W.kitOne K (.ref (He.ga K "InvalidKernel")) (.ref (He.ga K "InvalidLives")), PySem.W.kitOne K (.ref (He.ga K "InvalidKernel")) (.ref (He.ga K "InvalidKernel")), PySem.W.kitOne K (.ref (He.ga K "InvalidKernel")) (.ref (He.ga K "InvalidArgument")), PySem.W.kitOne K (.ref (He.ga K "InvalidKernel")) (.ref (He.ga K "ParseError"))] : List (Option Bool)) = [some false, some false, some false, some false, some false, some false, some true, some false, some false])) = true := LfH.exA_at (f := fun K => decide (([PySem.W.kitOne K (.ref (He.ga K "InvalidKernel")) (.ref (He.ga K "InvalidTree")), PySem.W.kitOne K (.ref (He.ga K "InvalidKernel")) (.ref (He.ga K "InvalidBody")), PySem.W.kitOne K (.ref (He.ga K "InvalidKernel")) (.ref (He.ga K "InvalidMachine")), PySem.W.kitOne K (.ref (He.ga K "InvalidKernel")) (.ref (He.ga K "InvalidCover")), PySem.W.kitOne K (.ref (He.ga K "InvalidKernel")) (.ref (He.ga K "InvalidJob")), PySem.W.kitOne K (.ref (He.ga K "InvalidKernel")) (.ref (He.ga K "InvalidLives")), PySem.W.kitOne K (.ref (He.ga K "InvalidKernel")) (.ref (He.ga K "InvalidKernel")), PySem.W.kitOne K (.ref (He.ga K "InvalidKernel")) (.ref (He.ga K "InvalidArgument")), PySem.W.kitOne K (.ref (He.ga K "InvalidKernel")) (.ref (He.ga K "ParseError"))] : List (Option Bool)) = [some false, some false, some false, some false, some false, some false, some true, some false, some false])) c.more 113 rfl
theorem ex_114 {h : Heap} {K : PySem.W.Frag} (c : LfH.SaysZ fnL tfL (LfH.exA exL) h K) : (decide (([PySem.W.kitOne K (.ref (He.ga K "InvalidArgument")) (.ref (He.ga K "InvalidTree")), PySem.W.kitOne K (.ref (He.ga K "InvalidArgument")) (.ref (He.ga K "InvalidBody")), PySem.W.kitOne K (.ref (He.ga K "InvalidArgument")) (.ref (He.ga K "InvalidMachine")), PySem.W.kitOne K (.ref (He.ga K "InvalidArgument")) (.ref (He.ga K "InvalidCover")), PySem.W.kitOne K (.ref (He.ga K "InvalidArgument")) (.ref (He.ga K "InvalidJob")), PySem.W.kitOne K (.ref (He.ga K "InvalidArgument")) (.ref (He.ga K "InvalidLives")), PySem.W.kitOne K (.ref (He.ga K "InvalidArgument")) (.ref (He.ga K "InvalidKernel")), PySem.W.kitOne K (.ref (He.ga K "InvalidArgument")) (.ref (He.ga K "InvalidArgument")), PySem.W.kitOne K (.ref (He.ga K "InvalidArgument")) (.ref (He.ga K "ParseError"))] : List (Option Bool)) = [some false, some false, some false, some false, some false, some false, some false, some true, some false])) = true := LfH.exA_at (f := fun K => decide (([PySem.W.kitOne K (.ref (He.ga K "InvalidArgument")) (.ref (He.ga K "InvalidTree")), PySem.W.kitOne K (.ref (He.ga K "InvalidArgument")) (.ref (He.ga K "InvalidBody")), PySem.W.kitOne K (.ref (He.ga K "InvalidArgument")) (.ref (He.ga K "InvalidMachine")), PySem.W.kitOne K (.ref (He.ga K "InvalidArgument")) (.ref (He.ga K "InvalidCover")), PySem.W.kitOne K (.ref (He.ga K "InvalidArgument")) (.ref (He.ga K "InvalidJob")), PySem.W.kitOne K (.ref (He.ga K "InvalidArgument")) (.ref (He.ga K "InvalidLives")), PySem.W.kitOne K (.ref (He.ga K "InvalidArgument")) (.ref (He.ga K "InvalidKernel")), PySem.W.kitOne K (.ref (He.ga K "InvalidArgument")) (.ref (He.ga K "InvalidArgument")), PySem.W.kitOne K (.ref (He.ga K "InvalidArgument")) (.ref (He.ga K "ParseError"))] : List (Option Bool)) = [some false, some false, some false, some false, some false, some false, some false, some true, some false])) c.more 114 rfl
theorem ex_115 {h : Heap} {K : PySem.W.Frag} (c : LfH.SaysZ fnL tfL (LfH.exA exL) h K) : (decide (([PySem.W.kitOne K (.ref (He.ga K "ParseError")) (.ref (He.ga K "InvalidTree")), PySem.W.kitOne K (.ref (He.ga K "ParseError")) (.ref (He.ga K "InvalidBody")), PySem.W.kitOne K (.ref (He.ga K "ParseError")) (.ref (He.ga K "InvalidMachine")), PySem.W.kitOne K (.ref (He.ga K "ParseError")) (.ref (He.ga K "InvalidCover")), PySem.W.kitOne K (.ref (He.ga K "ParseError")) (.ref (He.ga K "InvalidJob")), PySem.W.kitOne K (.ref (He.ga K "ParseError")) (.ref (He.ga K "InvalidLives")), PySem.W.kitOne K (.ref (He.ga K "ParseError")) (.ref (He.ga K "InvalidKernel")), PySem.W.kitOne K (.ref (He.ga K "ParseError")) (.ref (He.ga K "InvalidArgument")), PySem.W.kitOne K (.ref (He.ga K "ParseError")) (.ref (He.ga K "ParseError"))] : List (Option Bool)) = [some false, some false, some false, some false, some false, some false, some false, some false, some true])) = true := LfH.exA_at (f := fun K => decide (([PySem.W.kitOne K (.ref (He.ga K "ParseError")) (.ref (He.ga K "InvalidTree")), PySem.W.kitOne K (.ref (He.ga K "ParseError")) (.ref (He.ga K "InvalidBody")), PySem.W.kitOne K (.ref (He.ga K "ParseError")) (.ref (He.ga K "InvalidMachine")), PySem.W.kitOne K (.ref (He.ga K "ParseError")) (.ref (He.ga K "InvalidCover")), PySem.W.kitOne K (.ref (He.ga K "ParseError")) (.ref (He.ga K "InvalidJob")), PySem.W.kitOne K (.ref (He.ga K "ParseError")) (.ref (He.ga K "InvalidLives")), PySem.W.kitOne K (.ref (He.ga K "ParseError")) (.ref (He.ga K "InvalidKernel")), PySem.W.kitOne K (.ref (He.ga K "ParseError")) (.ref (He.ga K "InvalidArgument")), PySem.W.kitOne K (.ref (He.ga K "ParseError")) (.ref (He.ga K "ParseError"))] : List (Option Bool)) = [some false, some false, some false, some false, some false, some false, some false, some false, some true])) c.more 115 rfl
theorem ex_116 {h : Heap} {K : PySem.W.Frag} (c : LfH.SaysZ fnL tfL (LfH.exA exL) h K) : (xfB K (He.ga K "ParseError")) = true := LfH.exA_at (f := fun K => xfB K (He.ga K "ParseError")) c.more 116 rfl
theorem ex_117 {h : Heap} {K : PySem.W.Frag} (c : LfH.SaysZ fnL tfL (LfH.exA exL) h K) : (xfB K (He.ga K "UnknownName")) = true := LfH.exA_at (f := fun K => xfB K (He.ga K "UnknownName")) c.more 117 rfl
theorem ex_118 {h : Heap} {K : PySem.W.Frag} (c : LfH.SaysZ fnL tfL (LfH.exA exL) h K) : (xfB K (He.ga K "InvalidNumber")) = true := LfH.exA_at (f := fun K => xfB K (He.ga K "InvalidNumber")) c.more 118 rfl
theorem ex_119 {h : Heap} {K : PySem.W.Frag} (c : LfH.SaysZ fnL tfL (LfH.exA exL) h K) : (xfB K (He.ga K "TooMany")) = true := LfH.exA_at (f := fun K => xfB K (He.ga K "TooMany")) c.more 119 rfl
theorem ex_120 {h : Heap} {K : PySem.W.Frag} (c : LfH.SaysZ fnL tfL (LfH.exA exL) h K) : (xfB K (He.ga K "NothingToUndo")) = true := LfH.exA_at (f := fun K => xfB K (He.ga K "NothingToUndo")) c.more 120 rfl
theorem ex_121 {h : Heap} {K : PySem.W.Frag} (c : LfH.SaysZ fnL tfL (LfH.exA exL) h K) : (xfB K (He.ga K "Broken")) = true := LfH.exA_at (f := fun K => xfB K (He.ga K "Broken")) c.more 121 rfl
theorem ex_122 {h : Heap} {K : PySem.W.Frag} (c : LfH.SaysZ fnL tfL (LfH.exA exL) h K) : (decide (PySem.W.exmOne K (.ref (He.ga K "InvalidNumber")) (.ref (He.ga K "InvalidNumber")) = some true)) = true := LfH.exA_at (f := fun K => decide (PySem.W.exmOne K (.ref (He.ga K "InvalidNumber")) (.ref (He.ga K "InvalidNumber")) = some true)) c.more 122 rfl
theorem chain {P : Program} {w : World} {K : PySem.W.Frag} {mg : Str → Option Value} {base : Heap} {CN fIN X0 X1 X2 X3 X4 X5 X6 X7 XF CP fIP CU fIU CM fIM CI fII CB fIB : Addr} {cT0 T0 : Addr} {f0 : Addr} {fd : FuncData} (T : TxR P K mg CN fIN X0 X1 X2 X3 X4 X5 X6 X7 XF CP fIP CU fIU CM fIM CI fII CB fIB)
    (E_is_name : Df K mg "is_name" s_is_name)
    (E_is_number : Df K mg "is_number" s_is_number)
    (E_is_integer : Df K mg "is_integer" s_is_integer)
    (E_is_within : Df K mg "is_within" s_is_within)
    (E_require_integer : Df K mg "require_integer" s_require_integer)
    (E_require_within : Df K mg "require_within" s_require_within)
    (E_require_interval : Df K mg "require_interval" s_require_interval)
    (E_slot_in : Df K mg "slot_in" s_slot_in)
    (E_rounded_in : Df K mg "rounded_in" s_rounded_in)
    (E_slot_of : Df K mg "slot_of" s_slot_of)
    (E_rounded_up : Df K mg "rounded_up" s_rounded_up)
    (E_law_loom : Df K mg "_law_loom" s_law_loom)
    (E_law_turn : Df K mg "_law_turn" s_law_turn)
    (E_law_pick : Df K mg "_law_pick" s_law_pick)
    (E_law_is_told : Df K mg "_law_is_told" s_law_is_told)
    (E_law_families : Df K mg "_law_families" s_law_families)
    (E_law_errors_right : Df K mg "_law_errors_right" s_law_errors_right)
    (E_law_word : Df K mg "_law_word" s_law_word)
    (E_law_names_right : Df K mg "_law_names_right" s_law_names_right)
    (E_law_slots_right : Df K mg "_law_slots_right" s_law_slots_right)
    (C_law_refused_right : LfT.DfC K mg "_law_refused_right" s_law_refused_right cT0)
    (fe0 : ExcC K X0)
    (fe1 : ExcC K X1)
    (fe2 : ExcC K X2)
    (fe3 : ExcC K X3)
    (fe4 : ExcC K X4)
    (fe5 : ExcC K X5)
    (fe6 : ExcC K X6)
    (fe7 : ExcC K X7)
    (feP : ExcC K CP)
    (feU : ExcC K CU)
    (feN : ExcC K CN)
    (feM : ExcC K CM)
    (feI : ExcC K CI)
    (feB : ExcC K CB)
    (fk0 : ([PySem.W.kitOne K (.ref X0) (.type "ValueError"), PySem.W.kitOne K (.ref X0) (.type "KeyError"), PySem.W.kitOne K (.ref X0) (.type "RuntimeError"), PySem.W.kitOne K (.ref X0) (.type "OverflowError"), PySem.W.kitOne K (.ref X0) (.type "IndexError"), PySem.W.kitOne K (.ref X0) (.type "ArithmeticError"), PySem.W.kitOne K (.ref X0) (.ref XF)] : List (Option Bool)) = [some true, some false, some false, some false, some false, some false, some true])
    (fk1 : ([PySem.W.kitOne K (.ref X1) (.type "ValueError"), PySem.W.kitOne K (.ref X1) (.type "KeyError"), PySem.W.kitOne K (.ref X1) (.type "RuntimeError"), PySem.W.kitOne K (.ref X1) (.type "OverflowError"), PySem.W.kitOne K (.ref X1) (.type "IndexError"), PySem.W.kitOne K (.ref X1) (.type "ArithmeticError"), PySem.W.kitOne K (.ref X1) (.ref XF)] : List (Option Bool)) = [some true, some false, some false, some false, some false, some false, some true])
    (fk2 : ([PySem.W.kitOne K (.ref X2) (.type "ValueError"), PySem.W.kitOne K (.ref X2) (.type "KeyError"), PySem.W.kitOne K (.ref X2) (.type "RuntimeError"), PySem.W.kitOne K (.ref X2) (.type "OverflowError"), PySem.W.kitOne K (.ref X2) (.type "IndexError"), PySem.W.kitOne K (.ref X2) (.type "ArithmeticError"), PySem.W.kitOne K (.ref X2) (.ref XF)] : List (Option Bool)) = [some true, some false, some false, some false, some false, some false, some true])
    (fk3 : ([PySem.W.kitOne K (.ref X3) (.type "ValueError"), PySem.W.kitOne K (.ref X3) (.type "KeyError"), PySem.W.kitOne K (.ref X3) (.type "RuntimeError"), PySem.W.kitOne K (.ref X3) (.type "OverflowError"), PySem.W.kitOne K (.ref X3) (.type "IndexError"), PySem.W.kitOne K (.ref X3) (.type "ArithmeticError"), PySem.W.kitOne K (.ref X3) (.ref XF)] : List (Option Bool)) = [some true, some false, some false, some false, some false, some false, some true])
    (fk4 : ([PySem.W.kitOne K (.ref X4) (.type "ValueError"), PySem.W.kitOne K (.ref X4) (.type "KeyError"), PySem.W.kitOne K (.ref X4) (.type "RuntimeError"), PySem.W.kitOne K (.ref X4) (.type "OverflowError"), PySem.W.kitOne K (.ref X4) (.type "IndexError"), PySem.W.kitOne K (.ref X4) (.type "ArithmeticError"), PySem.W.kitOne K (.ref X4) (.ref XF)] : List (Option Bool)) = [some true, some false, some false, some false, some false, some false, some true])
    (fk5 : ([PySem.W.kitOne K (.ref X5) (.type "ValueError"), PySem.W.kitOne K (.ref X5) (.type "KeyError"), PySem.W.kitOne K (.ref X5) (.type "RuntimeError"), PySem.W.kitOne K (.ref X5) (.type "OverflowError"), PySem.W.kitOne K (.ref X5) (.type "IndexError"), PySem.W.kitOne K (.ref X5) (.type "ArithmeticError"), PySem.W.kitOne K (.ref X5) (.ref XF)] : List (Option Bool)) = [some true, some false, some false, some false, some false, some false, some true])
    (fk6 : ([PySem.W.kitOne K (.ref X6) (.type "ValueError"), PySem.W.kitOne K (.ref X6) (.type "KeyError"), PySem.W.kitOne K (.ref X6) (.type "RuntimeError"), PySem.W.kitOne K (.ref X6) (.type "OverflowError"), PySem.W.kitOne K (.ref X6) (.type "IndexError"), PySem.W.kitOne K (.ref X6) (.type "ArithmeticError"), PySem.W.kitOne K (.ref X6) (.ref XF)] : List (Option Bool)) = [some true, some false, some false, some false, some false, some false, some true])
    (fk7 : ([PySem.W.kitOne K (.ref X7) (.type "ValueError"), PySem.W.kitOne K (.ref X7) (.type "KeyError"), PySem.W.kitOne K (.ref X7) (.type "RuntimeError"), PySem.W.kitOne K (.ref X7) (.type "OverflowError"), PySem.W.kitOne K (.ref X7) (.type "IndexError"), PySem.W.kitOne K (.ref X7) (.type "ArithmeticError"), PySem.W.kitOne K (.ref X7) (.ref XF)] : List (Option Bool)) = [some true, some false, some false, some false, some false, some false, some true])
    (fkP : ([PySem.W.kitOne K (.ref CP) (.type "ValueError"), PySem.W.kitOne K (.ref CP) (.type "KeyError"), PySem.W.kitOne K (.ref CP) (.type "RuntimeError"), PySem.W.kitOne K (.ref CP) (.type "OverflowError"), PySem.W.kitOne K (.ref CP) (.type "IndexError"), PySem.W.kitOne K (.ref CP) (.type "ArithmeticError"), PySem.W.kitOne K (.ref CP) (.ref XF)] : List (Option Bool)) = [some true, some false, some false, some false, some false, some false, some true])
    (fkU : ([PySem.W.kitOne K (.ref CU) (.type "ValueError"), PySem.W.kitOne K (.ref CU) (.type "KeyError"), PySem.W.kitOne K (.ref CU) (.type "RuntimeError"), PySem.W.kitOne K (.ref CU) (.type "OverflowError"), PySem.W.kitOne K (.ref CU) (.type "IndexError"), PySem.W.kitOne K (.ref CU) (.type "ArithmeticError"), PySem.W.kitOne K (.ref CU) (.ref XF)] : List (Option Bool)) = [some false, some true, some false, some false, some false, some false, some false])
    (fkN : ([PySem.W.kitOne K (.ref CN) (.type "ValueError"), PySem.W.kitOne K (.ref CN) (.type "KeyError"), PySem.W.kitOne K (.ref CN) (.type "RuntimeError"), PySem.W.kitOne K (.ref CN) (.type "OverflowError"), PySem.W.kitOne K (.ref CN) (.type "IndexError"), PySem.W.kitOne K (.ref CN) (.type "ArithmeticError"), PySem.W.kitOne K (.ref CN) (.ref XF)] : List (Option Bool)) = [some false, some false, some true, some false, some false, some false, some false])
    (fkM : ([PySem.W.kitOne K (.ref CM) (.type "ValueError"), PySem.W.kitOne K (.ref CM) (.type "KeyError"), PySem.W.kitOne K (.ref CM) (.type "RuntimeError"), PySem.W.kitOne K (.ref CM) (.type "OverflowError"), PySem.W.kitOne K (.ref CM) (.type "IndexError"), PySem.W.kitOne K (.ref CM) (.type "ArithmeticError"), PySem.W.kitOne K (.ref CM) (.ref XF)] : List (Option Bool)) = [some false, some false, some false, some true, some false, some true, some false])
    (fkI : ([PySem.W.kitOne K (.ref CI) (.type "ValueError"), PySem.W.kitOne K (.ref CI) (.type "KeyError"), PySem.W.kitOne K (.ref CI) (.type "RuntimeError"), PySem.W.kitOne K (.ref CI) (.type "OverflowError"), PySem.W.kitOne K (.ref CI) (.type "IndexError"), PySem.W.kitOne K (.ref CI) (.type "ArithmeticError"), PySem.W.kitOne K (.ref CI) (.ref XF)] : List (Option Bool)) = [some false, some false, some false, some false, some true, some false, some false])
    (fkB : ([PySem.W.kitOne K (.ref CB) (.type "ValueError"), PySem.W.kitOne K (.ref CB) (.type "KeyError"), PySem.W.kitOne K (.ref CB) (.type "RuntimeError"), PySem.W.kitOne K (.ref CB) (.type "OverflowError"), PySem.W.kitOne K (.ref CB) (.type "IndexError"), PySem.W.kitOne K (.ref CB) (.type "ArithmeticError"), PySem.W.kitOne K (.ref CB) (.ref XF)] : List (Option Bool)) = [some false, some false, some false, some false, some false, some true, some false])
    (fm0 : ([PySem.W.kitOne K (.ref X0) (.ref X0), PySem.W.kitOne K (.ref X0) (.ref X1), PySem.W.kitOne K (.ref X0) (.ref X2), PySem.W.kitOne K (.ref X0) (.ref X3), PySem.W.kitOne K (.ref X0) (.ref X4), PySem.W.kitOne K (.ref X0) (.ref X5), PySem.W.kitOne K (.ref X0) (.ref X6), PySem.W.kitOne K (.ref X0) (.ref X7), PySem.W.kitOne K (.ref X0) (.ref CP)] : List (Option Bool)) = [some true, some false, some false, some false, some false, some false, some false, some false, some false])
    (fm1 : ([PySem.W.kitOne K (.ref X1) (.ref X0), PySem.W.kitOne K (.ref X1) (.ref X1), PySem.W.kitOne K (.ref X1) (.ref X2), PySem.W.kitOne K (.ref X1) (.ref X3), PySem.W.kitOne K (.ref X1) (.ref X4), PySem.W.kitOne K (.ref X1) (.ref X5), PySem.W.kitOne K (.ref X1) (.ref X6), PySem.W.kitOne K (.ref X1) (.ref X7), PySem.W.kitOne K (.ref X1) (.ref CP)] : List (Option Bool)) = [some false, some true, some false, some false, some false, some false, some false, some false, some false])
    (fm2 : ([PySem.W.kitOne K (.ref X2) (.ref X0), PySem.W.kitOne K (.ref X2) (.ref X1), PySem.W.kitOne K (.ref X2) (.ref X2), PySem.W.kitOne K (.ref X2) (.ref X3), PySem.W.kitOne K (.ref X2) (.ref X4), PySem.W.kitOne K (.ref X2) (.ref X5), PySem.W.kitOne K (.ref X2) (.ref X6), PySem.W.kitOne K (.ref X2) (.ref X7), PySem.W.kitOne K (.ref X2) (.ref CP)] : List (Option Bool)) = [some false, some false, some true, some false, some false, some false, some false, some false, some false])
    (fm3 : ([PySem.W.kitOne K (.ref X3) (.ref X0), PySem.W.kitOne K (.ref X3) (.ref X1), PySem.W.kitOne K (.ref X3) (.ref X2), PySem.W.kitOne K (.ref X3) (.ref X3), PySem.W.kitOne K (.ref X3) (.ref X4), PySem.W.kitOne K (.ref X3) (.ref X5), PySem.W.kitOne K (.ref X3) (.ref X6), PySem.W.kitOne K (.ref X3) (.ref X7), PySem.W.kitOne K (.ref X3) (.ref CP)] : List (Option Bool)) = [some false, some false, some false, some true, some false, some false, some false, some false, some false])
    (fm4 : ([PySem.W.kitOne K (.ref X4) (.ref X0), PySem.W.kitOne K (.ref X4) (.ref X1), PySem.W.kitOne K (.ref X4) (.ref X2), PySem.W.kitOne K (.ref X4) (.ref X3), PySem.W.kitOne K (.ref X4) (.ref X4), PySem.W.kitOne K (.ref X4) (.ref X5), PySem.W.kitOne K (.ref X4) (.ref X6), PySem.W.kitOne K (.ref X4) (.ref X7), PySem.W.kitOne K (.ref X4) (.ref CP)] : List (Option Bool)) = [some false, some false, some false, some false, some true, some false, some false, some false, some false])
    (fm5 : ([PySem.W.kitOne K (.ref X5) (.ref X0), PySem.W.kitOne K (.ref X5) (.ref X1), PySem.W.kitOne K (.ref X5) (.ref X2), PySem.W.kitOne K (.ref X5) (.ref X3), PySem.W.kitOne K (.ref X5) (.ref X4), PySem.W.kitOne K (.ref X5) (.ref X5), PySem.W.kitOne K (.ref X5) (.ref X6), PySem.W.kitOne K (.ref X5) (.ref X7), PySem.W.kitOne K (.ref X5) (.ref CP)] : List (Option Bool)) = [some false, some false, some false, some false, some false, some true, some false, some false, some false])
    (fm6 : ([PySem.W.kitOne K (.ref X6) (.ref X0), PySem.W.kitOne K (.ref X6) (.ref X1), PySem.W.kitOne K (.ref X6) (.ref X2), PySem.W.kitOne K (.ref X6) (.ref X3), PySem.W.kitOne K (.ref X6) (.ref X4), PySem.W.kitOne K (.ref X6) (.ref X5), PySem.W.kitOne K (.ref X6) (.ref X6), PySem.W.kitOne K (.ref X6) (.ref X7), PySem.W.kitOne K (.ref X6) (.ref CP)] : List (Option Bool)) = [some false, some false, some false, some false, some false, some false, some true, some false, some false])
    (fm7 : ([PySem.W.kitOne K (.ref X7) (.ref X0), PySem.W.kitOne K (.ref X7) (.ref X1), PySem.W.kitOne K (.ref X7) (.ref X2), PySem.W.kitOne K (.ref X7) (.ref X3), PySem.W.kitOne K (.ref X7) (.ref X4), PySem.W.kitOne K (.ref X7) (.ref X5), PySem.W.kitOne K (.ref X7) (.ref X6), PySem.W.kitOne K (.ref X7) (.ref X7), PySem.W.kitOne K (.ref X7) (.ref CP)] : List (Option Bool)) = [some false, some false, some false, some false, some false, some false, some false, some true, some false])
    (fmP : ([PySem.W.kitOne K (.ref CP) (.ref X0), PySem.W.kitOne K (.ref CP) (.ref X1), PySem.W.kitOne K (.ref CP) (.ref X2), PySem.W.kitOne K (.ref CP) (.ref X3), PySem.W.kitOne K (.ref CP) (.ref X4), PySem.W.kitOne K (.ref CP) (.ref X5), PySem.W.kitOne K (.ref CP) (.ref X6), PySem.W.kitOne K (.ref CP) (.ref X7), PySem.W.kitOne K (.ref CP) (.ref CP)] : List (Option Bool)) = [some false, some false, some false, some false, some false, some false, some false, some false, some true])
    (fxP : XfC K CP)
    (fxU : XfC K CU)
    (fxN : XfC K CN)
    (fxM : XfC K CM)
    (fxI : XfC K CI)
    (fxB : XfC K CB)
    (nn : PySem.W.exmOne K (.ref CN) (.ref CN) = some true)
    (F_law : Fun K "law" "law" s_law f0 fd) (TB0 : LamX.TabB base mg cT0 T0) :
    FnOkG P w K mg base CX0 10 f0 fd ["_law_script"] (spLaw K [(cT0, T0)]) := by
  have T1_ : Txt P K mg CN fIN := T.toTxt
  have F : EF K CN X0 X1 X2 X3 X4 X5 X6 X7 XF CP CU CM CI CB := { e0 := fe0, e1 := fe1, e2 := fe2, e3 := fe3, e4 := fe4, e5 := fe5, e6 := fe6, e7 := fe7, eP := feP, eU := feU, eN := feN, eM := feM, eI := feI, eB := feB, k0 := fk0, k1 := fk1, k2 := fk2, k3 := fk3, k4 := fk4, k5 := fk5, k6 := fk6, k7 := fk7, kP := fkP, kU := fkU.trans (by decide +kernel), kN := fkN.trans (by decide +kernel), kM := fkM.trans (by decide +kernel), kI := fkI.trans (by decide +kernel), kB := fkB.trans (by decide +kernel), m0 := fm0, m1 := fm1, m2 := fm2, m3 := fm3, m4 := fm4, m5 := fm5, m6 := fm6, m7 := fm7, mP := fmP, xP := fxP, xU := fxU, xN := fxN, xM := fxM, xI := fxI, xB := fxB }
  have d1 := ok_is_name (w := w) (base := base) T1_ E_is_name
  have d2 := ok_is_number (w := w) (base := base) T1_ E_is_number
  have d3 := ok_is_integer T1_ E_is_integer d2
  have d4 := ok_is_within T1_ E_is_within d3
  have r1 := ok_require_integer T1_ E_require_integer d3
  have r2 := ok_require_within T1_ E_require_within d4
  have r3 := ok_require_interval T1_ E_require_interval r2
  have s1 := ok_slot_in (w := w) (base := base) T1_ E_slot_in
  have s2 := ok_rounded_in (w := w) (base := base) T1_ E_rounded_in
  have s3 := ok_slot_of T1_ E_slot_of r1 r3 s1
  have s4 := ok_rounded_up T1_ E_rounded_up r1 r3 s2
  have b1 := ok_law_loom (w := w) (base := base) T1_ E_law_loom
  have b2 := ok_law_turn (w := w) (base := base) T1_ E_law_turn
  have b3 := ok_law_pick T1_ E_law_pick b2
  have b4 := ok_law_pickS T1_ E_law_pick b2
  have l1 := ok_law_is_told (w := w) (base := base) T E_law_is_told
  have l2 := ok_law_families (w := w) (base := base) T E_law_families
  have l3 := ok_law_errors_right T F E_law_errors_right l1 l2
  have l4 := ok_law_names_right T1_ E_law_names_right b2 b4 d1
  have l5 := ok_law_slots_right T1_ E_law_slots_right b2 b3 s3 s4
  have hmem : (T0, lamQ) ∈ ([(T0, lamQ)] : List (Addr × Str)) := .head _
  have hun : ∀ p ∈ ([(T0, lamQ)] : List (Addr × Str)), p.1 = T0 → p.2 = lamQ := fun p hp _ => by rw [List.mem_singleton.mp hp]
  have l6 := ok_law_refused_right T1_ fxN nn C_law_refused_right TB0 hmem hun E_law_word b3 s3 s4
  exact ok_law T1_ F_law (fun p hp => ⟨(cT0, T0), .head _, by rw [List.mem_singleton.mp hp]⟩) b1 b3 d3 l3 l4 l5 l6 s3 s4
theorem cs_mem {K : PySem.W.Frag} {p : Addr × Addr} (hp : p ∈ ([((He.codeOf K ("_law_refused_right", none)), (He.tabOf K (He.codeOf K ("_law_refused_right", none))))] : List (Addr × Addr))) : ∃ q ∈ tfL, p = He.cT K q := by
  simp only [List.mem_cons, List.not_mem_nil, or_false] at hp
  rcases hp with rfl
  · exact ⟨("_law_refused_right", none), .head _, rfl⟩
theorem facts {w : World} {K : PySem.W.Frag} {h : Heap} {mg : Str → Option Value} {f : Addr} (X : K.In h) (G : h.Ns mainGlobals mg) (hfa : mg ("law" : Str) = some (.ref f)) (c : LfH.SaysZ fnL tfL (LfH.exA exL) h K) :
    ∃ fd : FuncData, (∀ (s : Shared) (v : Value), BindsTo s fd ⟨[v], []⟩ [("_law_script", v)]) ∧ ∀ base : Heap, K.In base → base.Ns mainGlobals mg → (∀ p ∈ ([((He.codeOf K ("_law_refused_right", none)), (He.tabOf K (He.codeOf K ("_law_refused_right", none))))] : List (Addr × Addr)), LamX.TabB base mg p.1 p.2) → FnOkG prog5 w K mg base CX0 10 f fd ["_law_script"] (spLaw K [((He.codeOf K ("_law_refused_right", none)), (He.tabOf K (He.codeOf K ("_law_refused_right", none))))]) := by
  have e := hfa.symm.trans (LfH.glo_of X G (ex_21 c))
  cases e
  obtain ⟨⟨⟨_, _, _, _, _, _, _, _, _, _, _, _, _, _, xoP⟩, alP, saP, nfP, iCP, tCP, kCP, eCP, sBP, sDP, sOP, tyP, opP⟩, flP⟩ := LfH.xB_ok (ex_65 c)
  obtain ⟨_, _, _, _, _, _, cdaP, _, _, _, _, _, lP, cdP, lzP⟩ := c.defC 22 rfl rfl
  obtain ⟨_, _, _, _, _, _, lcP, hvP, hfP⟩ := LfH.fileB_ok flP lP rfl
  have par : PySem.LfX.XTxt prog5 K mg "ParseError" "line" "ValueError" "ValueError.__init__" "ValueError.__new__" [.type "ValueError", .type "Exception", .type "BaseException", .type "object"] (He.ga K "ParseError") (He.ma K (He.ga K "ParseError") "__init__") :=
    { fo := fld_line, gC := LfH.glo_of X G (ex_66 c), cls := ⟨_, _, _, _, _, _, _, _, _, _, _, _, _, _, _, xoP, fun _ => rfl, (fun self => (PySem.refuseLoop_ref _ _ _ _).trans (PySem.F.store_ValueError.passes self)), alP⟩, sa := saP, noF := nfP, iC := iCP, tC := tCP, kC := kCP, exC := eCP, sB := sBP, sD := sDP, sO := sOP, tyC := tyP, op := opP,
      sup := He.free_ok X G (ex_67 c), top := by decide +kernel, fn := ⟨_, _, _, _, _, _, _, _, _, _, _, _, _, _, _, _, _, _, _, _, _, _, _, _, _, _, _, _, _, _, _, _, _, lP, cdP, lcP, hvP, hfP, lzP, by decide⟩ }
  obtain ⟨⟨⟨_, _, _, _, _, _, _, _, _, _, _, _, _, _, xoN⟩, alN, saN, nfN, iCN, tCN, kCN, eCN, sBN, sDN, sON, tyN, opN⟩, flN⟩ := LfH.xB_ok (ex_68 c)
  obtain ⟨_, _, _, _, _, _, cdaN, _, _, _, _, _, lN, cdN, lzN⟩ := c.defC 23 rfl rfl
  obtain ⟨_, _, _, _, _, _, lcN, hvN, hfN⟩ := LfH.fileB_ok flN lN rfl
  have num : PySem.LfX.XTxt prog5 K mg "InvalidNumber" "value" "RuntimeError" "RuntimeError.__init__" "RuntimeError.__new__" [.type "RuntimeError", .type "Exception", .type "BaseException", .type "object"] (He.ga K "InvalidNumber") (He.ma K (He.ga K "InvalidNumber") "__init__") :=
    { fo := fld_value, gC := LfH.glo_of X G (ex_69 c), cls := ⟨_, _, _, _, _, _, _, _, _, _, _, _, _, _, _, xoN, fun _ => rfl, PySem.F.store_RuntimeError.passes, alN⟩, sa := saN, noF := nfN, iC := iCN, tC := tCN, kC := kCN, exC := eCN, sB := sBN, sD := sDN, sO := sON, tyC := tyN, op := opN,
      sup := He.free_ok X G (ex_67 c), top := by decide +kernel, fn := ⟨_, _, _, _, _, _, _, _, _, _, _, _, _, _, _, _, _, _, _, _, _, _, _, _, _, _, _, _, _, _, _, _, _, lN, cdN, lcN, hvN, hfN, lzN, by decide⟩ }
  obtain ⟨⟨⟨_, _, _, _, _, _, _, _, _, _, _, _, _, _, xoM⟩, alM, saM, nfM, iCM, tCM, kCM, eCM, sBM, sDM, sOM, tyM, opM⟩, flM⟩ := LfH.xB_ok (ex_70 c)
  obtain ⟨_, _, _, _, _, _, cdaM, _, _, _, _, _, lM, cdM, lzM⟩ := c.defC 24 rfl rfl
  obtain ⟨_, _, _, _, _, _, lcM, hvM, hfM⟩ := LfH.fileB_ok flM lM rfl
  have man : PySem.LfX.XTxt prog5 K mg "TooMany" "limit" "OverflowError" "OverflowError.__init__" "OverflowError.__new__" [.type "OverflowError", .type "ArithmeticError", .type "Exception", .type "BaseException", .type "object"] (He.ga K "TooMany") (He.ma K (He.ga K "TooMany") "__init__") :=
    { fo := fld_limit, gC := LfH.glo_of X G (ex_71 c), cls := ⟨_, _, _, _, _, _, _, _, _, _, _, _, _, _, _, xoM, fun _ => rfl, PySem.F.store_OverflowError.passes, alM⟩, sa := saM, noF := nfM, iC := iCM, tC := tCM, kC := kCM, exC := eCM, sB := sBM, sD := sDM, sO := sOM, tyC := tyM, op := opM,
      sup := He.free_ok X G (ex_67 c), top := by decide +kernel, fn := ⟨_, _, _, _, _, _, _, _, _, _, _, _, _, _, _, _, _, _, _, _, _, _, _, _, _, _, _, _, _, _, _, _, _, lM, cdM, lcM, hvM, hfM, lzM, by decide⟩ }
  obtain ⟨⟨⟨_, _, _, _, _, _, _, _, _, _, _, _, _, _, xoI⟩, alI, saI, nfI, iCI, tCI, kCI, eCI, sBI, sDI, sOI, tyI, opI⟩, flI⟩ := LfH.xB_ok (ex_72 c)
  obtain ⟨_, _, _, _, _, _, cdaI, _, _, _, _, _, lI, cdI, lzI⟩ := c.defC 25 rfl rfl
  obtain ⟨_, _, _, _, _, _, lcI, hvI, hfI⟩ := LfH.fileB_ok flI lI rfl
  have und : PySem.LfX.XTxt prog5 K mg "NothingToUndo" "many" "IndexError" "IndexError.__init__" "IndexError.__new__" [.type "IndexError", .type "LookupError", .type "Exception", .type "BaseException", .type "object"] (He.ga K "NothingToUndo") (He.ma K (He.ga K "NothingToUndo") "__init__") :=
    { fo := fld_many, gC := LfH.glo_of X G (ex_73 c), cls := ⟨_, _, _, _, _, _, _, _, _, _, _, _, _, _, _, xoI, fun _ => rfl, PySem.F.store_IndexError.passes, alI⟩, sa := saI, noF := nfI, iC := iCI, tC := tCI, kC := kCI, exC := eCI, sB := sBI, sD := sDI, sO := sOI, tyC := tyI, op := opI,
      sup := He.free_ok X G (ex_67 c), top := by decide +kernel, fn := ⟨_, _, _, _, _, _, _, _, _, _, _, _, _, _, _, _, _, _, _, _, _, _, _, _, _, _, _, _, _, _, _, _, _, lI, cdI, lcI, hvI, hfI, lzI, by decide⟩ }
  obtain ⟨⟨⟨_, _, _, _, _, _, _, _, _, _, _, _, _, _, xoB⟩, alB, saB, nfB, iCB, tCB, kCB, eCB, sBB, sDB, sOB, tyB, opB⟩, flB⟩ := LfH.xB_ok (ex_74 c)
  obtain ⟨_, _, _, _, _, _, cdaB, _, _, _, _, _, lB, cdB, lzB⟩ := c.defC 26 rfl rfl
  obtain ⟨_, _, _, _, _, _, lcB, hvB, hfB⟩ := LfH.fileB_ok flB lB rfl
  have bro : PySem.LfX2.XTxt2 prog5 K mg "Broken" "kind" "reason" "ArithmeticError" "ArithmeticError.__init__" "ArithmeticError.__new__" [.type "ArithmeticError", .type "Exception", .type "BaseException", .type "object"] (He.ga K "Broken") (He.ma K (He.ga K "Broken") "__init__") :=
    { fo := fld_kind_reason, gC := LfH.glo_of X G (ex_75 c), cls := ⟨_, _, _, _, _, _, _, _, _, _, _, _, _, _, _, xoB, fun _ => rfl, PySem.F.store_ArithmeticError.passes, alB⟩, sa := saB, noF := nfB, noG := LfH.noB_ok (ex_76 c), iC := iCB, tC := tCB, kC := kCB, exC := eCB, sB := sBB, sD := sDB, sO := sOB, tyC := tyB, op := opB,
      sup := He.free_ok X G (ex_67 c), top := by decide +kernel, fn := ⟨_, _, _, _, _, _, _, _, _, _, _, _, _, _, _, _, _, _, _, _, _, _, _, _, _, _, _, _, _, _, _, _, _, _, _, _, _, _,  lB, cdB, lcB, hvB, hfB, lzB, by decide⟩ }
  obtain ⟨⟨⟨_, _, _, _, _, _, _, _, _, _, _, _, _, _, xoU⟩, alU, saU, nfU, iCU, tCU, kCU, eCU, sBU, sDU, sOU, tyU, opU⟩, flU⟩ := LfH.xB_ok (ex_77 c)
  obtain ⟨_, _, _, _, _, _, cdaU, _, _, _, _, _, lU, cdU, lzU⟩ := c.defC 27 rfl rfl
  obtain ⟨_, _, _, _, _, _, lcU, hvU, hfU⟩ := LfH.fileB_ok flU lU rfl
  have unk : PySem.LfXK.XTxtK prog5 K mg "UnknownName" "wanted" "KeyError" "KeyError.__init__" "LookupError" "LookupError.__new__" (He.ga K "UnknownName") (He.ma K (He.ga K "UnknownName") "__init__") :=
    { fo := fld_wanted, gC := LfH.glo_of X G (ex_78 c), cls := ⟨_, _, _, _, _, _, _, _, _, _, _, _, _, _, _, xoU, PySem.LfXK.hd_KeyError, PySem.LfXK.pass_KeyError, alU⟩, sa := saU, noF := nfU, iC := iCU, tC := tCU, kC := kCU, exC := eCU, sB := sBU, sD := sDU, sO := sOU, tyC := tyU, op := opU,
      sup := He.free_ok X G (ex_67 c), top := by decide +kernel, fn := ⟨_, _, _, _, _, _, _, _, _, _, _, _, _, _, _, _, _, _, _, _, _, _, _, _, _, _, _, _, _, _, _, lU, cdU, lcU, hvU, hfU, lzU, by decide⟩ }
  have T : TxR prog5 K mg (He.ga K "InvalidNumber") (He.ma K (He.ga K "InvalidNumber") "__init__") (He.ga K "InvalidTree") (He.ga K "InvalidBody") (He.ga K "InvalidMachine") (He.ga K "InvalidCover") (He.ga K "InvalidJob") (He.ga K "InvalidLives") (He.ga K "InvalidKernel") (He.ga K "InvalidArgument") (He.ga K "FoundryError") (He.ga K "ParseError") (He.ma K (He.ga K "ParseError") "__init__") (He.ga K "UnknownName") (He.ma K (He.ga K "UnknownName") "__init__") (He.ga K "TooMany") (He.ma K (He.ga K "TooMany") "__init__") (He.ga K "NothingToUndo") (He.ma K (He.ga K "NothingToUndo") "__init__") (He.ga K "Broken") (He.ma K (He.ga K "Broken") "__init__") := { n_isinstance := He.free_ok X G (ex_22 c), n_int := He.free_ok X G (ex_23 c), n_bool := He.free_ok X G (ex_24 c), n_str := He.free_ok X G (ex_25 c), n_tuple := He.free_ok X G (ex_26 c), n_len := He.free_ok X G (ex_27 c), n_abs := He.free_ok X G (ex_28 c), n_max := He.free_ok X G (ex_29 c), n_min := He.free_ok X G (ex_30 c), n_list := He.free_ok X G (ex_31 c), n_range := He.free_ok X G (ex_32 c), n_all := He.free_ok X G (ex_33 c), n_repr := He.free_ok X G (ex_34 c), n_ord := He.free_ok X G (ex_35 c), n_ValueError := He.free_ok X G (ex_36 c), n_KeyError := He.free_ok X G (ex_37 c), n_RuntimeError := He.free_ok X G (ex_38 c), n_OverflowError := He.free_ok X G (ex_39 c), n_IndexError := He.free_ok X G (ex_40 c), n_ArithmeticError := He.free_ok X G (ex_41 c), g_MAX_NAME := He.int_ok X G (ex_42 c), g_LIMIT := He.int_ok X G (ex_43 c), g_MAX_INTERVAL := He.int_ok X G (ex_44 c), g_MAX_TICKS := He.int_ok X G (ex_45 c), g_LETTERS := He.str_ok X G (ex_46 c), g0 := LfH.glo_of X G (ex_48 c), x0 := (LfH.excB_ok (ex_47 c)).1, k0 := (LfH.excB_ok (ex_47 c)).2.1, b0 := (LfH.excB_ok (ex_47 c)).2.2.1, t0 := (LfH.excB_ok (ex_47 c)).2.2.2, g1 := LfH.glo_of X G (ex_50 c), x1 := (LfH.excB_ok (ex_49 c)).1, k1 := (LfH.excB_ok (ex_49 c)).2.1, b1 := (LfH.excB_ok (ex_49 c)).2.2.1, t1 := (LfH.excB_ok (ex_49 c)).2.2.2, g2 := LfH.glo_of X G (ex_52 c), x2 := (LfH.excB_ok (ex_51 c)).1, k2 := (LfH.excB_ok (ex_51 c)).2.1, b2 := (LfH.excB_ok (ex_51 c)).2.2.1, t2 := (LfH.excB_ok (ex_51 c)).2.2.2, g3 := LfH.glo_of X G (ex_54 c), x3 := (LfH.excB_ok (ex_53 c)).1, k3 := (LfH.excB_ok (ex_53 c)).2.1, b3 := (LfH.excB_ok (ex_53 c)).2.2.1, t3 := (LfH.excB_ok (ex_53 c)).2.2.2, g4 := LfH.glo_of X G (ex_56 c), x4 := (LfH.excB_ok (ex_55 c)).1, k4 := (LfH.excB_ok (ex_55 c)).2.1, b4 := (LfH.excB_ok (ex_55 c)).2.2.1, t4 := (LfH.excB_ok (ex_55 c)).2.2.2, g5 := LfH.glo_of X G (ex_58 c), x5 := (LfH.excB_ok (ex_57 c)).1, k5 := (LfH.excB_ok (ex_57 c)).2.1, b5 := (LfH.excB_ok (ex_57 c)).2.2.1, t5 := (LfH.excB_ok (ex_57 c)).2.2.2, g6 := LfH.glo_of X G (ex_60 c), x6 := (LfH.excB_ok (ex_59 c)).1, k6 := (LfH.excB_ok (ex_59 c)).2.1, b6 := (LfH.excB_ok (ex_59 c)).2.2.1, t6 := (LfH.excB_ok (ex_59 c)).2.2.2, g7 := LfH.glo_of X G (ex_62 c), x7 := (LfH.excB_ok (ex_61 c)).1, k7 := (LfH.excB_ok (ex_61 c)).2.1, b7 := (LfH.excB_ok (ex_61 c)).2.2.1, t7 := (LfH.excB_ok (ex_61 c)).2.2.2, gF := LfH.glo_of X G (ex_64 c), xF := (LfH.excB_ok (ex_63 c)).1, kF := (LfH.excB_ok (ex_63 c)).2.1, bF := (LfH.excB_ok (ex_63 c)).2.2.1, tF := (LfH.excB_ok (ex_63 c)).2.2.2, par := par, num := num, man := man, und := und, bro := bro, unk := unk }

  obtain ⟨oc, od, osl, kV, doc, pm, an, cdv, ct, l, cd, k, _⟩ := c.def_ 21 rfl rfl
  skip
  refine ⟨PySem.W.fnOf "law" "law" (defArgs s_law) (defBody s_law) (defScope s_law) .none kV doc pm an cdv ct, fun s u => .of_eq rfl, fun base _ _ TBS => ?_⟩
  exact chain T (c.df X G 0 rfl (ex_0 c)) (c.df X G 1 rfl (ex_1 c)) (c.df X G 2 rfl (ex_2 c)) (c.df X G 3 rfl (ex_3 c)) (c.df X G 4 rfl (ex_4 c)) (c.df X G 5 rfl (ex_5 c)) (c.df X G 6 rfl (ex_6 c)) (c.df X G 7 rfl (ex_7 c)) (c.df X G 8 rfl (ex_8 c)) (c.df X G 9 rfl (ex_9 c)) (c.df X G 10 rfl (ex_10 c)) (c.df X G 11 rfl (ex_11 c)) (c.df X G 12 rfl (ex_12 c)) (c.df X G 13 rfl (ex_13 c)) (c.df X G 14 rfl (ex_14 c)) (c.df X G 15 rfl (ex_15 c)) (c.df X G 16 rfl (ex_16 c)) (c.df X G 17 rfl (ex_17 c)) (c.df X G 18 rfl (ex_18 c)) (c.df X G 19 rfl (ex_19 c)) (c.dfC X G 20 rfl (ex_20 c)) (excCB_ok (ex_79 c)) (excCB_ok (ex_80 c)) (excCB_ok (ex_81 c)) (excCB_ok (ex_82 c)) (excCB_ok (ex_83 c)) (excCB_ok (ex_84 c)) (excCB_ok (ex_85 c)) (excCB_ok (ex_86 c)) (excCB_ok (ex_87 c)) (excCB_ok (ex_88 c)) (excCB_ok (ex_89 c)) (excCB_ok (ex_90 c)) (excCB_ok (ex_91 c)) (excCB_ok (ex_92 c)) (of_decide_eq_true (ex_93 c)) (of_decide_eq_true (ex_94 c)) (of_decide_eq_true (ex_95 c)) (of_decide_eq_true (ex_96 c)) (of_decide_eq_true (ex_97 c)) (of_decide_eq_true (ex_98 c)) (of_decide_eq_true (ex_99 c)) (of_decide_eq_true (ex_100 c)) (of_decide_eq_true (ex_101 c)) (of_decide_eq_true (ex_102 c)) (of_decide_eq_true (ex_103 c)) (of_decide_eq_true (ex_104 c)) (of_decide_eq_true (ex_105 c)) (of_decide_eq_true (ex_106 c)) (of_decide_eq_true (ex_107 c)) (of_decide_eq_true (ex_108 c)) (of_decide_eq_true (ex_109 c)) (of_decide_eq_true (ex_110 c)) (of_decide_eq_true (ex_111 c)) (of_decide_eq_true (ex_112 c)) (of_decide_eq_true (ex_113 c)) (of_decide_eq_true (ex_114 c)) (of_decide_eq_true (ex_115 c)) (xfB_ok (ex_116 c)) (xfB_ok (ex_117 c)) (xfB_ok (ex_118 c)) (xfB_ok (ex_119 c)) (xfB_ok (ex_120 c)) (xfB_ok (ex_121 c)) (of_decide_eq_true (ex_122 c)) (fun_mk l cd k) (TBS _ (.head _))
end My
open PySem PySem.W PySem.Calls PyProof.Rows
theorem PySem.Challenge.cw_loopfoundry_k00_errors_and_numbers_holds : PySem.Challenge.rw_loopfoundry_k00_errors_and_numbers.Holds := by
  w_on; o_law
  refine HandSHeadRun.head_any (r := OpenLaw.row PySem.Challenge.rw_loopfoundry_k00_errors_and_numbers) (q := view (OpenLaw.row PySem.Challenge.rw_loopfoundry_k00_errors_and_numbers).prog [44]) (H := My.hk) (ob := My.ob) (M := 9000) (loose := My.loose) (d := HandSHeadRun.topDef (OpenLaw.row PySem.Challenge.rw_loopfoundry_k00_errors_and_numbers).prog 44) (kwd := []) My.ob_eq
    (by kernel_rfl) (fun s => by kernel_rfl) My.run (by kernel_rfl) (by kernel_rfl) (by kernel_rfl) (by rfl) (by first | assumption | decide +kernel) (by decide +kernel) ⟨rfl, rfl, rfl, rfl, rfl, by decide +kernel⟩ ?hw ?hc
  case hw => w_witness2
  case hc =>
    refine LfH.walk_ofTGE (l := PySem.Challenge.rw_loopfoundry_k00_errors_and_numbers) (n := 63) (k := 10) (x := "_law_script") (CX := L2.CX0) rfl (by decide) (by kernel_rfl) ⟨rfl, by decide, by decide⟩ ?F (fun _ _ _ _ z => z)
    intro w mg fa h Y G hmg0
    obtain ⟨K, KX, c⟩ := Y
    have hmg : mg ("law" : PySem.Str) = some (.ref fa) := by
      have e : (HandSHeadRun.topDef (OpenLaw.row PySem.Challenge.rw_loopfoundry_k00_errors_and_numbers).prog 44).name = ("law" : PySem.Str) := by kernel_rfl
      rw [← e]
      exact hmg0
    obtain ⟨fd, hb, hF⟩ := My.facts (w := w) KX G hmg c
    refine ⟨K, fd, _, My.spLaw K [((He.codeOf K ("_law_refused_right", none)), (He.tabOf K (He.codeOf K ("_law_refused_right", none))))], KX, fun p hp => ?_, fun p hp => ?_, fun p hp => ?_, hb, fun H a ns hl hT hS => ⟨a, ns, rfl, hS, hT, fun _ => rfl⟩, hF⟩
    · obtain ⟨q, hq, rfl⟩ := My.cs_mem hp
      exact c.empty q hq
    · obtain ⟨q, hq, rfl⟩ := My.cs_mem hp
      exact c.out q hq
    · obtain ⟨q, hq, rfl⟩ := My.cs_mem hp
      exact c.hd q hq
#print axioms PySem.Challenge.cw_loopfoundry_k00_errors_and_numbers_holds
