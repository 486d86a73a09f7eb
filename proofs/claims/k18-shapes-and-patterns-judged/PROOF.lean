import PyProof.Rows.All
import Wide.All
import OpenK.AllK
import Wide.FinOn
import HandS.ForExc
import KE.KExcSuper
import HandS.ForMost
import HandS.ExcField
import HandS.ExcIs
import HandS.IsInst
import HandS.Style
import HandS.Wide
import HandS.Property
import HandS.Evl
import KE.KUnpackStar
import HandS.Walk
import HandS.TupAny
import PyProof.EqKinds
import PyProof.NeKinds
import PyProof.FactsAll.dict
import HandS.Text
import HandS.TupMul
import PyProof.Rows.RuleB_pow
import HandS.SlotsOwn
import HandS.Records
import HandS.Flow
import HandS.OwnEq
import HandS.FStr
import PyProof.ReprRoads
import KE.KCallOwn
import PyProof.CallFns
import HandS.Zip
import HandS.SortKw
import PyProof.DictUpdate
import HandS.Iter
import HandS.Zip0
import PyProof.Draws
import HandS.Star
import KE.DataCmp
import HandS.Deep
import PyProof.ReprLen
import HandS.TupSets
import HandS.SetBool
import HandS.SetKeys
import PyProof.Rows.SetFrom
import HandS.SetFor
import KE.SortData
import HandS.SortRule
import HandS.EndTab
import KE.KNest
import HandS.Lambda
import HandS.TryOnly
import HandS.ClsMeth
import KE.KStateDown
import HandS.Head0
import HandS.Head1
import HandS.Head2
import HandS.HeadHook4
import HandS.HeadNt
import PySem.Challenge.RW_loopfoundry_k18_shapes_and_patterns_judg
set_option Elab.async false
set_option linter.all false
set_option maxRecDepth 100000
set_option maxHeartbeats 4000000
/-! try: body / except A as n: .. / except B as n: .. : several clauses with names -/
namespace L2
open PySem PySem.Spec PyProof.Rows
/-- the ends of a suite whose name stands in slot i -/
def sufEnds (i : Nat) (D : Ends) : Ends := { nx := fun σ' H' => D.nx (σ'.set i none) H', rt := D.rt, bk := fun σ' H' => D.bk (σ'.set i none) H', ct := fun σ' H' => D.ct (σ'.set i none) H' }
/-- what the clauses wish of an exception of the body, one behind the other: its class, the name's slot, the suite -/
def wAsM (K : PySem.W.Frag) (Wout : WX) (D : Ends) : List (Value × Nat × (Addr → Value → Option Addr → TS)) → WX
  | [] => Wout
  | (c, i, ts) :: r => fun cls d σ H => ∃ b, PySem.W.exmOne K cls c = some b ∧ (b = true → ∀ a, H a = none → ts a cls d (sufEnds i D) (σ.set i (some (.ref a))) H) ∧ (b = false → wAsM K Wout D r cls d σ H)
inductive HdA (X : Cx) : List ExceptHandler → List (Value × Nat × (Addr → Value → Option Addr → TS)) → Prop
  | nil : HdA X [] []
  | cons {x n : Str} {c : Value} {i : Nat} {ts : Addr → Value → Option Addr → TS} {b₀ : Stmt} {suite : List Stmt} {np pos' : Pos} {hds : List ExceptHandler} {l : List (Value × Nat × (Addr → Value → Option Addr → TS))}
      (hi : X.N[i]? = some n) (hln : X.env.kindOf n = some .local) (hc : Names X x c)
      (hsu : ∀ (a : Addr) (oe : Obj) (cls : Value) (d : Option Addr) (pn : List (Addr × Obj)), Zc cls d oe → (∃ vs, oe.data = .fields vs) → PSs (X.suite a ((a, oe) :: pn)) (b₀ :: suite) (ts a cls d)) (r : HdA X hds l) :
      HdA X (.ExceptHandler (some (.Name x np)) (some n) (b₀ :: suite) pos' :: hds) ((c, i, ts) :: l)
section
variable {X : Cx} {body : List Stmt} {h₀ : ExceptHandler} {hds : List ExceptHandler} {l : List (Value × Nat × (Addr → Value → Option Addr → TS))} {pos : Pos} {tb : WX → TS} {Wout : WX}
theorem ps_try_asM (hs : X.stack = X.env :: X.outer) (hf : X.env.frame = some X.env.locals) (hN : X.N.Nodup) (tk : Takes X Wout)
    (hb : ∀ (W : WX) (pn : List (Addr × Obj)) (xe : Value → Shared → Prop), Takes (X.tr pn xe) W → PassesOwn (model X.prog X.w) X.A X.env xe → PSs (X.tr pn xe) body (tb W))
    (hh : HdA X (h₀ :: hds) l) : PS X (.Try body (h₀ :: hds) [] [] pos) (fun D σ H => tb (wAsM X.K Wout D l) D σ H) := by
  refine ⟨fun pins s σ H D I h => ?_⟩
  have ok := I.ok
  have hfr : X.A.frames = some (X.env :: X.outer) := by rw [ok.frames, hs]
  refine wpAny_Try_except ?_
  refine wpAny_mono ((hb (wAsM X.K Wout D l) (X.pn ++ pins) (fun e s₁ => wpAny (model X.prog X.w) X.A (noteFrame e X.env) (fun _ s₂ => wpAny (model X.prog X.w) X.A (setFlight e none) (fun _ s₃ =>
    wpAny (model X.prog X.w) X.A (handleBy e X.env (h₀ :: hds)) (SP X pins D) X.xe s₃) X.xe s₂) X.xe s₁) (fun u s' xx => ?_) PassesOwn.looking).run [] s σ H D (I.toTry _) h) (fun f s1 hsp => ?_) (fun e s1 he => he)
  · obtain ⟨a, B, sI, pins', σ', H', cls, d, rfl, J', nb, up, sky, na, os, ag, w⟩ := xx
    have J : Inv X pins σ' H' sI := J'.ofTry ok
    have sky' : Sky B (X.env :: X.outer) a (Zc cls d) X.env.locals s'.heap := by rw [← hs]; exact sky
    show wpAny (model X.prog X.w) X.A (noteFrame (.ref a) X.env) _ _ _
    refine Sky.land Zc.steady hfr hf sky' fun h3 fl3 up3 => ?_
    have J3 : Inv X pins σ' H' { s' with heap := h3 } := J.landed nb fl3.1 (up.trans up3) os ag
    obtain ⟨oe3, vs3, he3, hz3, hd3⟩ := fl3.there
    have nfr : a ∉ frs (X.env :: X.outer) := fun hm => by
      obtain ⟨_, o', e', hnf⟩ := fl3.2.2.1.mem hm
      rw [he3] at e'; cases e'
      exact hnf _ hd3
    have nL : a ≠ X.env.locals := fun z => nfr (List.mem_filterMap.mpr ⟨X.env, List.mem_cons_self, by rw [hf, z]⟩)
    have nF : a ∉ X.fs := fun hm => by
      obtain ⟨e, he, q⟩ := List.mem_filterMap.mp hm
      exact nfr (List.mem_filterMap.mpr ⟨e, List.mem_cons_of_mem _ he, q⟩)
    have S3 := J3.suite he3 hd3 na nL nF
    have go : ∀ {hds' : List ExceptHandler} {l' : List (Value × Nat × (Addr → Value → Option Addr → TS))}, HdA X hds' l' → wAsM X.K Wout D l' cls d σ' H' →
        wpAny (model X.prog X.w) X.A (handleBy (.ref a) X.env hds') (SP X pins D) X.xe { s' with heap := h3 } := by
      intro hds' l' hk
      induction hk with
      | nil =>
        intro w
        refine wpAny_handleBy_nil ?_
        obtain ⟨k1, k2, k3, oe, vs, T, oT, ts', he, hz, hd, h1, hr⟩ := id fl3
        unfold PySem.passOn
        refine wpAny_bind (wpAny_field he hd h1 ?_)
        rw [if_neg (show ¬ ((Value.ref T == Value.none) = true) from by simp)]
        have fin : wpAny (model X.prog X.w) X.A (setFlight (.ref a) X.env.frame) (fun _ s4 => wpAny (model X.prog X.w) X.A (throw (.ref a) : Sem Flow) (SP X pins D) X.xe s4) X.xe { s' with heap := h3 } := by
          rw [hf]
          refine HandSPX.setFlight_upZ fl3 fun h4 hh4 up4 => wpAny_throw (tk _ _ ?_)
          exact ⟨a, B, sI, pins, σ', H', cls, d, rfl, J, nb, (up.trans up3).trans up4, .inr (.inr (by rw [hs]; exact hh4)), na, os, ag, w⟩
        first
          | exact wpAny_bind (wpAny_pure (wpAny_bind fin))
          | exact wpAny_bind fin
      | @cons x n c i ts b₀ suite np pos' hds2 l2 hi hln hc hsu r ih =>
        intro w
        obtain ⟨b, hb1, hyes, hno⟩ := w
        have hloc : Loc X.env.scope n := .inl hln
        refine wpAny_handleBy_cons (codeAny_handlers_test ?_) (by intro q; cases q)
        have LT : PySem.W.Looks (model X.prog X.w) h3 (typeOf (.ref a)) cls := fun A Q E s k q => wpAny_typeOf_ref (k _ _ he3) (by rw [hz3.1]; exact q)
        have LM := PySem.W.exm_one (M := model X.prog X.w) (J3.kIn) LT hb1
        have test : ∀ {Q : Value → Shared → Prop} {E : Value → Shared → Prop}, Q c { s' with heap := h3 } → wpAny (model X.prog X.w) (X.A.mark (some (.ref a))) (eval (.Name x np) X.env) Q E { s' with heap := h3 } := fun {Q E} q => by
          obtain ⟨hg, hdbg, hm | ⟨hm, hv, hnn⟩⟩ := hc
          · exact ld_glob (X := X.suite a ((a, oe3) :: (X.pn ++ pins))) S3 hg hm q hdbg
          · exact ld_blt (X := X.suite a ((a, oe3) :: (X.pn ++ pins))) S3 hg hm hv q hnn hdbg
        refine test (LM.here ?_)
        cases b with
        | true =>
          refine codeAny_handlers_suite_as ?_
          refine HandSPX.lands_againZ fl3 fun h4 fl4 up4 => ?_
          have J4 : Inv X pins σ' H' { s' with heap := h4 } := J.landed nb fl4.1 ((up.trans up3).trans up4) os ag
          obtain ⟨oe4, vs4, he4, hz4, hd4⟩ := fl4.there
          have S4 := J4.suite he4 hd4 na nL nF
          refine store_ok (X := X.suite a ((a, oe4) :: (X.pn ++ pins))) (v := .ref a) S4 hN hi hloc rfl (fun s5 S5 => ?_) (.inr hln)
          refine wpAny_mono ((hsu a oe4 cls d (X.pn ++ pins) hz4 ⟨_, hd4⟩).run [] s5 _ H' _ S5 (hyes rfl a na)) (fun f s6 hsp => ?_) (fun _ _ z => False.elim z)
          have end_ : ∀ {σ6 : St} {H6 : Hp} {Q : Shared → Prop}, Inv (X.suite a ((a, oe4) :: (X.pn ++ pins))) [] σ6 H6 s6 → (∀ s7, Inv X pins (σ6.set i none) H6 s7 → Q s7) →
              wpAny (model X.prog X.w) X.A (do bindName X.env n .none; unbindBehindTheSuite X.env n pos') (fun _ s7 => Q s7) X.xe s6 := fun {σ6 H6 Q} S6 hq => gone_ok (S6.unsuite ok) hN hi hln hq
          cases f with
          | next =>
            obtain ⟨σ6, H6, S6, q6⟩ := hsp
            exact end_ S6 fun s7 J7 => ⟨_, _, J7, q6⟩
          | brk =>
            obtain ⟨σ6, H6, S6, q6⟩ := hsp
            exact end_ S6 fun s7 J7 => ⟨_, _, J7, q6⟩
          | cont =>
            obtain ⟨σ6, H6, S6, q6⟩ := hsp
            exact end_ S6 fun s7 J7 => ⟨_, _, J7, q6⟩
          | ret u =>
            obtain ⟨v6, σ6, H6, S6, r6, q6⟩ := hsp
            exact end_ S6 fun s7 J7 => ⟨_, _, _, J7, r6, q6⟩
        | false =>
          show wpAny _ X.A (handleBy (.ref a) X.env hds2) _ _ _
          exact ih (hno rfl)
    exact go hh w
  · cases f with
    | next =>
      obtain ⟨σ', H', J', q⟩ := hsp
      exact wpAny_execs_nil ⟨σ', H', J'.ofTry ok, q⟩
    | brk =>
      obtain ⟨σ', H', J', q⟩ := hsp
      exact ⟨σ', H', J'.ofTry ok, q⟩
    | cont =>
      obtain ⟨σ', H', J', q⟩ := hsp
      exact ⟨σ', H', J'.ofTry ok, q⟩
    | ret u =>
      obtain ⟨v, σ', H', J', r, q⟩ := hsp
      exact ⟨v, σ', H', J'.ofTry ok, r, q⟩
end
end L2
set_option maxHeartbeats 4000000
/-! An own error over a built-in one: __init__(self, f): super().__init__('..'); self.f = f -/
namespace PySem
namespace LfX
open PySem.W PySem.Calls PyProof.Rows PySem.HandSPX
def xA (f : Str) (p1 p2 : Pos) : Arguments := { posonlyargs := [], args := [{ arg := "self", annotation := none, pos := p1 }, { arg := f, annotation := none, pos := p2 }], vararg := none, kwonlyargs := [], kw_defaults := [], kwarg := none, defaults := [] }
def xB (f m : Str) (j : Nat) (q1 q2 q3 q4 q5 q6 q7 q8 q9 q10 : Pos) : List Stmt :=
  [.Expr (.Call (.Attribute (.Call (.Name "super" q1) [] [] q2) "__init__" q3) [.Constant (.str m) j q4] [] q5) q6, .Assign [.Attribute (.Name "self" q7) f q8] (.Name f q9) q10]
def xS (f : Str) : Scope := { kind := .function, names := [(PySem.Str.ofString "self", .local), (f, .local), (PySem.Str.ofString "__class__", .free), (PySem.Str.ofString "super", .globalImplicit)], isGenerator := false, isCoroutine := false, more := [] }
/-- the name of the field stands apart from the three others -/
structure FldOk (f : Str) : Prop where
  e1 : (f == PySem.Str.ofString "self") = false
  e2 : (PySem.Str.ofString "__class__" == f) = false
  e3 : (PySem.Str.ofString "super" == f) = false
  e4 : (f == ("__debug__" : Str)) = false
  bd : ∀ (qn : Str) (p1 p2 : Pos) (b : List Stmt) (doc pm : Value) (an : Option Addr) (cdv ct : Value) (cc : Addr) (s : Shared) (x v : Value),
    BindsTo s (ksFn "__init__" qn (xA f p1 p2) b (xS f) .none .none doc pm an cdv ct cc) ⟨[x, v], []⟩ [("self", x), (f, v)]
/-- what the written part says of such a class, at C, and of its __init__, at fI -/
structure XTxt (prog : Program) (K : Frag) (mg : Str → Option Value) (x f : Str) (B i newId : String) (bmB : List Value) (C fI : Addr) : Prop where
  fo : FldOk f
  gC : mg x = some (.ref C)
  cls : ∃ nm q N bs bm sn sub ab col dd k0 k1 k2 k3 k5, K.lookup C = some (excClassObj nm q C N bs bm true sn sub ab col dd k0 k1 k2 k3 k5 newId) ∧ (∀ X : String, bm.contains (.type X) = bmB.contains (.type X)) ∧
    (∀ self : Value, refuseLoop self "__setattr__" bm = pure ()) ∧ alongIn K "__init__" bm = some (some (.builtin i))
  sa : findIn K (.ref C) "__setattr__" = some (some (.builtin "object.__setattr__"))
  noF : findIn K (.ref C) f = some none
  iC : findIn K (.ref C) "__init__" = some (some (.ref fI))
  tC : typeIn K (.ref fI) = some (.type "function")
  kC : keepIn K (.ref C) = true
  exC : subIn K (.ref C) (.type "BaseException") = some true
  sB : subIn K (.ref C) (.type B) = some true
  sD : mroIn K C (.ref C) = some true
  sO : mroIn K C (.type "object") = some true
  tyC : typeIn K (.ref C) = some (.type "type")
  op : nsIn K cStatics "thirdparty.any" = some none
  sup : mg "super" = none
  top : (prog.main.scope.names.lookup ("super" : Str)).isSome = false
  fn : ∃ (oc : Value) (od : Option Addr) (doc pm : Value) (an : Option Addr) (cda : Addr) (ct : Value) (cc : Addr) (osl : Array (Option Value)) (qn m : Str) (j : Nat) (p1 p2 q1 q2 q3 q4 q5 q6 q7 q8 q9 q10 : Pos)
      (ccl : Value) (cdd : Option Addr) (vs : Array Value) (ccs : Array (Option Value)) (file : Str) (tf : Tok) (cl : Value) (cld : Option Addr) (csl : Array (Option Value)),
    K.lookup fI = some ⟨oc, od, .func (ksFn "__init__" qn (xA f p1 p2) (xB f m j q1 q2 q3 q4 q5 q6 q7 q8 q9 q10) (xS f) .none .none doc pm an (.ref cda) ct cc), osl⟩ ∧ codeIn K (.ref cda) qn = true ∧
    K.lookup cda = some ⟨ccl, cdd, .fields vs, ccs⟩ ∧ vs[2]? = some (.str file tf) ∧ ((prog.main.file : Str) == file) = true ∧ K.lookup cc = some ⟨cl, cld, .cell (some (.ref C)), csl⟩ ∧ (q3.endLine == q5.line) = true
section
variable {f : Str}
theorem xS_self : (xS f).names.lookup ("self" : Str) = some .local := by simp [xS, List.lookup]
theorem xS_f (o : FldOk f) : (xS f).names.lookup f = some .local := by simp [xS, List.lookup, o.e1]
theorem xS_class (o : FldOk f) : (xS f).names.lookup ("__class__" : Str) = some .free := by
  have h1 : ((PySem.Str.ofString "__class__") == (PySem.Str.ofString "self")) = false := by decide +kernel
  simp [xS, List.lookup, o.e2, h1]
theorem xS_super (o : FldOk f) : (xS f).names.lookup ("super" : Str) = some .globalImplicit := by
  have h1 : ((PySem.Str.ofString "super") == (PySem.Str.ofString "self")) = false := by decide +kernel
  have h2 : ((PySem.Str.ofString "super") == (PySem.Str.ofString "__class__")) = false := by decide +kernel
  simp [xS, List.lookup, o.e3, h1, h2]
end
theorem own_drop (C : Addr) (l : List Value) : ((Value.ref C :: l).dropWhile (· != .ref C)).drop 1 = l := by simp [List.dropWhile_cons]
/-- what __init__ leaves of a fresh exception at x -/
structure InitEnd (f : Str) (h h' : Heap) (x C dx : Addr) (v : Value) : Prop where
  keep : ∀ b o, b ≠ x → h.get? b = some o → h'.get? b = some o
  obj : ∃ t1, h'.get? x = some { cls := .ref C, dict := some dx, data := .fields #[.ref t1, .none, .none, .none, .bool false, .none] }
  dbig : h.objs.size ≤ dx
  dne : dx ≠ x
  ns : h'.Ns1 dx (fun y => if y = f then some v else none)
/-- a made one -/
structure XMade (f : Str) (h h' : Heap) (e C d : Addr) (v : Value) : Prop where
  keep : ∀ b o, h.get? b = some o → h'.get? b = some o
  new : h.objs.size ≤ e
  obj : ∃ oe vs, h'.get? e = some oe ∧ oe.cls = .ref C ∧ oe.dict = some d ∧ oe.data = .fields vs ∧ vs[1]? = some .none
  dbig : h.objs.size ≤ d
  dne : d ≠ e
  ns : h'.Ns1 d (fun y => if y = f then some v else none)
section
open Builtin Builtin.ObjectAttr
variable {prog : Program} {w : World} {A : Around} {E : Value → Shared → Prop} {R : Result → Shared → Prop} {hp : Heap} {g : Array GenState} {d : Drawn} {t : Nat} {os : OsState}
/-- self.name = v on an exception without a dict, by what its classes let -/
theorem osa_first {K : Frag} {name : Str} {tk : Tok} {v : Value} {x C : Addr} {fv : Array Value} {cd : ClassData}
    (X : K.In hp) (hx : hp.get? x = some { cls := .ref C, data := .fields fv }) (hcd : clsIn K C = some cd) (hob : mroIn K C (.type "object") = some true) (hpass : refuseLoop (.ref x) "__setattr__" cd.mro = pure ()) (hh : cd.hasDict = true) (ha : findIn K (.ref C) name = some none)
    (hq : ∀ h' tk' dx, (∀ b o, b ≠ x → hp.get? b = some o → h'.get? b = some o) → hp.objs.size ≤ dx → dx ≠ x → h'.get? x = some { cls := .ref C, dict := some dx, data := .fields fv } →
      h'.Ns1 dx (fun y => if y = name then some v else none) → R (.ok (.ret .none)) ⟨h', g, d, tk', os⟩) :
    codeAny (model prog w) A (.call (.builtin "object.__setattr__") ⟨[.ref x, .str name tk, v], []⟩) R ⟨hp, g, d, t, os⟩ := by
  have I : InstAt hp x { cls := .ref C, data := .fields fv } C none := ⟨hx, rfl, rfl, trivial⟩
  have hxs : x ≠ hp.objs.size := Nat.ne_of_lt (Heap.lt_size hx)
  have SF := F.store_object
  have sub : Looks (model prog w) hp (isInstance (.ref x) (.type "object")) true := I.type.andThen (looks_mroIn X hob)
  refine codeAny_call_builtin SF.slot.plain SF.entry (@check_slot (model prog w) _ _ ⟨hp, g, d, t, os⟩ "object.__setattr__" "object" "__setattr__" (.ref x) [.str name tk, v] [] _ SF.kind SF.split sub (SF.args (.ref x) (.str name tk) v) ?_)
  have hmr : Looks (model prog w) hp (mroOf (.ref C)) cd.mro := (looks_clsIn X hcd).andThen .now
  have L3 : Looks (model prog w) hp (storeTaker? none) none := .now
  have hcls : Looks (model prog w) hp (classData C) cd := looks_clsIn X hcd
  rw [osa_eq, refuse_eq]
  refine wpAny_bind (wpAny_bind (I.type.at (wpAny_bind (hmr.at ?_))))
  rw [hpass]
  refine wpAny_pure (wpAny_bind (I.type.at (wpAny_bind ((looks_findIn X ha).at (wpAny_bind (L3.at ?_))))))
  show wpAny _ _ (storeInOwnDict (.ref x) (.ref C) (.str name tk) name v false) _ _ _
  obtain ⟨nm, bs, mro, ns, qn, hd, sn, sb, ab, col, del⟩ := cd
  dsimp only at hh
  subst hh
  unfold storeInOwnDict ownDictForStores
  repeat (first | with_reducible refine HandSPX.store_in_new ?_ ?_ | with_reducible refine wpAny_loadPart_at hx ?_ | with_reducible refine hcls.at ?_ | wp_step)
  · exact ⟨_, #[], _, (Heap.get?_update_ne _ _ _ _ hxs.symm).trans (Heap.get?_push_at rfl rfl), rfl, fun e he => absurd he (by simp), fun _ => rfl⟩
  · intro h' tk' hn' hs
    have hx₁ : (hp.push { cls := .type "dict", data := .dict #[] }).get? x = some { cls := .ref C, data := .fields fv } := Heap.get?_push_of_some _ hx
    refine hq h' tk' hp.objs.size (fun b o hb ho => ?_) (Nat.le_refl _) hxs.symm ?_ hn'
    · exact (hs.2 b (Nat.ne_of_lt (Heap.lt_size ho))).trans ((Heap.get?_update_ne _ _ _ _ hb).trans (Heap.get?_push_of_some _ ho))
    · exact (hs.2 x hxs).trans (Heap.get?_update_self _ hx₁ rfl)
/-- the bound built-in __init__ called: the args are laid anew -/
theorem call_mw {nm q : Str} {C N : Addr} {bs bm bmB : List Value} {hdct : Bool} {sn : List Str} {sub : List Value} {ab : Bool} {col : Option Bool} {dd : Option Addr} {k0 k1 k2 k3 k5 : Option Value} {B newId i : String}
    {u e t0 : Addr} {rest : List Value} {Q : Value → Shared → Prop} (FB : ExcBaseFacts B newId i bmB)
    (hC : hp.get? C = some (excClassObj nm q C N bs bm hdct sn sub ab col dd k0 k1 k2 k3 k5 newId)) (he : hp.get? e = some (excO C t0)) (hu : hp.get? u = some (kxs_mw i e)) (hrest : rest.length ≤ sizeLine)
    (hq : ∀ h' t1, (∀ b o, b ≠ e → hp.get? b = some o → h'.get? b = some o) → h'.get? e = some (excO C t1) → Q .none ⟨h', g, d, t, os⟩) :
    wpAny (model prog w) A (call (.ref u) rest) Q E ⟨hp, g, d, t, os⟩ := by
  refine wpAny_call (codeAny_of_tree ?_)
  show wpAny _ A.in1 (callAny (.ref u) ⟨rest, []⟩) _ _ _
  simp only [callAny]
  refine wpAny_bind (wpAny_load hu ?_)
  simp only [kxs_mw, show (Value.type "method-wrapper" == Value.type "method" || Value.type "method-wrapper" == Value.type "builtin_function_or_method" || Value.type "method-wrapper" == Value.type "method-wrapper") = true by decide, if_true]
  refine KFB.if_so (by decide) ?_
  refine wpAny_bind (check_bound_init FB.toExcCallFacts hC he rfl ?_)
  refine wpAny_bind (wpAny_pure (wpAny_pure ?_))
  refine ⟨plainId_quiet FB.init.plain _, codeAny_builtin FB.initEntry ?_⟩
  exact exc_init_tree (cls := .ref C) (t0 := t0) (dv := none) (c2 := .none) (c3 := .none) (b4 := .bool false) he hrest fun h' k e' t' => hq h' _ k e'
end
section
variable {prog : Program} {w : World} {A : Around} {E : Value → Shared → Prop} {R : Result → Shared → Prop} {s : Shared} {K : Frag} {mg : Str → Option Value} {nx f : Str} {B i newId : String} {bmB : List Value} {C fI : Addr}
theorem x_init (T : XTxt prog K mg nx f B i newId bmB C fI) (FB : ExcBaseFacts B newId i bmB) (KF : KxsFacts B i) {x t0 : Addr} {v : Value} (X : K.In s.heap) (G : s.heap.Ns mainGlobals mg) (Bl : ∃ mb, s.heap.Ns builtinsNs mb ∧ ∀ x : Str, x ≠ "__name__" → mb x = bootBuiltins x)
    (hlim : s.heap.NoLimit) (hx : s.heap.get? x = some (excO C t0)) (hnx : K.lookup x = none) (hroom : A.depth < recursionLimit)
    (hq : ∀ h' tk dx, InitEnd f s.heap h' x C dx v → R (.ok (.ret .none)) { s with heap := h', toks := tk }) :
    codeAny (model prog w) A (.call (.ref fI) ⟨[.ref x, v], []⟩) R s := by
  obtain ⟨oc, od, doc, pm, an, cda, ct, cc, osl, qn, m, j, p1, p2, q1, q2, q3, q4, q5, q6, q7, q8, q9, q10, ccl, cdd, vs, ccs, file, tf, cl, cld, csl, ho, hcd, hcda, hvs, hfile, hcc, hln⟩ := T.fn
  obtain ⟨nm, q, N, bs, bm, sn, sub, ab, col, dd, k0, k1, k2, k3, k5, hC, hT, hpass, hal⟩ := T.cls
  obtain ⟨mb, hB, hBB⟩ := Bl
  have hcl : clsIn K C = some { name := nm, bases := bs, mro := .ref C :: bm, ns := N, qualname := q, hasDict := true, slotNames := sn, subclasses := sub, abstract := ab, collection := col, hasDel := false } := by unfold clsIn; rw [hC] <;> rfl
  refine ks_codeAny_call_defAt (fd := ksFn "__init__" qn (xA f p1 p2) (xB f m j q1 q2 q3 q4 q5 q6 q7 q8 q9 q10) (xS f) .none .none doc pm an (.ref cda) ct cc) (binds := [("self", .ref x), (f, v)]) hroom (X _ _ ho) rfl hlim (codeRec_of X hcd) rfl (T.fo.bd qn p1 p2 _ doc pm an _ ct cc s (.ref x) v) ?_ ?_ (fun h₁ hns k => ?_) rfl rfl rfl
  · intro y hy
    simp only [xS, List.mem_cons, List.not_mem_nil, or_false] at hy
    rcases hy with rfl | rfl | rfl | rfl <;> (intro z; cases z)
  · intro y hy
    simp only [List.mem_cons, List.not_mem_nil, or_false] at hy
    rcases hy with rfl | rfl
    · exact xS_self
    · exact xS_f T.fo
  · have X₁ : K.In h₁ := X.keeps k
    have hx₁ := k _ _ hx
    have hself : (fun y => List.lookup y ([(("self" : Str), Value.ref x), (f, v)].reverse)) ("self" : Str) = some (.ref x) := by
      have h1 : (("self" : Str) == f) = false := by rw [BEq.comm]; exact T.fo.e1
      simp [List.lookup, h1]
    have hval : (fun y => List.lookup y ([(("self" : Str), Value.ref x), (f, v)].reverse)) f = some v := by
      simp [List.lookup]
    have hCC : h₁.get? C = some _ := X₁ _ _ hC
    refine ks_wpAt_execs_cons (ks_wpAt_Expr_any (ks_wpAt_MethodCall (pl := do return (← importBound (.Call (.Name "super" q1) [] [] q2) (callEnv (ksFn "__init__" qn (xA f p1 p2) (xB f m j q1 q2 q3 q4 q5 q6 q7 q8 q9 q10) (xS f) .none .none doc pm an (.ref cda) ct cc) s.heap.objs.size fI)).getD true) ?_ ?_) rfl rfl)
    rotate_left
    · have e1 : ∀ (o : Expr) (env : Env), methodCallPos true o env q3 q5 = pure q5 := fun o env => by
        unfold methodCallPos
        rw [hln]
        rfl
      show (attributeBase _ _ _ _ >>= fun ov => standAt q3.atName >>= fun _ => (holding [ov] (calleeOf true _ _ ov _)) >>= fun x => methodCallPos true (.Call (.Name "super" q1) [] [] q2) (callEnv (ksFn "__init__" qn (xA f p1 p2) (xB f m j q1 q2 q3 q4 q5 q6 q7 q8 q9 q10) (xS f) .none .none doc pm an (.ref cda) ct cc) s.heap.objs.size fI) q3 q5 >>= fun cp => callWith cp x.1 x.2 _ _) = _
      rw [e1]
      rfl
    refine ks_wpAt_super_base (f := fI) (cc := cda) (file := file) (tf := tf) (xS_super T.fo) (xS_class T.fo) (by decide) rfl (X₁ _ _ ho) rfl rfl rfl (X₁ _ _ hcda) rfl hvs hfile T.top ?_
    refine ks_loadName_global rfl (xS_super T.fo) (loadGlobal_builtin (G.keeps k) T.sup (hB.keeps k) ((hBB _ (by decide +kernel)).trans (by first | boot_by_name | rfl | kernel_rfl)) ⟨rfl, ?_⟩)
    refine wpAny_loadName_free rfl (xS_class T.fo) rfl ⟨_, X₁ _ _ hcc, rfl⟩ ?_
    refine wpAny_loadName_local rfl xS_self hns hself ?_
    refine ks_wpAny_isType_cls hCC rfl ⟨rfl, ?_⟩
    refine ks_wpAny_call_super hCC rfl hx₁ rfl (fun c e => by cases e) (looks_mroIn X₁ T.sD) (fun h₂ hso k₂ => ?_)
    have X₂ : K.In h₂ := X₁.keeps k₂
    have hx₂ := k₂ _ _ hx₁
    have I₂ : InstAt h₂ x (excO C t0) C none := ⟨hx₂, rfl, rfl, trivial⟩
    have hxC : x ≠ C := fun z => by rw [z, hC] at hnx; cases hnx
    refine kxs_getMethod (l₀ := .ref C :: bm) KF hso (looks_opaque X₂ T.op) ((looks_clsIn X₂ hcl).andThen .now) rfl X₂ (by rw [own_drop]; exact hal) (I₂.type.andThen (looks_subIn X₂ T.sB)) hxC (by decide) ?_
    have k₃ : ∀ b o, h₂.get? b = some o → (h₂.push (kxs_mw i x)).get? b = some o := fun b o e => Heap.get?_push_of_some _ e
    refine kxs_callWith (i := i) (x := x) rfl ?_
    refine evalArgs_plain (Calls.spliced_cons ?_)
    refine Calls.Constant_str (x := m) (k := j) (pos := q4) (Calls.spliced_nil ?_)
    have hu : (h₂.push (kxs_mw i x)).get? h₂.objs.size = some (kxs_mw i x) := Heap.get?_push_at rfl rfl
    refine ⟨hu, ?_⟩
    show wpAny _ _ (call (.ref h₂.objs.size) [_]) _ _ _
    refine call_mw FB (k₃ _ _ (X₂ _ _ hC)) (k₃ _ _ hx₂) hu (by show 1 ≤ sizeLine; rw [sizeLine_eq]; decide) (fun h₄ t1 k₄ hx₄ => ?_)
    have kx : ∀ b o, b ≠ x → s.heap.get? b = some o → h₄.get? b = some o := fun b o hb e => k₄ b o hb (k₃ b o (k₂ b o (k b o e)))
    have X₄ : K.In h₄ := fun b o e => kx b o (fun z => by rw [z, hnx] at e; cases e) (X b o e)
    have hxL : x ≠ s.heap.objs.size := Nat.ne_of_lt (Heap.lt_size hx)
    have hns₄ : h₄.Ns s.heap.objs.size (fun y => List.lookup y ([(("self" : Str), Value.ref x), (f, v)].reverse)) := by
      obtain ⟨oL, es, ep, hL, r⟩ := hns
      exact ⟨oL, es, ep, k₄ _ _ hxL.symm (k₃ _ _ (k₂ _ _ hL)), r⟩
    refine ks_wpAt_execs_cons (_root_.PySem.wpAt_of_wpAny (plainObj_wpAny_Assign_Attribute ?_))
    refine wpAny_Name (wpAny_loadName_local rfl (xS_f T.fo) hns₄ hval ?_) T.fo.e4
    refine wpAny_Name (wpAny_loadName_local rfl xS_self hns₄ hself ?_) (by decide)
    refine set_plain X₄ (ox := excO C t1) (od := none) ⟨hx₄, rfl, rfl, trivial⟩ T.sa ?_
    refine osa_first X₄ hx₄ hcl T.sO (by rw [refuseLoop_ref]; exact hpass _) rfl T.noF (fun h₅ tk₅ dx k₅ dn dne hx₅ hn₅ => ?_)
    refine _root_.PySem.wpAt_of_wpAny (wpAny_execs_nil ?_)
    refine hq h₅ tk₅ dx ⟨fun b o hb e => k₅ b o hb (kx b o hb e), ⟨t1, hx₅⟩, ?_, dne, hn₅⟩
    exact Nat.le_trans (Nat.le_of_lt hns₄.lt) dn
theorem x_made (T : XTxt prog K mg nx f B i newId bmB C fI) (FB : ExcBaseFacts B newId i bmB) (KF : KxsFacts B i) {v : Value} (X : K.In s.heap) (G : s.heap.Ns mainGlobals mg) (Bl : ∃ mb, s.heap.Ns builtinsNs mb ∧ ∀ x : Str, x ≠ "__name__" → mb x = bootBuiltins x)
    (hlim : s.heap.NoLimit) (hroom : A.depth + 1 < recursionLimit)
    (hq : ∀ h' tk e d, XMade f s.heap h' e C d v → R (.ok (.ret (.ref e))) { s with heap := h', toks := tk }) :
    codeAny (model prog w) A (.call (.ref C) ⟨[v], []⟩) R s := by
  obtain ⟨nm, q, N, bs, bm, sn, sub, ab, col, dd, k0, k1, k2, k3, k5, hC, hT, hpass, hal⟩ := T.cls
  obtain ⟨mb, hB, hBB⟩ := Bl
  obtain ⟨hp, g, dr, tk, os⟩ := s
  have k : ∀ b o, hp.get? b = some o → ((hp.push (kdv_tup [v])).push (excO C hp.objs.size)).get? b = some o := fun b o e => Heap.get?_push_of_some _ (Heap.get?_push_of_some _ e)
  have hget : ((hp.push (kdv_tup [v])).push (excO C hp.objs.size)).get? (hp.objs.size + 1) = some (excO C hp.objs.size) := by heap_get
  have hnx : K.lookup (hp.objs.size + 1) = none := by
    cases e : K.lookup (hp.objs.size + 1) with
    | none => rfl
    | some o =>
      have z : hp.get? (hp.objs.size + 1) = some o := X _ _ e
      exact absurd (Nat.lt_of_succ_lt (Heap.lt_size z)) (Nat.lt_irrefl _)
  refine call_own FB hT (X _ _ hC) (looks_findIn X T.iC) (fun self => bind_fn X self T.tC) (by show 1 ≤ sizeLine; rw [sizeLine_eq]; decide) ?_
  refine x_init (s := ⟨(hp.push (kdv_tup [v])).push (excO C hp.objs.size), g, dr, tk, os⟩) T FB KF (X.keeps k) (G.keeps k) ⟨mb, hB.keeps k, hBB⟩ (hlim.keeps k) hget hnx ?_ fun h' tk' dx ⟨k', ⟨t1, hx⟩, dn, dne, hns⟩ => ?_
  · show A.depth + 1 < recursionLimit
    exact hroom
  · have old : ∀ b o, hp.get? b = some o → h'.get? b = some o := fun b o e => k' b o (Nat.ne_of_lt (Nat.lt_succ_of_lt (Heap.lt_size e))) (k b o e)
    have z : hp.objs.size + 1 + 1 ≤ dx := by
      have q := dn
      rw [Heap.size_push, Heap.size_push] at q
      exact q
    exact ⟨rfl, hq h' tk' (hp.objs.size + 1) dx ⟨old, Nat.le_succ _, ⟨_, _, hx, rfl, rfl, rfl, rfl⟩, Nat.le_trans (Nat.le_trans (Nat.le_succ _) (Nat.le_succ _)) z, dne, hns⟩⟩
end
end LfX
end PySem
namespace L2
open PySem PySem.Spec PyProof.Rows
theorem relO_one {f : Str} {v : V} {v' : Value} (r : RelV v v') (y : Str) : RelO (List.lookup y [(f, v)]) (if y = f then some v' else none) := by
  by_cases hw : y = f
  · subst hw
    rw [if_pos rfl]
    have q : List.lookup y [(y, v)] = some v := by simp [List.lookup]
    rw [q]
    exact r
  · rw [if_neg hw]
    have qw : (y == f) = false := by simpa using hw
    have q2 : List.lookup y [(f, v)] = none := by simp [List.lookup, qw]
    rw [q2]
    trivial
section
variable {X : Cx} {C fI : Addr} {nx f : Str} {B i newId : String} {bmB : List Value}
/-- C(e) for such a class -/
def tMkX (C : Addr) (f : Str) (ta : TA) : L2.St → Hp → XK → Prop := fun σ H Q => ta σ H fun vs H1 => ∃ v, vs = [v] ∧ ∀ d, H1 d = none → Q (.ref C) (some d) (upd H1 d (.xd [(f, v)]))
theorem pmk_x {a : Expr} {ta : TA} {p pos : Pos} {k : Nat} (T : PySem.LfX.XTxt X.prog X.K X.mg nx f B i newId bmB C fI) (FB : ExcBaseFacts B newId i bmB) (KF : PySem.W.KxsFacts B i) (hr : Room k X.A) (ha : PA X [a] ta) (hg : Gl X nx := by rfl) (hdb : (nx == ("__debug__" : Str)) = false := by decide)
    (he : starEach (a :: []) X.env = (false, eval a X.env) :: starEach [] X.env := by rfl) (hpl : (backTo pos (starEach [] X.env)).any (·.1) = false := by rfl) :
    PMk X (.Call (.Name nx p) [a] [] pos) (tMkX C f ta) := by
  intro pins s σ H Q I h
  refine wpAny_Call_Name_kw (ld_glob I hg T.gC ?_ hdb)
  refine PySem.W.callWith_K (h₀ := X.base) I.ok.mod.kin T.kC (thn (ha.run pos pins s σ H _ I h) fun us s1 hh => ?_) he hpl
  obtain ⟨vs, H1, I1, r1, v, ev, q1⟩ := hh
  subst ev
  refine ⟨I1.kIn, ?_⟩
  cases r1 with
  | cons rv rn =>
    rename_i v' us'
    cases rn
    show wpAny _ _ (call (.ref C) [v']) _ _ _
    have hlim := I1.nolimit
    have hG : s1.heap.Ns mainGlobals X.mg := I1.ok.mod.glob.keeps I1.bk
    have hB : ∃ mb, s1.heap.Ns builtinsNs mb ∧ ∀ x : Str, x ≠ "__name__" → mb x = bootBuiltins x := by
      obtain ⟨mb, b1, b2⟩ := I1.ok.mod.blt
      exact ⟨mb, b1.keeps I1.bk, b2⟩
    obtain ⟨hp, g, dr, tk, os⟩ := s1
    refine wpAny_call (PySem.LfX.x_made T FB KF I1.kIn hG hB hlim (by have := hr.dp; omega) fun h' tk' e d M => ?_)
    show MkP X pins σ Q (.ref e) ⟨h', g, dr, tk', os⟩
    obtain ⟨oe, fv, hoe, hc, hd, hdat, h1⟩ := M.obj
    have hns := M.ns
    obtain ⟨G', g1, g2⟩ := restrict h' fun b => decide (b ≠ e)
    have gk : ∀ b, b ≠ e → G'.get? b = h'.get? b := fun b hb => g1 b (decide_eq_true hb)
    have ge : G'.get? e = none := g2 e (by simp)
    have old : ∀ b o, hp.get? b = some o → G'.get? b = some o := fun b o q => (gk b (Nat.ne_of_lt (Nat.lt_of_lt_of_le (Heap.lt_size q) M.new))).trans (M.keep b o q)
    have ob : ObjOk X.prog X.w (upd H1 d (.xd [(f, v)])) G' d (.xd [(f, v)]) :=
      ⟨_, hns.at (fun o q => (gk d M.dne).trans q), fun y => relO_one rv y⟩
    have J : Inv X pins σ (upd H1 d (.xd [(f, v)])) ⟨G', g, dr, tk', os⟩ := I1.laid (t' := tk') old M.dbig ob
    refine ⟨e, oe, fv, ⟨G', g, dr, tk', os⟩, _, .ref C, some d, rfl, J, fun b o q => ?_, ge, hoe, ⟨hc, hd⟩, hdat, h1, ?_, rfl, I1.bare, raises_own T.exC T.tyC, q1 d (I1.hok.fresh M.dbig)⟩
    · by_cases hb : b = e
      · have q' : G'.get? b = some o := q
        rw [hb, ge] at q'; cases q'
      · exact (gk b hb).symm.trans q
    · rw [upd_ne (Ne.symm M.dne)]
      exact I1.hok.fresh M.new
end
end L2
set_option maxHeartbeats 4000000
/-! A def of the text as one fact, and its call -/
namespace L2
open PySem PySem.Spec PyProof.Rows
/-- the def x of the text stands at its name -/
def Df (K : PySem.W.Frag) (mg : Str → Option Value) (x : Str) (st : Stmt) : Prop := ∃ f fd, Fun K x x st f fd ∧ mg x = some (.ref f)
/-- the def x keeps the promise sp -/
def DefOk (P : Program) (w : World) (K : PySem.W.Frag) (mg : Str → Option Value) (base : Heap) (CX : CXT) (k : Nat) (x : Str) (ps : List Str) (sp : Sp) : Prop :=
  ∃ f fd, mg x = some (.ref f) ∧ PySem.W.keepIn K (.ref f) = true ∧ Binds K fd ps [] ∧ FnOk P w K mg base CX k f fd ps sp
section
variable {P : Program} {w : World} {K : PySem.W.Frag} {mg : Str → Option Value} {base : Heap} {x : Str} {st : Stmt} {N ps : List Str} {k : Nat} {sp : Sp}
theorem Df.ok (D : Df K mg x st) (S : FnScope N ps (defScope st))
    (bd : ∀ (kV doc pm : Value) (an : Option Addr) (cdv ct : Value) (us : List Value), us.length = ps.length → bindArgs (PySem.W.fnOf x x (defArgs st) (defBody st) (defScope st) .none kV doc pm an cdv ct) ⟨us, []⟩ = pure (ps.zip us))
    (len : ∀ vs H Q E, sp vs H Q E → vs.length = ps.length)
    (hbody : ∀ (f : Addr) (cdv : Value) (A : Around) (outer : List Env) (s : Shared) (H : Hp) (vs : List V) (Q : VK) (E : XK), Room k (A.deeper (envOfC x (defScope st) s.heap.objs.size f cdv)) → sp vs H Q E →
      ∃ t, PSs (cxOf CX0 P w K mg base N x (defScope st) f cdv A outer s H E).nox (defBody st) t ∧ t { nx := fun _ H' => Q .non H', rt := Q } (start N vs) H) : DefOk P w K mg base CX0 (k + 1) x ps sp := by
  obtain ⟨f, fd, F, hm⟩ := D
  exact ⟨f, fd, hm, F.kp, F.binds bd, F.ok S len (hbody f)⟩
theorem Df.okX (D : Df K mg x st) (S : FnScope N ps (defScope st))
    (bd : ∀ (kV doc pm : Value) (an : Option Addr) (cdv ct : Value) (us : List Value), us.length = ps.length → bindArgs (PySem.W.fnOf x x (defArgs st) (defBody st) (defScope st) .none kV doc pm an cdv ct) ⟨us, []⟩ = pure (ps.zip us))
    (len : ∀ vs H Q E, sp vs H Q E → vs.length = ps.length)
    (hbody : ∀ (f : Addr) (cdv : Value) (A : Around) (outer : List Env) (s : Shared) (H : Hp) (vs : List V) (Q : VK) (E : XK), Room k (A.deeper (envOfC x (defScope st) s.heap.objs.size f cdv)) → sp vs H Q E →
      ∃ t, PSs (cxOf (L2.CX P w) P w K mg base N x (defScope st) f cdv A outer s H E) (defBody st) t ∧ t { nx := fun _ H' => Q .non H', rt := Q } (start N vs) H) : DefOk P w K mg base (L2.CX P w) (k + 1) x ps sp := by
  obtain ⟨f, fd, F, hm⟩ := D
  exact ⟨f, fd, hm, F.kp, F.binds bd, F.okX S len (hbody f)⟩
end
section
variable {X : Cx} {CX : CXT} {k : Nat} {ps : List Str} {sp : Sp} {E : XK} {ES : St → XK} {x : Str} {p pos : Pos} {e : Expr} {es : List Expr} {t : TA}
def tCallD (sp : Sp) (E : XK) (t : TA) : TE := fun σ H Q => t σ H fun vs H1 => sp vs H1 Q E
theorem pe_callD (D : DefOk X.prog X.w X.K X.mg X.base CX k x ps sp) (hr : Room k X.A) (hx : Passes CX X E) (ha : PA X (e :: es) t) (hg : Gl X x := by rfl) (hdb : (x == ("__debug__" : Str)) = false := by decide)
    (he : starEach (e :: es) X.env = (false, eval e X.env) :: starEach es X.env := by rfl) (hpl : (backTo pos (starEach es X.env)).any (·.1) = false := by rfl) :
    PE X (.Call (.Name x p) (e :: es) [] pos) (tCallD sp E t) := by
  obtain ⟨f, fd, hm, hk, hb, F⟩ := D
  refine ⟨fun pins s σ H Q I h => (pe_call F hr hg hm hk hb (.nil) hx ha hdb he hpl).run pins s σ H Q I ?_⟩
  have q : (fun vs H1 => sp vs H1 Q E) = fun vs H1 => sp (vs ++ []) H1 Q E := by
    funext vs H1
    rw [List.append_nil]
  show t σ H (fun vs H1 => sp (vs ++ []) H1 Q E)
  rw [← q]
  exact h
theorem pe_callDS (D : DefOk X.prog X.w X.K X.mg X.base CX k x ps sp) (hr : Room k X.A) (hx : ∀ σ, PassesAt CX X σ (ES σ)) (ha : PA X (e :: es) t) (hg : Gl X x := by rfl) (hdb : (x == ("__debug__" : Str)) = false := by decide)
    (he : starEach (e :: es) X.env = (false, eval e X.env) :: starEach es X.env := by rfl) (hpl : (backTo pos (starEach es X.env)).any (·.1) = false := by rfl) :
    PE X (.Call (.Name x p) (e :: es) [] pos) (tCallS sp ES t) := by
  obtain ⟨f, fd, hm, hk, hb, F⟩ := D
  exact pe_callS F hr hg hm hk hb hx ha hdb he hpl
/-- a module's int -/
theorem pe_gInt {n : Int} (hg : Gl X x) (h : ∃ t, X.mg x = some (.int n t)) (hd : (x == ("__debug__" : Str)) = false := by decide) : PE X (.Name x pos) (tC (.int n)) := by
  obtain ⟨t, hm⟩ := h
  exact pe_glob hg hm ⟨t, rfl⟩ hd
theorem pe_gStr {n : Str} (hg : Gl X x) (h : ∃ t, X.mg x = some (.str n t)) (hd : (x == ("__debug__" : Str)) = false := by decide) : PE X (.Name x pos) (tC (.str n)) := by
  obtain ⟨t, hm⟩ := h
  exact pe_glob hg hm ⟨t, rfl⟩ hd
end
end L2
set_option maxHeartbeats 4000000
/-! Methods and properties as one fact each; sizes of ints -/
namespace L2
open PySem PySem.Spec PyProof.Rows
/-- the method m of the class at C, by its text -/
def Dm (K : PySem.W.Frag) (C : Addr) (m qual : Str) (st : Stmt) : Prop := ∃ f fd, Fun K m qual st f fd ∧ Meth K C m f
/-- the property m of the class at C, by its getter's text -/
def Dp_ (K : PySem.W.Frag) (C : Addr) (m qual : Str) (st : Stmt) : Prop := ∃ p f fd, Fun K m qual st f fd ∧ PropOf K C m p f
def MethOk (P : Program) (w : World) (K : PySem.W.Frag) (mg : Str → Option Value) (base : Heap) (CX : CXT) (k : Nat) (C : Addr) (m : Str) (ps : List Str) (sp : Sp) : Prop :=
  ∃ f fd, Meth K C m f ∧ Binds K fd ps [] ∧ FnOk P w K mg base CX k f fd ps sp
def PropOk (P : Program) (w : World) (K : PySem.W.Frag) (mg : Str → Option Value) (base : Heap) (CX : CXT) (k : Nat) (C : Addr) (m : Str) (ps : List Str) (sp : Sp) : Prop :=
  ∃ p f fd, PropOf K C m p f ∧ Binds K fd ps [] ∧ FnOk P w K mg base CX k f fd ps sp
section
variable {P : Program} {w : World} {K : PySem.W.Frag} {mg : Str → Option Value} {base : Heap} {C : Addr} {x qual : Str} {st : Stmt} {N ps : List Str} {k : Nat} {sp : Sp}
theorem Dm.ok (D : Dm K C x qual st) (S : FnScope N ps (defScope st))
    (bd : ∀ (kV doc pm : Value) (an : Option Addr) (cdv ct : Value) (us : List Value), us.length = ps.length → bindArgs (PySem.W.fnOf x qual (defArgs st) (defBody st) (defScope st) .none kV doc pm an cdv ct) ⟨us, []⟩ = pure (ps.zip us))
    (len : ∀ vs H Q E, sp vs H Q E → vs.length = ps.length)
    (hbody : ∀ (f : Addr) (cdv : Value) (A : Around) (outer : List Env) (s : Shared) (H : Hp) (vs : List V) (Q : VK) (E : XK), Room k (A.deeper (envOfC qual (defScope st) s.heap.objs.size f cdv)) → sp vs H Q E →
      ∃ t, PSs (cxOf CX0 P w K mg base N qual (defScope st) f cdv A outer s H E).nox (defBody st) t ∧ t { nx := fun _ H' => Q .non H', rt := Q } (start N vs) H) : MethOk P w K mg base CX0 (k + 1) C x ps sp := by
  obtain ⟨f, fd, F, hm⟩ := D
  exact ⟨f, fd, hm, F.binds bd, F.ok S len (hbody f)⟩
theorem Dp_.ok (D : Dp_ K C x qual st) (S : FnScope N ps (defScope st))
    (bd : ∀ (kV doc pm : Value) (an : Option Addr) (cdv ct : Value) (us : List Value), us.length = ps.length → bindArgs (PySem.W.fnOf x qual (defArgs st) (defBody st) (defScope st) .none kV doc pm an cdv ct) ⟨us, []⟩ = pure (ps.zip us))
    (len : ∀ vs H Q E, sp vs H Q E → vs.length = ps.length)
    (hbody : ∀ (f : Addr) (cdv : Value) (A : Around) (outer : List Env) (s : Shared) (H : Hp) (vs : List V) (Q : VK) (E : XK), Room k (A.deeper (envOfC qual (defScope st) s.heap.objs.size f cdv)) → sp vs H Q E →
      ∃ t, PSs (cxOf CX0 P w K mg base N qual (defScope st) f cdv A outer s H E).nox (defBody st) t ∧ t { nx := fun _ H' => Q .non H', rt := Q } (start N vs) H) : PropOk P w K mg base CX0 (k + 1) C x ps sp := by
  obtain ⟨p, f, fd, F, hm⟩ := D
  exact ⟨p, f, fd, hm, F.binds bd, F.ok S len (hbody f)⟩
end
section
variable {X : Cx} {CX : CXT} {k : Nat} {C : Addr} {ps : List Str} {sp : Sp} {E : XK} {m : Str} {p pos apos : Pos} {o e : Expr} {es : List Expr} {ta : TE} {t : TA}
def tMethD (C : Addr) (m : Str) (sp : Sp) (E : XK) (ta : TE) (t : TA) : TE := fun σ H Q => ta σ H fun x H1 => ∃ a dx fs, x = .ref a ∧ H1 a = some (.ins C dx fs) ∧ fs.lookup m = none ∧ t σ H1 fun vs H2 => sp (x :: vs) H2 Q E
theorem meth_nil {ta : TE} {t : TA} {σ : St} {H : Hp} {Q : VK} (h : tMethD C m sp E ta t σ H Q) : tMeth C m sp [] E ta t σ H Q := by
  have e : tMethD C m sp E ta t = tMeth C m sp [] E ta t := by
    funext σ H Q
    unfold tMethD tMeth
    simp only [List.append_nil]
  rw [← e]
  exact h
theorem pe_methD {pl : Sem Bool} (he : PE X o ta) (c : Cls X.K C) (D : MethOk X.prog X.w X.K X.mg X.base CX k C m ps sp) (hr : Room k X.A) (hx : Passes CX X E) (ha : PA X (e :: es) t)
    (hst : starEach (e :: es) X.env = (false, eval e X.env) :: starEach es X.env := by rfl) (hpl : (backTo pos (starEach es X.env)).any (·.1) = false := by rfl)
    (ht : eval (.Call (.Attribute o m apos) (e :: es) [] pos) X.env = (do
      let ov ← eval o X.env
      standAt apos.atName
      let (f, first) ← holding [ov] (getMethod ov m pl)
      callWith pos f first (backTo pos (starEach (e :: es) X.env)) (backToKw pos (keywordEach [] X.env))) := by rfl) :
    PE X (.Call (.Attribute o m apos) (e :: es) [] pos) (tMethD C m sp E ta t) := by
  obtain ⟨f, fd, hm, hb, F⟩ := D
  exact ⟨fun pins s σ H Q I h => (pe_meth he c hm F hr hb .nil hx ha hst hpl ht).run pins s σ H Q I (meth_nil h)⟩
theorem pe_methD0 {pl : Sem Bool} (he : PE X o ta) (c : Cls X.K C) (D : MethOk X.prog X.w X.K X.mg X.base CX k C m ps sp) (hr : Room k X.A) (hx : Passes CX X E)
    (ht : eval (.Call (.Attribute o m apos) [] [] pos) X.env = (do
      let ov ← eval o X.env
      standAt apos.atName
      let (f, first) ← holding [ov] (getMethod ov m pl)
      callWith pos f first (backTo pos (starEach [] X.env)) (backToKw pos (keywordEach [] X.env))) := by rfl) :
    PE X (.Call (.Attribute o m apos) [] [] pos) (tMethD C m sp E ta tNil) := by
  obtain ⟨f, fd, hm, hb, F⟩ := D
  exact ⟨fun pins s σ H Q I h => (pe_meth0 he c hm F hr hb .nil hx ht).run pins s σ H Q I (meth_nil h)⟩
/-- e.f, a property -/
theorem pe_propD (he : PE X e ta) (c : Cls X.K C) (D : PropOk X.prog X.w X.K X.mg X.base CX k C m ps sp) (hr : Room (k + 1) X.A) (hx : Passes CX X.nox E)
    (hab : attributeBase e m X.env (eval e X.env) = eval e X.env := by rfl) : PE X (.Attribute e m pos) (tProp C sp [] E ta) := by
  obtain ⟨p, f, fd, hm, hb, F⟩ := D
  exact pe_prop he c hm F hr hb .nil hx hab
/-- // by any great divisor but 0 -/
def CDivV (_ j : Int) : Prop := j ≠ 0 ∧ j.natAbs.log2 < 9000
theorem op_fdivV : OpR X (binaryOp .FloorDiv) (rI CDivV fun i j => .int (i.fdiv j)) := opI fun _ _ _ _ _ _ _ hc q => floordiv_int hc.1 q (.inl (PyProof.noPylong_of_log2 hc.2))
end
end L2
namespace Lf
open PySem L2
/-! ### sizes -/
def Bd (n : Nat) (i : Int) : Prop := i.natAbs < 2 ^ n
theorem Bd.mono {n m : Nat} {i : Int} (h : Bd n i) (hm : n ≤ m) : Bd m i := Nat.lt_of_lt_of_le h (Nat.pow_le_pow_right (by decide) hm)
theorem Bd.add {n m : Nat} {i j : Int} (h : Bd n i) (h' : Bd n j) (hm : n + 1 ≤ m) : Bd m (i + j) := by
  refine Bd.mono (n := n + 1) ?_ hm
  unfold Bd at *
  have := Int.natAbs_add_le i j
  rw [Nat.pow_succ]
  omega
theorem Bd.neg {n : Nat} {i : Int} (h : Bd n i) : Bd n (-i) := by
  unfold Bd at *
  rw [Int.natAbs_neg]
  exact h
theorem Bd.sub {n m : Nat} {i j : Int} (h : Bd n i) (h' : Bd n j) (hm : n + 1 ≤ m) : Bd m (i - j) := by
  rw [Int.sub_eq_add_neg]
  exact Bd.add h h'.neg hm
theorem Bd.mul {n m k : Nat} {i j : Int} (h : Bd n i) (h' : Bd m j) (hk : n + m ≤ k) : Bd k (i * j) := Bd.mono (wide_lt h h') hk
theorem Bd.ok {n m : Nat} {i j : Int} (h : Bd n i) (h' : Bd m j) (h0 : 0 < n) (h1 : 0 < m) (hs : n + m ≤ 1000000) : CMulW i j := wide_mul h h' h0 h1 hs
theorem Bd.div {n : Nat} {i j : Int} (h : Bd n i) : Bd n (i / j) := Nat.lt_of_le_of_lt (Int.natAbs_ediv_le_natAbs i j) h
theorem Bd.dok {n : Nat} {i j : Int} (h : Bd n j) (hj : j ≠ 0) (h0 : 0 < n) (h9 : n ≤ 9000) : CDivV i j := ⟨hj, Nat.lt_of_lt_of_le (PySem.Flt.log2_lt_of h0 h) h9⟩
theorem Bd.dpos {n : Nat} {i j : Int} (h : Bd n j) (hj : 0 < j) (h0 : 0 < n) (h9 : n ≤ 9000) : CDivW i j := wide_div hj h h0 h9
theorem Bd.lit {n : Nat} {i : Int} (h : i.natAbs < 2 ^ n) : Bd n i := h
end Lf
set_option maxHeartbeats 4000000
/-! match over a tuple: sequence patterns of names, perhaps a last *name, with a guard -/
namespace L2
open PySem PySem.Spec PyProof.Rows
/-- the patterns are plain names -/
def Caps (ps : List Pattern) (ns : List Str) : Prop := Paired (fun p n => ∃ q, p = Pattern.MatchAs none (some n) q) ps ns
section
variable {M : Model} {A : Around} {E : Value → Shared → Prop} {s : Shared} {env : Env}
theorem each_caps {ns : List Str} {ps more : List Pattern} {us rest : List Value} {Q : Option (List (Str × Value)) → Shared → Prop} (c : Caps ps ns) (hl : us.length = ns.length)
    (h : wpAny M A (matchEach more env rest) (fun r s1 => match r with | none => False | some bs => Q (some (ns.zip us ++ bs)) s1) E s) : wpAny M A (matchEach (ps ++ more) env (us ++ rest)) Q E s := by
  induction ns generalizing ps us Q with
  | nil =>
    cases c
    cases us with
    | nil =>
      refine wpAny_mono h (fun r s1 z => ?_) fun _ _ z => z
      cases r with
      | none => exact z.elim
      | some bs => exact z
    | cons u us => cases hl
  | cons n ns ih =>
    cases c with
    | cons c0 c1 =>
      obtain ⟨q, rfl⟩ := c0
      cases us with
      | nil => cases hl
      | cons u us =>
        refine wpAny_matchEach_cons (wpAny_matchPattern_Capture ?_)
        show wpAny M A (matchEach _ env (us ++ rest)) _ E s
        refine ih c1 (by simpa using hl) (wpAny_mono h (fun r s1 z => ?_) fun _ _ z => z)
        cases r with
        | none => exact z.elim
        | some bs => exact z
end
section
variable {prog : Program} {w : World} {A : Around} {E : Value → Shared → Prop} {s : Shared}
/-- the items of a tuple, the last ones as a new list -/
theorem unpack_last {l : Addr} {items : Array Value} {i : Nat} {Q : List Value → Shared → Prop} (hh : A.handled = none) (hl : IsTup s.heap l items) (hi : i ≤ items.size) (hz : items.size ≤ sizeLine)
    (h : ∀ (h' : Heap) (tk : Nat), (∀ b o, s.heap.get? b = some o → h'.get? b = some o) → Q (items.toList.take i ++ [.ref h'.objs.size]) { s with heap := h'.push { cls := .type "list", data := .seq (items.toList.drop i).toArray }, toks := tk }) : wpAny (model prog w) A (unpackItems (.ref l) (i + 1) (some i)) Q E s := by
  have ne : l ≠ s.heap.objs.size := by obtain ⟨o, ho, _⟩ := hl; exact Nat.ne_of_lt (Heap.lt_size ho)
  unfold unpackItems
  refine wpAny_bind ?_
  unfold notIterableAtAll
  refine wpAny_bind (wpAny_specialOf (T := "tuple") hl.typeIs PyProof.Rows.slot_tuple_iter.lookup (wpAny_pure ?_))
  rw [if_neg (by simp)]
  refine wpAny_bind (wpAny_holding (iter_tuple (t := l) hl ?_))
  refine wpAny_bind (wpAny_holding (draw_tuple (t := l) ne i 0 _ _ ⟨_, Heap.get?_push_size _ rfl, rfl, rfl⟩ (hl.push _) (by omega) fun h1 it1 sb1 => ?_))
  have hl1 : IsTup h1 l items := (hl.push _).extBut sb1.extBut ne
  rw [Nat.zero_add] at it1
  obtain ⟨oi, hoi, _⟩ := id it1
  obtain ⟨ol, hol, _⟩ := id hl1
  rw [List.drop_zero]
  have fl : (items.toList.take i).length = i := by rw [List.length_take, Array.length_toList]; omega
  rw [if_neg (by omega)]
  refine wpAny_bind (wpAny_holding (PySem.W.kun_collect (T := "tuple_iterator") (s := { s with heap := h1 }) (.inr (.inr (.inr rfl))) (Walks.tuple (A := A.in1) hh s.heap.objs.size l ne items) (fun j u st => st.1.typeIs) hi ⟨it1, hl1⟩ (Heap.lt_size hoi) (Heap.lt_size hol) (fun h2 tk hk => ?_) hz))
  have e0 : i + 1 - 1 - i = 0 := by omega
  dsimp only
  rw [e0, if_neg (by omega), Nat.sub_zero, List.take_length, List.drop_length]
  refine wpAny_bind (wpAny_newList (wpAny_pure ?_) (by rw [List.length_drop, Array.length_toList]; omega))
  rw [List.append_nil]
  exact h h2 tk fun b o e => hk b o (Nat.ne_of_lt (Heap.lt_size e)) (sb1.extBut b o (Nat.ne_of_lt (Heap.lt_size e)) (Heap.get?_push_of_some _ e))
end
section
variable {X : Cx}
/-- the cases, from the subject's value on -/
structure PMc (X : Cx) (cs : List MatchCase) (t : V → TS) : Prop where
  run : ∀ (first : Bool) (pins : List (Addr × Obj)) (s : Shared) (σ : St) (H : Hp) (D : Ends) (v : V) (u : Value), Inv X pins σ H s → RelV v u → t v D σ H → wpAny (model X.prog X.w) X.A (matchCases cs X.env u first) (SP X pins D) X.xe s
theorem pmc_nil : PMc X [] (fun _ D σ H => D.nx σ H) := ⟨fun _ pins s σ H D v u I r h => wpAny_matchCases_nil ⟨σ, H, I, h⟩⟩
def tMatch (te : TE) (t : V → TS) : TS := fun D σ H => te σ H fun v H1 => t v D σ H1
theorem ps_match {e : Expr} {cs : List MatchCase} {pos : Pos} {te : TE} {t : V → TS} (he : PE X e te) (hc : PMc X cs t) : PS X (.Match e cs pos) (tMatch te t) := by
  refine ⟨fun pins s σ H D I h => wpAny_Match (thn (he.run pins s σ H _ I h) fun u s1 ⟨v, H1, I1, r1, q1⟩ => ?_)⟩
  exact hc.run true pins s1 σ H1 D v u I1 r1 q1
/-- names bound in order -/
structure PNs (X : Cx) (ns : List Str) (t : TGs) : Prop where
  run : ∀ (pins : List (Addr × Obj)) (s : Shared) (σ : St) (H : Hp) (vs : List V) (us : List Value) (Q : St → Hp → Prop), Inv X pins σ H s → Vals vs us → t vs σ H Q →
    wpAny (model X.prog X.w) X.A (assignInOrder (ns.map fun n => bindName X.env n) us) (fun _ s' => ∃ σ' H', Inv X pins σ' H' s' ∧ Q σ' H') X.xe s
theorem pns_nil : PNs X [] gNil := by
  refine ⟨fun pins s σ H vs us Q I r h => ?_⟩
  obtain ⟨rfl, h⟩ := h
  cases r
  exact PyProof.Rows.assignInOrder_nil ⟨σ, H, I, h⟩
theorem pns_cons {i : Nat} {x : Str} {ns : List Str} {u : TGs} (hN : X.N.Nodup) (hi : X.N[i]? = some x) (hx : Loc X.env.scope x) (h2 : PNs X ns u) (hf : X.fn x = true ∨ X.env.scope.names.lookup x = some .local := by first | exact .inl rfl | exact .inr rfl | assumption) : PNs X (x :: ns) (gCons (gName i) u) := by
  refine ⟨fun pins s σ H vs us Q I r h => ?_⟩
  obtain ⟨v, vr, rfl, h⟩ := h
  cases r with
  | cons r0 rr =>
    refine PyProof.Rows.assignInOrder_cons (wpAny_bindName (store_ok I hN hi hx r0 (fun s' I' => ?_) hf))
    exact h2.run pins s' _ H vr _ Q I' rr h
theorem caps_len {ps : List Pattern} {ns : List Str} (c : Caps ps ns) : ps.length = ns.length := by
  induction c with
  | nil => rfl
  | cons _ _ ih => rw [List.length_cons, List.length_cons, ih]
theorem zip_names (env : Env) : ∀ (ns : List Str) (us : List Value), us.length = ns.length → ((ns.zip us).map fun (n, _) => bindName env n) = (ns.map fun n => bindName env n) ∧ (ns.zip us).map (·.2) = us
  | [], [], _ => ⟨rfl, rfl⟩
  | n :: ns, u :: us, h => by
    obtain ⟨h1, h2⟩ := zip_names env ns us (by simpa using h)
    rw [List.zip_cons_cons, List.map_cons, List.map_cons, List.map_cons, h1, h2]
    exact ⟨rfl, rfl⟩
def tAfter (tg : TT) (tb : TS) (r : V → TS) (v : V) (D : Ends) : St → Hp → Prop := fun σ1 H1 => tg σ1 H1 fun b H2 => if b = true then tb D σ1 H2 else r v D σ1 H2
def tCase (K : PySem.W.Frag) (n : Nat) (g : TGs) (tg : TT) (tb : TS) (r : V → TS) : V → TS := fun v D σ H => ∃ a xs, v = .ref a ∧ SqT K H a xs ∧ (xs.length = n → g xs σ H (tAfter tg tb r v D)) ∧ (xs.length ≠ n → r v D σ H)
theorem pmc_case {ps : List Pattern} {ns : List Str} {n : Nat} {gd : Expr} {body : List Stmt} {rest : List MatchCase} {pos : Pos} {g : TGs} {tg : TT} {tb : TS} {r : V → TS} (hc : X.calm = true) (cp : Caps ps ns) (hl : ps.length = n) (hn : PNs X ns g) (hg : PT X gd tg) (hb : PSs X body tb) (hr : PMc X rest r)
    (hstar : ps.findIdx? (·.isStar) = none := by rfl) (hwild : (ps.all fun p => p.isWildcard || (p.isStar && p.names.isEmpty)) = false := by rfl) : PMc X (⟨.MatchSequence ps pos, some gd, body⟩ :: rest) (tCase X.K n g tg tb r) := by
  refine ⟨fun first pins s σ H D v u I rv h => ?_⟩
  obtain ⟨a, xs, rfl, hs, h1, h2⟩ := h
  cases rv
  obtain ⟨its, rvs, ht, hz⟩ := I.tuple hs
  have zl : sizeLine = 2 ^ 24 := rfl
  have hsz : its.toArray.size = xs.length := by rw [List.size_toArray, ← rvs.length]
  refine wpAny_matchCases_cons ?_
  by_cases hm : xs.length = n
  · refine matchSeq_tuple_hit ht (by rw [hsz]; omega) (by rw [hsz, hl, hm]) ?_ hstar hwild
    rw [show ps.length = its.toArray.size by rw [hsz, hl, hm]]
    refine unpackItems_tuple (I.ok.hd hc) ht fun h' he => ?_
    have I1 : Inv X pins σ H { s with heap := h', toks := s.toks + 1 + 1 } := I.kept fun b o e => he b o (Nat.ne_of_lt (Heap.lt_size e)) e
    have el : its.length = ns.length := by rw [← rvs.length, hm, ← hl, caps_len cp]
    have hh := each_caps (M := model X.prog X.w) (A := X.A) (E := X.xe) (s := { s with heap := h', toks := s.toks + 1 + 1 }) (env := X.env) (more := []) (rest := []) (us := its) (Q := fun r s₁ => match r with
          | none => wpAny (model X.prog X.w) X.A (matchCases rest X.env (.ref a) false) (SP X pins D) X.xe s₁
          | some bs => wpAny (model X.prog X.w) X.A (assignInOrder (bs.map fun (n, _) => bindName X.env n) (bs.map (·.2))) (fun _ s₂ =>
              wpAny (model X.prog X.w) X.A (isTrue gd X.env (eval gd X.env)) (fun ok s₃ => if ok then wpAny (model X.prog X.w) X.A (execs body X.env) (SP X pins D) X.xe s₃ else wpAny (model X.prog X.w) X.A (matchCases rest X.env (.ref a) false) (SP X pins D) X.xe s₃) X.xe s₂) X.xe s₁) cp el
        (by
          refine wpAny_pure ?_
          dsimp only
          rw [List.append_nil, (zip_names X.env _ _ el).1, (zip_names X.env _ _ el).2]
          refine thn (hn.run pins _ σ H xs its _ I1 rvs (h1 hm)) fun _ s2 ⟨σ2, H2, I2, q2⟩ => ?_
          refine thn (hg.run pins s2 σ2 H2 _ I2 q2) fun ok s3 ⟨H3, I3, q3⟩ => ?_
          cases ok with
          | true => exact hb.run pins s3 σ2 H3 D I3 q3
          | false => exact hr.run false pins s3 σ2 H3 D (.ref a) _ I3 rfl q3)
    rw [List.append_nil, List.append_nil] at hh
    exact hh
  · refine matchSeq_tuple_miss ht (by rw [hsz]; omega) (by rw [hsz, hl]; exact hm) ?_ hstar hwild
    exact hr.run false pins _ σ H D (.ref a) _ (I.kept (t' := s.toks + 1 + 1) fun b o e => e) rfl (h2 hm)
/-- a last *name -/
def tCaseS (K : PySem.W.Frag) (n : Nat) (g : TGs) (tg : TT) (tb : TS) (r : V → TS) : V → TS := fun v D σ H => ∃ a xs, v = .ref a ∧ SqT K H a xs ∧ (n ≤ xs.length → ∀ p, H p = none → g (xs.take n ++ [.ref p]) σ (upd H p (.lst (xs.drop n))) (tAfter tg tb r v D)) ∧ (xs.length < n → r v D σ H)
theorem pmc_caseS {ps : List Pattern} {ns : List Str} {x : Str} {q : Pos} {n : Nat} {gd : Expr} {body : List Stmt} {rest : List MatchCase} {pos : Pos} {g : TGs} {tg : TT} {tb : TS} {r : V → TS} (hc : X.calm = true) (cp : Caps ps ns) (hl : ps.length = n) (h0 : 0 < n) (hn : PNs X (ns ++ [x]) g) (hg : PT X gd tg) (hb : PSs X body tb) (hr : PMc X rest r)
    (hstar : (ps ++ [Pattern.MatchStar (some x) q]).findIdx? (·.isStar) = some n := by rfl) (hwild : ((ps ++ [Pattern.MatchStar (some x) q]).all fun p => p.isWildcard || (p.isStar && p.names.isEmpty)) = false := by rfl)
    (hnm : (((ps ++ [Pattern.MatchStar (some x) q])[n]?).elim [] (·.names)).isEmpty = false := by rfl) : PMc X (⟨.MatchSequence (ps ++ [Pattern.MatchStar (some x) q]) pos, some gd, body⟩ :: rest) (tCaseS X.K n g tg tb r) := by
  refine ⟨fun first pins s σ H D v u I rv h => ?_⟩
  obtain ⟨a, xs, rfl, hs, h1, h2⟩ := h
  cases rv
  obtain ⟨its, rvs, ht, hz⟩ := I.tuple hs
  have zl : sizeLine = 2 ^ 24 := rfl
  have hsz : its.toArray.size = xs.length := by rw [List.size_toArray, ← rvs.length]
  have hpl : (ps ++ [Pattern.MatchStar (some x) q]).length = n + 1 := by rw [List.length_append, hl]; rfl
  refine wpAny_matchCases_cons ?_
  by_cases hm : n ≤ xs.length
  · refine PySem.W.kun_seqT ht (by rw [hsz]; omega) hstar hwild hnm (by rw [hpl]; omega) (by rw [hpl, hsz]; omega) ?_
    rw [hpl]
    refine unpack_last (I.ok.hd hc) ht (by rw [hsz]; omega) (by rw [hsz]; exact hz) fun h' tk hk => ?_
    have I0 : Inv X pins σ H { s with heap := h', toks := tk } := I.kept hk
    have hf : H h'.objs.size = none := I0.hok.fresh (Nat.le_refl _)
    have rd : Vals (xs.drop n) (its.drop n) := rvs.drop n
    have I1 : Inv X pins σ (upd H h'.objs.size (.lst (xs.drop n))) { s with heap := h'.push { cls := .type "list", data := .seq (its.toArray.toList.drop n).toArray }, toks := tk } :=
      I0.laid (t' := tk) (fun b o e => Heap.get?_push_of_some _ e) (Nat.le_refl _) ⟨by rw [List.length_drop]; omega, its.drop n, 0, rd, Heap.get?_push_size _ rfl⟩
    have rt : Vals (xs.take n ++ [.ref h'.objs.size]) (its.take n ++ [.ref h'.objs.size]) := (rvs.take n).append (.cons rfl .nil)
    have tl : (its.take n).length = ns.length := by rw [List.length_take, ← rvs.length, ← caps_len cp, hl]; omega
    have el : (its.take n ++ [Value.ref h'.objs.size]).length = (ns ++ [x]).length := by rw [List.length_append, List.length_append, tl]; rfl
    refine each_caps cp (us := its.take n) (rest := [.ref h'.objs.size]) tl (PySem.W.kun_each (wpAny_matchEach_nil ?_))
    have ez : ns.zip (its.take n) ++ ((some x).map fun y => (y, Value.ref h'.objs.size)).toList = (ns ++ [x]).zip (its.take n ++ [Value.ref h'.objs.size]) := by rw [List.zip_append tl.symm]; rfl
    dsimp only
    rw [List.append_nil, ez, (zip_names X.env _ _ el).1, (zip_names X.env _ _ el).2]
    refine thn (hn.run pins _ σ _ _ _ _ I1 rt (h1 hm _ hf)) fun _ s2 ⟨σ2, H2, I2, q2⟩ => ?_
    refine thn (hg.run pins s2 σ2 H2 _ I2 q2) fun ok s3 ⟨H3, I3, q3⟩ => ?_
    cases ok with
    | true => exact hb.run pins s3 σ2 H3 D I3 q3
    | false => exact hr.run false pins s3 σ2 H3 D (.ref a) _ I3 rfl q3
  · refine PySem.W.kun_fewT ht (by rw [hsz]; omega) hstar (by rw [hpl]; omega) (by rw [hpl, hsz]; omega) ?_
    exact hr.run false pins _ σ H D (.ref a) _ (I.kept (t' := s.toks + 1 + 1) fun b o e => e) rfl (h2 (by omega))
end
end L2
namespace L2
open PySem PySem.Spec PyProof.Rows
section
variable {X : Cx}
theorem pmc_caseT {pats ps : List Pattern} {ns : List Str} {x : Str} {q : Pos} {n : Nat} {gd : Expr} {body : List Stmt} {rest : List MatchCase} {pos : Pos} {g : TGs} {tg : TT} {tb : TS} {r : V → TS} (hc : X.calm = true) (hp : pats = ps ++ [Pattern.MatchStar (some x) q]) (cp : Caps ps ns) (hl : ps.length = n) (h0 : 0 < n) (hn : PNs X (ns ++ [x]) g) (hg : PT X gd tg) (hb : PSs X body tb) (hr : PMc X rest r)
    (hstar : pats.findIdx? (·.isStar) = some n := by rfl) (hwild : (pats.all fun p => p.isWildcard || (p.isStar && p.names.isEmpty)) = false := by rfl)
    (hnm : ((pats[n]?).elim [] (·.names)).isEmpty = false := by rfl) : PMc X (⟨.MatchSequence pats pos, some gd, body⟩ :: rest) (tCaseS X.K n g tg tb r) := by
  subst hp
  exact pmc_caseS hc cp hl h0 hn hg hb hr hstar hwild hnm
end
end L2
namespace L2
open PySem
/-- a case, with a word about where the next one begins -/
theorem tCase_cut {K : PySem.W.Frag} {n : Nat} {g : TGs} {tg : TT} {tb : TS} {r : V → TS} {D : Ends} {σ : St} {H : Hp} {a : Addr} {xs : List V} (Mid : St → Hp → Prop) (hq : SqT K H a xs) (yes : xs.length = n → ∀ r' : V → TS, (∀ σ1 H1, Mid σ1 H1 → r' (.ref a) D σ1 H1) → g xs σ H (tAfter tg tb r' (.ref a) D))
    (no : xs.length ≠ n → Mid σ H) (rest : ∀ σ1 H1, Mid σ1 H1 → r (.ref a) D σ1 H1) : tCase K n g tg tb r (.ref a) D σ H := ⟨a, xs, rfl, hq, fun h => yes h r rest, fun h => rest _ _ (no h)⟩
end L2
set_option maxHeartbeats 4000000
/-! Kinds of values, numbers; the defs is_number, is_integer, require_integer -/
namespace Lf
open PySem L2
/-- the built-in kind of a value -/
inductive Kd (H : Hp) : V → String → Prop
  | non : Kd H .non "NoneType"
  | bl (b : Bool) : Kd H (.bl b) "bool"
  | int (i : Int) : Kd H (.int i) "int"
  | str (x : Str) : Kd H (.str x) "str"
  | lst {a : Addr} {xs : List V} (e : H a = some (.lst xs)) : Kd H (.ref a) "list"
  | tup {a : Addr} {xs : List V} (e : H a = some (.tup xs)) : Kd H (.ref a) "tuple"
  | dic {a : Addr} {kvs : List (Key × V)} (e : H a = some (.dK kvs)) : Kd H (.ref a) "dict"
theorem Kd.ty {H : Hp} {v : V} {t : String} (K : PySem.W.Frag) (k : Kd H v t) : TyX K H v (.type t) := by
  cases k with
  | non => exact .base .non
  | bl b => exact .base (.bl b)
  | int i => exact .base (.int i)
  | str x => exact .base (.str x)
  | lst e => exact .base (.lst e)
  | tup e => exact .base (.tup e)
  | dic e => exact .base (.dK e)
theorem Kd.same {H H' : Hp} {v : V} {t : String} (s : Same H H') (k : Kd H v t) : Kd H' v t := by
  cases k with
  | non => exact .non
  | bl b => exact .bl b
  | int i => exact .int i
  | str x => exact .str x
  | lst e => exact .lst (s _ _ e)
  | tup e => exact .tup (s _ _ e)
  | dic e => exact .dic (s _ _ e)
def numV : V → Bool
  | .int _ => true
  | _ => false
def lim : Int := 1000000000000000000000000000000
def intV : V → Bool
  | .int i => decide (-lim < i) && decide (i < lim)
  | _ => false
theorem Kd.int_ {H : Hp} {v : V} {t : String} (k : Kd H v t) : kitB t "int" = some (numV v || t == "bool") := by
  cases k <;> (first | rfl | decide +kernel)
theorem Kd.bool_ {H : Hp} {v : V} {t : String} (k : Kd H v t) : kitB t "bool" = some (t == "bool") := by
  cases k <;> (first | rfl | decide +kernel)
theorem Kd.tuple_ {H : Hp} {v : V} {t : String} (k : Kd H v t) : kitB t "tuple" = some (t == "tuple") := by
  cases k <;> (first | rfl | decide +kernel)
theorem Kd.num_ {H : Hp} {v : V} {t : String} (k : Kd H v t) : (if (numV v || t == "bool") = true then (!(t == "bool")) else false) = numV v := by
  cases k <;> (first | rfl | decide +kernel)
theorem if_so {c : Bool} {A B : Prop} (hc : c = true) (h : A) : if c = true then A else B := by
  rw [if_pos hc]
  exact h
theorem if_no {c : Bool} {A B : Prop} (hc : c = false) (h : B) : if c = true then A else B := by
  rw [hc, if_neg Bool.false_ne_true]
  exact h
def spIsNumber : Sp := fun vs H Q _ => ∃ v t, vs = [v] ∧ Kd H v t ∧ Q (.bl (numV v)) H
def spIsInteger : Sp := fun vs H Q _ => ∃ v t, vs = [v] ∧ Kd H v t ∧ Q (.bl (intV v)) H
def spReqInt (CN : Addr) : Sp := fun vs H Q E => ∃ v t, vs = [v] ∧ Kd H v t ∧ (intV v = true → Q .non H) ∧
  (intV v = false → ∀ d, H d = none → E (.ref CN) (some d) (upd H d (.xd [("value", v)])))
/-- the builtins' names that are not bound by the text, the constants -/
structure NumT (K : PySem.W.Frag) (mg : Str → Option Value) : Prop where
  n_isinstance : mg "isinstance" = none
  n_int : mg "int" = none
  n_bool : mg "bool" = none
  g_LIMIT : ∃ t, mg "LIMIT" = some (.int lim t)
section
variable {P : Program} {w : World} {K : PySem.W.Frag} {mg : Str → Option Value} {base : Heap} {st : Stmt}
end
end Lf
set_option maxHeartbeats 4000000
/-! Data of any depth in the heap (tuples, lists, texts, ints, bools, None, empty dicts), and what evaluates to data -/
namespace Lf
open PySem L2 Evl
/-- a key as data -/
def keyD : Key → PyData
  | .inl i => .int i
  | .inr x => .str x
mutual
inductive Da (H : Hp) : V → PyData → Prop
  | non : Da H .non .none
  | bl (b : Bool) : Da H (.bl b) (.bool b)
  | int (i : Int) : Da H (.int i) (.int i)
  | str (x : Str) (h : x.length ≤ 1000) : Da H (.str x) (.str x)
  | lst {a : Addr} {xs : List V} {ds : List PyData} (e : H a = some (.lst xs)) (h : DaAll H xs ds) : Da H (.ref a) (.list ds)
  | tup {a : Addr} {xs : List V} {ds : List PyData} (e : H a = some (.tup xs)) (h : DaAll H xs ds) : Da H (.ref a) (.tuple ds)
  | dct {a : Addr} {kvs : List (Key × V)} {ds : List (PyData × PyData)} (e : H a = some (.dK kvs)) (h : DaKvs H kvs ds) : Da H (.ref a) (.dict ds)
inductive DaAll (H : Hp) : List V → List PyData → Prop
  | nil : DaAll H [] []
  | cons {v : V} {vs : List V} {d : PyData} {ds : List PyData} (h : Da H v d) (t : DaAll H vs ds) : DaAll H (v :: vs) (d :: ds)
inductive DaKvs (H : Hp) : List (Key × V) → List (PyData × PyData) → Prop
  | nil : DaKvs H [] []
  | cons {k : Key} {v : V} {vs : List (Key × V)} {d : PyData} {ds : List (PyData × PyData)} (h : Da H v d) (t : DaKvs H vs ds) : DaKvs H ((k, v) :: vs) ((keyD k, d) :: ds)
end
theorem Da.dic {H : Hp} {a : Addr} (e : H a = some (.dK [])) : Da H (.ref a) (.dict []) := .dct e .nil
section
variable {H H' : Hp}
mutual
theorem Da.mono (x : Ex H H') : ∀ (d : PyData) (v : V), Da H v d → Da H' v d
  | .none, _, h => by cases h; exact .non
  | .bool b, _, h => by cases h; exact .bl _
  | .int i, _, h => by cases h; exact .int _
  | .str s, _, h => by cases h with | str _ hl => exact .str _ hl
  | .list ds, _, h => by cases h with | lst e ha => exact .lst (x _ _ e) (DaAll.mono x ds _ ha)
  | .tuple ds, _, h => by cases h with | tup e ha => exact .tup (x _ _ e) (DaAll.mono x ds _ ha)
  | .dict ds, _, h => by cases h with | dct e ha => exact .dct (x _ _ e) (DaKvs.mono x ds _ ha)
theorem DaAll.mono (x : Ex H H') : ∀ (ds : List PyData) (vs : List V), DaAll H vs ds → DaAll H' vs ds
  | [], _, h => by cases h; exact .nil
  | d :: ds, _, h => by cases h with | cons h t => exact .cons (Da.mono x d _ h) (DaAll.mono x ds _ t)
theorem DaKvs.mono (x : Ex H H') : ∀ (ds : List (PyData × PyData)) (vs : List (Key × V)), DaKvs H vs ds → DaKvs H' vs ds
  | [], _, h => by cases h; exact .nil
  | (k, d) :: ds, _, h => by cases h with | cons h t => exact .cons (Da.mono x d _ h) (DaKvs.mono x ds _ t)
end
theorem DaKvs.up {ds : List (PyData × PyData)} {vs : List (Key × V)} (h : DaKvs H vs ds) (x : Ex H H') : DaKvs H' vs ds := DaKvs.mono x ds vs h
theorem DaKvs.len {ds : List (PyData × PyData)} {vs : List (Key × V)} (h : DaKvs H vs ds) : vs.length = ds.length := by
  induction ds generalizing vs with
  | nil => cases h; rfl
  | cons d ds ih => cases h with | cons _ t => rw [List.length_cons, List.length_cons, ih t]
theorem DaKvs.keys {ds : List (PyData × PyData)} {vs : List (Key × V)} (h : DaKvs H vs ds) : ds.map Prod.fst = vs.map fun p => keyD p.1 := by
  induction ds generalizing vs with
  | nil => cases h; rfl
  | cons d ds ih => cases h with | cons _ t => rw [List.map_cons, List.map_cons, ih t]
theorem Da.up {d : PyData} {v : V} (h : Da H v d) (x : Ex H H') : Da H' v d := Da.mono x d v h
theorem DaAll.up {ds : List PyData} {vs : List V} (h : DaAll H vs ds) (x : Ex H H') : DaAll H' vs ds := DaAll.mono x ds vs h
theorem DaAll.len {ds : List PyData} {vs : List V} (h : DaAll H vs ds) : vs.length = ds.length := by
  induction ds generalizing vs with
  | nil => cases h; rfl
  | cons d ds ih => cases h with | cons _ t => rw [List.length_cons, List.length_cons, ih t]
theorem DaAll.app {ds es : List PyData} {vs us : List V} (h : DaAll H vs ds) (h2 : DaAll H us es) : DaAll H (vs ++ us) (ds ++ es) := by
  induction ds generalizing vs with
  | nil => cases h; exact h2
  | cons d ds ih => cases h with | cons h t => exact .cons h (ih t)
theorem DaAll.at {ds : List PyData} {vs : List V} (h : DaAll H vs ds) {i : Nat} {v : V} (e : vs[i]? = some v) : ∃ d, ds[i]? = some d ∧ Da H v d := by
  induction ds generalizing vs i with
  | nil => cases h; simp at e
  | cons d ds ih =>
    cases h with
    | cons h t =>
      cases i with
      | zero => cases e; exact ⟨d, rfl, h⟩
      | succ i => exact ih t (by simpa using e)
theorem DaAll.get {ds : List PyData} {vs : List V} (h : DaAll H vs ds) {i : Nat} {d : PyData} (e : ds[i]? = some d) : ∃ v, vs[i]? = some v ∧ Da H v d := by
  induction ds generalizing vs i with
  | nil => simp at e
  | cons d' ds ih =>
    cases h with
    | cons h t =>
      cases i with
      | zero => cases e; exact ⟨_, rfl, h⟩
      | succ i => exact ih t (by simpa using e)
theorem DaAll.drop {ds : List PyData} {vs : List V} (h : DaAll H vs ds) : ∀ n : Nat, DaAll H (vs.drop n) (ds.drop n) := by
  induction ds generalizing vs with
  | nil => intro n; cases h; simp; exact .nil
  | cons d ds ih =>
    intro n
    cases h with
    | cons h t =>
      cases n with
      | zero => exact .cons h t
      | succ n => exact ih t n
theorem DaAll.take {ds : List PyData} {vs : List V} (h : DaAll H vs ds) : ∀ n : Nat, DaAll H (vs.take n) (ds.take n) := by
  induction ds generalizing vs with
  | nil => intro n; cases h; simp; exact .nil
  | cons d ds ih =>
    intro n
    cases h with
    | cons h t =>
      cases n with
      | zero => exact .nil
      | succ n => exact .cons h (ih t n)
theorem DaAll.ixN {ds : List PyData} {vs : List V} (h : DaAll H vs ds) {n : Int} {d : PyData} (e : atI ds n = some d) : ∃ v, atI vs n = some v ∧ Da H v d := by
  unfold atI at e ⊢
  rw [h.len]
  cases z : L2.ixN ds.length n with
  | none => rw [z] at e; cases e
  | some j => rw [z] at e; exact h.get e
/-- the kind of data -/
def kd : PyData → String
  | .none => "NoneType"
  | .bool _ => "bool"
  | .int _ => "int"
  | .str _ => "str"
  | .list _ => "list"
  | .tuple _ => "tuple"
  | .dict _ => "dict"
theorem Da.kd {d : PyData} {v : V} (h : Da H v d) : Kd H v (kd d) := by
  cases h with
  | non => exact .non
  | bl b => exact .bl b
  | int i => exact .int i
  | str x _ => exact .str x
  | lst e _ => exact .lst e
  | tup e _ => exact .tup e
  | dct e _ => exact .dic e
theorem Da.bl_ {b : Bool} {v : V} (h : Da H v (.bool b)) : v = .bl b := by cases h; rfl
theorem Da.int_ {i : Int} {v : V} (h : Da H v (.int i)) : v = .int i := by cases h; rfl
theorem Da.non_ {v : V} (h : Da H v .none) : v = .non := by cases h; rfl
theorem Da.str_ {x : Str} {v : V} (h : Da H v (.str x)) : v = .str x ∧ x.length ≤ 1000 := by cases h with | str _ h => exact ⟨rfl, h⟩
theorem Da.tup_ {ds : List PyData} {v : V} (h : Da H v (.tuple ds)) : ∃ a xs, v = .ref a ∧ H a = some (.tup xs) ∧ DaAll H xs ds := by cases h with | tup e h => exact ⟨_, _, rfl, e, h⟩
theorem Da.lst_ {ds : List PyData} {v : V} (h : Da H v (.list ds)) : ∃ a xs, v = .ref a ∧ H a = some (.lst xs) ∧ DaAll H xs ds := by cases h with | lst e h => exact ⟨_, _, rfl, e, h⟩
end
theorem Kd.str_k {H : Hp} {v : V} {t : String} (k : Kd H v t) : kitB t "str" = some (t == "str") := by
  cases k <;> (first | rfl | decide +kernel)
theorem Kd.list_k {H : Hp} {v : V} {t : String} (k : Kd H v t) : kitB t "list" = some (t == "list") := by
  cases k <;> (first | rfl | decide +kernel)
/-! ### a view G of the heap H: what is known of data; it grows by new data alone -/
def dataO : HO → Bool
  | .lst _ => true
  | .tup _ => true
  | .dK _ => true
  | .ins _ _ _ => true
  | _ => false
structure Gr (G H G' H' : Hp) : Prop where
  h : Ex H H'
  g : Ex G G'
  s : Ex G' H'
  n : ∀ a, H a ≠ none → G a = none → G' a = none
  t : ∀ a o, G' a = some o → G a = some o ∨ dataO o = true
section
variable {G H G1 H1 G2 H2 : Hp}
theorem Gr.refl (s : Ex G H) : Gr G H G H := ⟨Ex.refl _, Ex.refl _, s, fun _ _ h => h, fun _ _ h => .inl h⟩
theorem Gr.keep (s : Ex G H) (x : Ex H H1) : Gr G H G H1 := ⟨x, Ex.refl _, s.trans x, fun _ _ h => h, fun _ _ h => .inl h⟩
theorem Gr.trans (a : Gr G H G1 H1) (b : Gr G1 H1 G2 H2) : Gr G H G2 H2 := by
  refine ⟨a.h.trans b.h, a.g.trans b.g, b.s, fun c h1 h2 => b.n c (fun z => ?_) (a.n c h1 h2), fun c o h => ?_⟩
  · cases e : H c with
    | none => exact h1 e
    | some o => rw [a.h _ _ e] at z; cases z
  · rcases b.t c o h with h | h
    · exact a.t c o h
    · exact .inr h
theorem Gr.new {p : Addr} {o : HO} (s : Ex G H) (hp : H p = none) (ho : dataO o = true) : Gr G H (upd G p o) (upd H p o) := by
  have gp : G p = none := by
    cases e : G p with
    | none => rfl
    | some o => rw [s _ _ e] at hp; cases hp
  refine ⟨Ex.new hp, Ex.new gp, fun a u h => ?_, fun a h1 h2 => ?_, fun a u h => ?_⟩
  · by_cases e : a = p
    · subst e
      rw [upd_same] at h ⊢
      exact h
    · rw [upd_ne e] at h ⊢
      exact s _ _ h
  · rw [upd_ne (fun e => h1 (by rw [e]; exact hp))]
    exact h2
  · by_cases e : a = p
    · subst e
      rw [upd_same] at h
      cases h
      exact .inr ho
    · rw [upd_ne e] at h
      exact .inl h
/-- an object that the view does not know may change -/
theorem Gr.mut {p : Addr} {o : HO} (r : Gr G H G1 H1) (hp : G p = none) (hh : H p ≠ none) : Ex G1 (upd H1 p o) := fun a u h => by
  rw [upd_ne (fun e => by rw [e, r.n p hh hp] at h; cases h)]
  exact r.s _ _ h
end
/-! ### what evaluates to data -/
def EvD (te : TE) (σ : L2.St) (G : Hp) (d : PyData) : Prop := ∀ G1 H1, Ex G G1 → Ex G1 H1 → ∀ Q : VK, (∀ v G2 H2, Gr G1 H1 G2 H2 → Da G2 v d → Q v H2) → te σ H1 Q
def EvDs (ta : TA) (σ : L2.St) (G : Hp) (ds : List PyData) : Prop := ∀ G1 H1, Ex G G1 → Ex G1 H1 → ∀ Q : List V → Hp → Prop, (∀ vs G2 H2, Gr G1 H1 G2 H2 → DaAll G2 vs ds → Q vs H2) → ta σ H1 Q
section
variable {K : PySem.W.Frag} {σ : L2.St} {G H G' : Hp} {ta tb te tl : TE} {t u : TT} {tA tr : TA} {d e : PyData} {ds es : List PyData} {v : V}
theorem EvD.mono (x : Ex G G') (h : EvD te σ G d) : EvD te σ G' d := fun G1 H1 a b Q q => h G1 H1 (x.trans a) b Q q
theorem EvD.is (h : EvD te σ G d) (e' : d = e) : EvD te σ G e := e' ▸ h
theorem EvD.go (h : EvD te σ G d) (s : Ex G H) {Q : VK} (k : ∀ v G2 H2, Gr G H G2 H2 → Da G2 v d → Q v H2) : te σ H Q := h G H (Ex.refl _) s Q k
theorem evd_var {i : Nat} (hi : σ[i]? = some (some v)) (h : Da G v d) : EvD (tVar i) σ G d := fun G1 H1 x s Q q => ⟨v, hi, q v G1 H1 (Gr.refl s) (h.up x)⟩
theorem evd_of (h : Ev te σ G v) (hd : ∀ G, Da G v d) : EvD te σ G d := fun G1 H1 x s Q q => h H1 (x.trans s) _ fun H2 x2 => q v G1 H2 (Gr.keep s x2) (hd G1)
theorem EvD.bl_ {b : Bool} (h : EvD te σ G (.bool b)) : Ev te σ G (.bl b) := fun H1 x Q q => h G H1 (Ex.refl _) x _ fun v G2 H2 r hd => by rw [hd.bl_]; exact q H2 r.h
theorem EvD.int_ {i : Int} (h : EvD te σ G (.int i)) : Ev te σ G (.int i) := fun H1 x Q q => h G H1 (Ex.refl _) x _ fun v G2 H2 r hd => by rw [hd.int_]; exact q H2 r.h
theorem EvD.str_ {s : Str} (h : EvD te σ G (.str s)) : Ev te σ G (.str s) := fun H1 x Q q => h G H1 (Ex.refl _) x _ fun v G2 H2 r hd => by rw [hd.str_.1]; exact q H2 r.h
theorem EvD.non_ (h : EvD te σ G .none) : Ev te σ G .non := fun H1 x Q q => h G H1 (Ex.refl _) x _ fun v G2 H2 r hd => by rw [hd.non_]; exact q H2 r.h
theorem evd_bl {b : Bool} (h : Ev te σ G (.bl b)) : EvD te σ G (.bool b) := evd_of h fun _ => .bl b
theorem evd_int {i : Int} (h : Ev te σ G (.int i)) : EvD te σ G (.int i) := evd_of h fun _ => .int i
theorem evd_str {s : Str} (h : Ev te σ G (.str s)) (hl : s.length ≤ 1000) : EvD te σ G (.str s) := evd_of h fun _ => .str s hl
theorem evd_non (h : Ev te σ G .non) : EvD te σ G .none := evd_of h fun _ => .non
theorem evd_nil : EvDs tNil σ G [] := fun G1 H1 _ s Q q => q [] G1 H1 (Gr.refl s) .nil
theorem evd_cons (h : EvD te σ G d) (hr : EvDs tr σ G ds) : EvDs (tCons te tr) σ G (d :: ds) := fun G1 H1 x s Q q => h G1 H1 x s _ fun v G2 H2 r hd => hr G2 H2 (x.trans r.g) r.s _ fun vs G3 H3 r2 hds => q (v :: vs) G3 H3 (r.trans r2) (.cons (hd.up r2.g) hds)
theorem evd_tup (h : EvDs tA σ G ds) (hl : ds.length ≤ 100000) : EvD (tTup tA) σ G (.tuple ds) := fun G1 H1 x s Q q => h G1 H1 x s _ fun vs G2 H2 r hds =>
  ⟨by rw [hds.len]; exact sz_of hl, fun p hp => have n := Gr.new (o := .tup vs) r.s hp rfl; q (.ref p) _ _ (r.trans n) (.tup upd_same (hds.up n.g))⟩
theorem evd_lst (h : EvDs tA σ G ds) (hl : ds.length ≤ 100000) : EvD (tLst tA) σ G (.list ds) := fun G1 H1 x s Q q => h G1 H1 x s _ fun vs G2 H2 r hds =>
  ⟨by rw [hds.len]; exact sz_of hl, fun p hp => have n := Gr.new (o := .lst vs) r.s hp rfl; q (.ref p) _ _ (r.trans n) (.lst upd_same (hds.up n.g))⟩
theorem evd_ixT {n : Int} (ha : EvD ta σ G (.tuple ds)) (hb : Ev tb σ G (.int n)) (hi : atI ds n = some d) : EvD (tOp (rIxT K) ta tb) σ G d := fun G1 H1 x s Q q => ha G1 H1 x s _ fun v G2 H2 r hd => hb H2 ((x.trans r.g).trans r.s) _ fun H3 x3 => by
  obtain ⟨a, xs, rfl, e, hs⟩ := hd.tup_
  obtain ⟨w, hw, hdw⟩ := hs.ixN hi
  exact ⟨a, xs, n, w, rfl, rfl, SqT.of (x3 _ _ (r.s _ _ e)), hw, q w G2 H3 (r.trans (Gr.keep r.s x3)) hdw⟩
theorem evd_ixL {n : Int} (ha : EvD ta σ G (.list ds)) (hb : Ev tb σ G (.int n)) (hi : atI ds n = some d) : EvD (tOp (rIxL K) ta tb) σ G d := fun G1 H1 x s Q q => ha G1 H1 x s _ fun v G2 H2 r hd => hb H2 ((x.trans r.g).trans r.s) _ fun H3 x3 => by
  obtain ⟨a, xs, rfl, e, hs⟩ := hd.lst_
  obtain ⟨w, hw, hdw⟩ := hs.ixN hi
  exact ⟨a, xs, n, w, rfl, rfl, SqL.of (x3 _ _ (r.s _ _ e)), hw, q w G2 H3 (r.trans (Gr.keep r.s x3)) hdw⟩
theorem evd_if {b : Bool} (h : EvT t σ G b) (h1 : b = true → EvD ta σ G d) (h2 : b = false → EvD tb σ G d) : EvD (tIf t ta tb) σ G d := fun G1 H1 x s Q q => h H1 (x.trans s) _ fun H2 x2 => by
  cases b with
  | true =>
    show ta σ H2 Q
    exact h1 rfl G1 H2 x (s.trans x2) Q fun v G3 H3 r hd => q v G3 H3 ((Gr.keep s x2).trans r) hd
  | false =>
    show tb σ H2 Q
    exact h2 rfl G1 H2 x (s.trans x2) Q fun v G3 H3 r hd => q v G3 H3 ((Gr.keep s x2).trans r) hd
/-- t[lo:hi] of a tuple -/
theorem cut_da {H : Hp} {vs : List V} {ds : List PyData} (h : DaAll H vs ds) (lo hi : Option Int) : DaAll H (cutV vs lo hi) ((ds.drop (HT.sIx ds.length 0 lo)).take (HT.sIx ds.length ds.length hi - HT.sIx ds.length 0 lo)) := by
  unfold cutV
  rw [h.len]
  exact (h.drop _).take _
def cutD (ds : List PyData) (lo hi : Option Int) : List PyData := (ds.drop (HT.sIx ds.length 0 lo)).take (HT.sIx ds.length ds.length hi - HT.sIx ds.length 0 lo)
theorem cutD_from (ds : List PyData) (n : Nat) : cutD ds (some (n : Int)) none = ds.drop n := by
  unfold cutD
  rw [HT.sIx_nat, HT.sIx_none]
  by_cases h : n ≤ ds.length
  · rw [Nat.min_eq_left h, List.take_of_length_le (by rw [List.length_drop]; omega)]
  · rw [Nat.min_eq_right (by omega), List.drop_length, List.drop_of_length_le (by omega)]
    simp
theorem cutD_to (ds : List PyData) (n : Nat) : cutD ds none (some (n : Int)) = ds.take n := by
  unfold cutD
  rw [HT.sIx_nat, HT.sIx_none, List.drop_zero, Nat.sub_zero]
  by_cases h : n ≤ ds.length
  · rw [Nat.min_eq_left h]
  · rw [Nat.min_eq_right (by omega), List.take_length, List.take_of_length_le (by omega)]
theorem evd_sl {tlo thi : TO} {lo hi : Option Int} (h : EvD te σ G (.tuple ds)) (h1 : EvO tlo σ G lo) (h2 : EvO thi σ G hi) : EvD (tSl (rSlA K) te tlo thi) σ G (.tuple (cutD ds lo hi)) := fun G1 H1 x s Q q =>
  h G1 H1 x s _ fun v G2 H2 r hd => h1 H2 ((x.trans r.g).trans r.s) _ fun H3 x3 => h2 H3 (((x.trans r.g).trans r.s).trans x3) _ fun H4 x4 => by
    obtain ⟨a, xs, rfl, e, hs⟩ := hd.tup_
    have r4 := r.trans (Gr.keep r.s (x3.trans x4))
    have e4 := r4.s _ _ e
    refine ⟨a, xs, rfl, SqT.of e4, fun hw => q _ G2 H4 r4 ?_, fun hw p hp => ?_⟩
    · have : cutD ds lo hi = ds := by
        rw [hs.len] at hw
        unfold cutD
        rw [hw.1, hw.2, List.drop_zero, Nat.sub_zero, List.take_length]
      rw [this]
      exact hd
    · have n := Gr.new (o := .tup (cutV xs lo hi)) r4.s hp rfl
      exact q (.ref p) _ _ (r4.trans n) (.tup upd_same ((cut_da hs lo hi).up n.g))
theorem EvO.none_ : EvO L2.tNoPart σ G none := fun H1 _ _ q => q H1 (Ex.refl _)
theorem EvO.some_ {n : Int} (h : Ev te σ G (.int n)) : EvO (L2.tPart te) σ G (some n) := fun H1 x Q q => h H1 x _ fun H2 x2 => ⟨n, rfl, q H2 x2⟩
/-- a + b of tuples -/
theorem evd_cat (ha : EvD ta σ G (.tuple ds)) (hb : EvD tb σ G (.tuple es)) (hl : ds.length + es.length ≤ 100000) : EvD (tOp (rCatA K) ta tb) σ G (.tuple (ds ++ es)) := fun G1 H1 x s Q q =>
  ha G1 H1 x s _ fun v G2 H2 r hd => hb G2 H2 (x.trans r.g) r.s _ fun w G3 H3 r2 he => by
    obtain ⟨a, xs, rfl, e1, h1⟩ := (hd.up r2.g).tup_
    obtain ⟨b, ys, rfl, e2, h2⟩ := he.tup_
    have r3 := r.trans r2
    refine ⟨a, b, xs, ys, rfl, rfl, SqT.of (r3.s _ _ e1), SqT.of (r3.s _ _ e2), by rw [h1.len, h2.len]; exact sz_of hl, fun z => ?_, fun _ z => ?_, fun _ _ p hp => ?_⟩
    · subst z
      cases h1
      exact q _ G3 H3 r3 he
    · subst z
      cases h2
      refine q _ G3 H3 r3 ?_
      rw [List.append_nil]
      exact hd.up r2.g
    · have n := Gr.new (o := .tup (xs ++ ys)) r3.s hp rfl
      exact q (.ref p) _ _ (r3.trans n) (.tup upd_same ((h1.app h2).up n.g))
/-- isinstance(x, T) -/
theorem ev_isi {T : String} {b : Bool} (h : EvD te σ G d) (hk : ∀ {H : Hp} {v : V}, Kd H v (kd d) → kitB (kd d) T = some b) : Ev (tCB (rIsi K) (tCons te (tCons (tC (.ty T)) tNil))) σ G (.bl b) := fun H1 x Q q => h G H1 (Ex.refl _) x _ fun v G2 H2 r hd =>
  ⟨v, .ty T, .type (kd d), .type T, b, rfl, .ty T, (hd.up r.s).kd.ty K, kit_ty (hk hd.kd), q H2 r.h⟩
theorem ev_isTup (h : EvD te σ G d) : Ev (tCB (rIsi K) (tCons te (tCons (tC (.ty "tuple")) tNil))) σ G (.bl (kd d == "tuple")) := ev_isi h fun k => k.tuple_
theorem ev_isStr (h : EvD te σ G d) : Ev (tCB (rIsi K) (tCons te (tCons (tC (.ty "str")) tNil))) σ G (.bl (kd d == "str")) := ev_isi h fun k => k.str_k
theorem ev_isBool (h : EvD te σ G d) : Ev (tCB (rIsi K) (tCons te (tCons (tC (.ty "bool")) tNil))) σ G (.bl (kd d == "bool")) := ev_isi h fun k => k.bool_
theorem ev_isInt (h : EvD te σ G d) : Ev (tCB (rIsi K) (tCons te (tCons (tC (.ty "int")) tNil))) σ G (.bl (kd d == "int" || kd d == "bool")) := by
  refine ev_isi h fun k => ?_
  cases d <;> (first | rfl | decide +kernel)
/-- len -/
theorem ev_lenT (h : EvD te σ G (.tuple ds)) : Ev (tCB (fun xs H Q => ∃ p ys, xs = [V.ref p] ∧ (SqL K H p ys ∨ SqT K H p ys) ∧ Q (.int ys.length) H) (tCons te tNil)) σ G (.int (ds.length : Int)) := fun H1 x Q q => h G H1 (Ex.refl _) x _ fun v G2 H2 r hd => by
  obtain ⟨a, xs, rfl, e, hs⟩ := hd.tup_
  refine ⟨a, xs, rfl, .inr (SqT.of (r.s _ _ e)), ?_⟩
  rw [hs.len]
  exact q H2 r.h
theorem ev_lenL (h : EvD te σ G (.list ds)) : Ev (tCB (fun xs H Q => ∃ p ys, xs = [V.ref p] ∧ (SqL K H p ys ∨ SqT K H p ys) ∧ Q (.int ys.length) H) (tCons te tNil)) σ G (.int (ds.length : Int)) := fun H1 x Q q => h G H1 (Ex.refl _) x _ fun v G2 H2 r hd => by
  obtain ⟨a, xs, rfl, e, hs⟩ := hd.lst_
  refine ⟨a, xs, rfl, .inl (SqL.of (r.s _ _ e)), ?_⟩
  rw [hs.len]
  exact q H2 r.h
/-! ### comprehensions -/
/-- what a comprehension has made: the list at D is behind the view -/
structure LcI (G1 H1 : Hp) (D : Addr) (H' : Hp) (ds : List PyData) : Prop where
  w : ∃ G' ys, Gr G1 H1 G' H' ∧ G' D = none ∧ H' D = some (.lst ys) ∧ DaAll G' ys ds
  fr : H1 D = none
theorem LcI.start {G1 H1 : Hp} {D : Addr} (s : Ex G1 H1) (hD : H1 D = none) : LcI G1 H1 D (upd H1 D (.lst [])) [] := by
  refine ⟨⟨G1, [], Gr.keep s (Ex.new hD), ?_, upd_same, .nil⟩, hD⟩
  cases e : G1 D with
  | none => rfl
  | some o => rw [s _ _ e] at hD; cases hD
theorem LcI.done {G1 H1 H' : Hp} {D : Addr} {ds : List PyData} (I : LcI G1 H1 D H' ds) : ∃ G2, Gr G1 H1 G2 H' ∧ Da G2 (.ref D) (.list ds) := by
  obtain ⟨G', ys, r, h1, h2, h3⟩ := I.w
  have x : Ex G' (upd G' D (.lst ys)) := Ex.new h1
  refine ⟨upd G' D (.lst ys), ⟨r.h, r.g.trans x, fun a o h => ?_, fun a e1 e2 => ?_, fun a o h => ?_⟩, .lst upd_same (h3.up x)⟩
  · by_cases e : a = D
    · subst e
      rw [upd_same] at h
      cases h
      exact h2
    · rw [upd_ne e] at h
      exact r.s _ _ h
  · rw [upd_ne (fun e => e1 (by rw [e]; exact I.fr))]
    exact r.n a e1 e2
  · by_cases e : a = D
    · subst e
      rw [upd_same] at h
      cases h
      exact .inr rfl
    · rw [upd_ne e] at h
      exact r.t a o h
/-- an element that is taken -/
theorem LcI.put {G1 H1 H' : Hp} {D : Addr} {ds : List PyData} {te : TE} {σ : L2.St} {d : PyData} {N : Hp → Prop} (I : LcI G1 H1 D H' ds) (hl : ds.length ≤ 50000) (he : EvD te σ G1 d) (k : ∀ H2, LcI G1 H1 D H2 (ds ++ [d]) → N H2) :
    te σ H' fun y H4 => ∃ acc, H4 D = some (.lst acc) ∧ acc.length < sizeLine ∧ N (upd H4 D (.lst (acc ++ [y]))) := by
  obtain ⟨G', ys, r, h1, h2, h3⟩ := I.w
  refine he G' H' r.g r.s _ fun v G2 H2 r2 hd => ⟨ys, r2.h _ _ h2, ?_, k _ ⟨⟨G2, ys ++ [v], ?_, ?_, upd_same, (h3.up r2.g).app (.cons hd .nil)⟩, I.fr⟩⟩
  · rw [h3.len]
    exact Nat.lt_of_le_of_lt hl (by decide)
  · have nD : G2 D = none := r2.n D (by rw [h2]; simp) h1
    have r3 := r.trans r2
    exact ⟨Ex.mut r3.h I.fr, r3.g, fun a o h => by rw [upd_ne (fun e => by rw [e, nD] at h; cases h)]; exact r3.s _ _ h, r3.n, r3.t⟩
  · exact r2.n D (by rw [h2]; simp) h1
theorem LcI.test {G1 H1 H' : Hp} {D : Addr} {ds : List PyData} {t : TT} {σ : L2.St} {b : Bool} {R : Bool → Hp → Prop} (I : LcI G1 H1 D H' ds) (h : EvT t σ G1 b) (k : ∀ H2, LcI G1 H1 D H2 ds → R b H2) : t σ H' R := by
  obtain ⟨G', ys, r, h1, h2, h3⟩ := I.w
  exact h H' (r.g.trans r.s) _ fun H2 x2 => k H2 ⟨⟨G', ys, r.trans (Gr.keep r.s x2), h1, x2 _ _ h2, h3⟩, I.fr⟩
theorem LcI.sub {G1 H1 H' : Hp} {D : Addr} {ds : List PyData} (I : LcI G1 H1 D H' ds) : Ex G1 H' := by
  obtain ⟨G', ys, r, _⟩ := I.w
  exact r.g.trans r.s
theorem take_da {α : Type} {ds : List α} {i : Nat} {d : α} (h : ds[i]? = some d) : ds.take (i + 1) = ds.take i ++ [d] := by
  rw [List.take_add_one, h]
  rfl
/-- one turn of a comprehension -/
theorem LcI.turn {α : Type} {G1 H1 H' : Hp} {D : Addr} {as : List α} {i : Nat} {x : α} {p : α → Bool} {f : α → PyData} {t : TT} {te : TE} {σ : L2.St} {N : Hp → Prop} (I : LcI G1 H1 D H' (((as.take i).filter p).map f)) (hi : as[i]? = some x) (hz : as.length ≤ 50000) (ht : EvT t σ G1 (p x)) (he : p x = true → EvD te σ G1 (f x))
    (k : ∀ H2, LcI G1 H1 D H2 (((as.take (i + 1)).filter p).map f) → N H2) : t σ H' fun b H3 => if b = true then te σ H3 fun y H4 => ∃ acc, H4 D = some (.lst acc) ∧ acc.length < sizeLine ∧ N (upd H4 D (.lst (acc ++ [y]))) else N H3 := by
  refine I.test ht fun H2 I2 => ?_
  have e : ((as.take (i + 1)).filter p).map f = ((as.take i).filter p).map f ++ (if p x = true then [f x] else []) := by
    rw [take_da hi, List.filter_append, List.map_append]
    cases hp : p x with
    | false => rw [List.filter_cons_of_neg (by rw [hp]; exact Bool.false_ne_true)]; rfl
    | true => rw [List.filter_cons_of_pos hp]; rfl
  cases hp : p x with
  | false =>
    rw [if_neg Bool.false_ne_true]
    refine k H2 ?_
    rw [e, hp, if_neg Bool.false_ne_true, List.append_nil]
    exact I2
  | true =>
    rw [if_pos rfl]
    refine I2.put ?_ (he hp) fun H3 I3 => k H3 ?_
    · rw [List.length_map]
      have := List.length_filter_le p (as.take i)
      have := List.length_take_le i as
      have := (List.getElem?_eq_some_iff.mp hi).1
      omega
    · rw [e, hp, if_pos rfl]
      exact I3
/-- [e for x in l if c], l a list of data, a tuple, a text -/
theorem evd_lcL {j : Nat} {vs : List Nat} (p : PyData → Bool) (f : PyData → PyData) (h : EvD tl σ G (.list ds)) (hz : ds.length ≤ 50000) (hw : ∀ x, wipe ((wipe σ vs).set j (some x)) vs = wipe σ vs)
    (ht : ∀ d ∈ ds, ∀ v G1, Ex G G1 → Da G1 v d → EvT t ((wipe σ vs).set j (some v)) G1 (p d)) (he : ∀ d ∈ ds, p d = true → ∀ v G1, Ex G G1 → Da G1 v d → EvD te ((wipe σ vs).set j (some v)) G1 (f d)) :
    EvD (tLc (iList K tl) (gName j) t te vs) σ G (.list ((ds.filter p).map f)) := fun G0 H0 x0 s0 Q q => h G0 H0 x0 s0 _ fun v0 G1 H1 r1 hd => by
  obtain ⟨a, xs, rfl, ea, hs⟩ := hd.lst_
  refine ⟨a, rfl, ⟨xs, SqL.of (r1.s _ _ ea)⟩, fun D hD => lc_list (K := K) (a := a) (xs := xs) (fun i H' => LcI G1 H1 D H' (((ds.take i).filter p).map f)) (LcI.start r1.s hD) (fun i H' _ I => SqL.of (I.sub _ _ ea)) ?_ ?_⟩
  · rintro i x H' hx I
    obtain ⟨d, hdi, hdv⟩ := hs.at hx
    have mem := List.mem_of_getElem? hdi
    exact ⟨hw x, I.turn hdi hz (ht d mem x G1 (x0.trans r1.g) hdv) (fun hp => he d mem hp x G1 (x0.trans r1.g) hdv) fun H2 I2 => I2⟩
  · rintro H' I
    rw [hs.len, List.take_length] at I
    obtain ⟨G2, r2, h2⟩ := I.done
    exact q (.ref D) G2 H' (r1.trans r2) h2
theorem evd_lcT {j : Nat} {vs : List Nat} (p : PyData → Bool) (f : PyData → PyData) (h : EvD tl σ G (.tuple ds)) (hz : ds.length ≤ 50000) (hw : ∀ x, wipe ((wipe σ vs).set j (some x)) vs = wipe σ vs)
    (ht : ∀ d ∈ ds, ∀ v G1, Ex G G1 → Da G1 v d → EvT t ((wipe σ vs).set j (some v)) G1 (p d)) (he : ∀ d ∈ ds, p d = true → ∀ v G1, Ex G G1 → Da G1 v d → EvD te ((wipe σ vs).set j (some v)) G1 (f d)) :
    EvD (tLc (iTup K tl) (gName j) t te vs) σ G (.list ((ds.filter p).map f)) := fun G0 H0 x0 s0 Q q => h G0 H0 x0 s0 _ fun v0 G1 H1 r1 hd => by
  obtain ⟨a, xs, rfl, ea, hs⟩ := hd.tup_
  refine ⟨a, rfl, ⟨xs, SqT.of (r1.s _ _ ea)⟩, fun D hD => lc_tup (K := K) (a := a) (xs := xs) (fun i H' => LcI G1 H1 D H' (((ds.take i).filter p).map f)) (LcI.start r1.s hD) (fun i H' _ I => SqT.of (I.sub _ _ ea)) ?_ ?_⟩
  · rintro i x H' hx I
    obtain ⟨d, hdi, hdv⟩ := hs.at hx
    have mem := List.mem_of_getElem? hdi
    exact ⟨hw x, I.turn hdi hz (ht d mem x G1 (x0.trans r1.g) hdv) (fun hp => he d mem hp x G1 (x0.trans r1.g) hdv) fun H2 I2 => I2⟩
  · rintro H' I
    rw [hs.len, List.take_length] at I
    obtain ⟨G2, r2, h2⟩ := I.done
    exact q (.ref D) G2 H' (r1.trans r2) h2
def sgn1 (c : Nat) : Str := ⟨#[c]⟩
theorem evd_lcS {j : Nat} {vs : List Nat} {z : Str} (p : Nat → Bool) (f : Nat → PyData) (h : EvD tl σ G (.str z)) (hw : ∀ x, wipe ((wipe σ vs).set j (some x)) vs = wipe σ vs)
    (ht : ∀ c ∈ z.cps.toList, EvT t ((wipe σ vs).set j (some (.str (sgn1 c)))) G (p c)) (he : ∀ c ∈ z.cps.toList, p c = true → EvD te ((wipe σ vs).set j (some (.str (sgn1 c)))) G (f c)) :
    EvD (tLc (iStr tl) (gName j) t te vs) σ G (.list ((z.cps.toList.filter p).map f)) := fun G0 H0 x0 s0 Q q => h G0 H0 x0 s0 _ fun v0 G1 H1 r1 hd => by
  obtain ⟨rfl, hl⟩ := hd.str_
  have hsz : z.cps.toList.length ≤ 1000 := hl
  have tg : ∀ {c : Nat}, c ∈ z.cps.toList → EvT t ((wipe σ vs).set j (some (.str (sgn1 c)))) G1 (p c) := fun hc H a Q q => ht _ hc H ((x0.trans r1.g).trans a) Q q
  refine ⟨z, rfl, fun D hD => lc_it (walk_str (z := z)) (fun i H' => LcI G1 H1 D H' (((z.cps.toList.take i).filter p).map f)) (LcI.start r1.s hD) (fun _ _ _ _ => trivial) ?_ ?_⟩
  · rintro i x H' H'' hi I ⟨rfl, c, hc, rfl⟩
    have hc' : z.cps.toList[i]? = some c := by rw [Array.getElem?_toList]; exact hc
    have mem := List.mem_of_getElem? hc'
    exact ⟨hw _, I.turn hc' (by omega) (tg mem) (fun hp => (he c mem hp).mono (x0.trans r1.g)) fun H2 I2 => I2⟩
  · rintro H' I
    rw [show z.cps.size = z.cps.toList.length from rfl, List.take_length] at I
    obtain ⟨G2, r2, h2⟩ := I.done
    exact q (.ref D) G2 H' (r1.trans r2) h2
theorem et_yes {b : Bool} : EvT tYes σ G true := fun H1 _ Q q => q H1 (Ex.refl _)
/-- all([..]) -/
theorem da_bools {H : Hp} {vs : List V} {bs : List Bool} (h : DaAll H vs (bs.map PyData.bool)) : vs = bs.map V.bl := by
  induction bs generalizing vs with
  | nil => cases h; rfl
  | cons b bs ih => cases h with | cons h t => rw [h.bl_, ih t]; rfl
theorem da_ints {H : Hp} {vs : List V} {is : List Int} (h : DaAll H vs (is.map PyData.int)) : vs = is.map V.int := by
  induction is generalizing vs with
  | nil => cases h; rfl
  | cons b bs ih => cases h with | cons h t => rw [h.int_, ih t]; rfl
theorem ev_allD {bs : List Bool} (h : EvD te σ G (.list (bs.map PyData.bool))) : Ev (tCB (rAll K) (tCons te tNil)) σ G (.bl (bs.all id)) := fun H1 x Q q => h G H1 (Ex.refl _) x _ fun v G2 H2 r hd => by
  obtain ⟨a, xs, rfl, e, hs⟩ := hd.lst_
  cases da_bools hs
  exact ⟨a, bs, rfl, SqL.of (r.s _ _ e), q H2 r.h⟩
/-! ### calls: a promise by a plain function on data -/
def spF (F : List PyData → Option PyData) : Sp := fun vs H Q _ => ∃ G ds d, Ex G H ∧ DaAll G vs ds ∧ F ds = some d ∧ ∀ v G' H', Gr G H G' H' → Da G' v d → Q v H'
theorem evd_call {F : List PyData → Option PyData} {E : XK} (h : EvDs tA σ G ds) (hf : F ds = some d) : EvD (tCallD (spF F) E tA) σ G d := fun G1 H1 x s Q q => h G1 H1 x s _ fun vs G2 H2 r hds =>
  ⟨G2, ds, d, r.s, hds, hf, fun v G3 H3 r3 hd => q v G3 H3 (r.trans r3) hd⟩
/-! ### statements -/
variable {D : Ends} {tz tu tw : TS}
theorem q_asgD {i : Nat} (s : Ex G H) (h : EvD te σ G d) (k : ∀ v G1 H1, Gr G H G1 H1 → Da G1 v d → tz D (σ.set i (some v)) H1) : tSeq (tAsg te (gName i)) tz D σ H := h.go s k
theorem s_retD (s : Ex G H) (h : EvD te σ G d) (k : ∀ v G1 H1, Gr G H G1 H1 → Da G1 v d → D.rt v H1) : tRet te D σ H := h.go s k
theorem q_ifD {b : Bool} (s : Ex G H) (h : EvT t σ G b) (h1 : b = true → ∀ H1, Ex H H1 → tu { D with nx := tz D } σ H1) (h2 : b = false → ∀ H1, Ex H H1 → tw { D with nx := tz D } σ H1) : tSeq (tIfS t tu tw) tz D σ H := h H s _ fun H1 x => by
  cases b with
  | true =>
    show tu { D with nx := tz D } σ H1
    exact h1 rfl H1 x
  | false =>
    show tw { D with nx := tz D } σ H1
    exact h2 rfl H1 x
end
end Lf
set_option maxHeartbeats 4000000
/-! x == 'text', x != 'text' of a value of any kind; t == (), t != () of a tuple of anything -/
namespace LfQ
open PySem PySem.SeqAt PySem.MeetsSeq
open AutoSeq1 (wpAny_loadPart')
section
variable {A : Around} {s : Shared}
theorem dict_eq_str (l : Addr) (o : Obj) (hc : o.cls = .type "dict") (b : Str) (u : Tok) : Meets (Builtin.«dict.__eq__» ⟨[.ref l, .str b u], []⟩) (fun _ R s => s.heap.get? l = some o ∧ R (.ok (.ret .notImplemented)) s) :=
  .of_wp fun prog w A R s h => by obtain ⟨hp, g, d, tk, os⟩ := s; obtain ⟨hl, h⟩ := h; have f1 := F.sub_str_dict; wp_walk using wpAny_loadPart' hl, wpAny_load hl; exact ⟨_, rfl, h⟩
theorem dict_ne_str (l : Addr) (o : Obj) (hc : o.cls = .type "dict") (b : Str) (u : Tok) : Meets (Builtin.«dict.__ne__» ⟨[.ref l, .str b u], []⟩) (fun _ R s => s.heap.get? l = some o ∧ R (.ok (.ret .notImplemented)) s) :=
  .of_wp fun prog w A R s h => by obtain ⟨hp, g, d, tk, os⟩ := s; obtain ⟨hl, h⟩ := h; have f1 := F.sub_str_dict; wp_walk using wpAny_loadPart' hl, wpAny_load hl; exact ⟨_, rfl, h⟩
theorem str_eq_dict (l : Addr) (o : Obj) (es : Array DictEntry) (n : Nat) (hd : o.data = .dict es n) (b : Str) (u : Tok) : Meets (Builtin.«str.__eq__» ⟨[.str b u, .ref l], []⟩) (fun _ R s => s.heap.get? l = some o ∧ R (.ok (.ret .notImplemented)) s) :=
  .of_wp fun prog w A R s h => by obtain ⟨hp, g, d, tk, os⟩ := s; obtain ⟨hl, h⟩ := h; obtain ⟨cls, dd, data, sl⟩ := o; simp only at hd; subst hd; wp_walk using wpAny_loadPart' hl, wpAny_load hl; exact ⟨_, rfl, h⟩
theorem str_ne_dict (l : Addr) (o : Obj) (es : Array DictEntry) (n : Nat) (hd : o.data = .dict es n) (b : Str) (u : Tok) : Meets (Builtin.«str.__ne__» ⟨[.str b u, .ref l], []⟩) (fun _ R s => s.heap.get? l = some o ∧ R (.ok (.ret .notImplemented)) s) :=
  .of_wp fun prog w A R s h => by obtain ⟨hp, g, d, tk, os⟩ := s; obtain ⟨hl, h⟩ := h; obtain ⟨cls, dd, data, sl⟩ := o; simp only at hd; subst hd; wp_walk using wpAny_loadPart' hl, wpAny_load hl; exact ⟨_, rfl, h⟩
theorem rc_dict_str {l : Addr} {o : Obj} {es : Array DictEntry} {n : Nat} (ho : s.heap.get? l = some o) (hc : o.cls = .type "dict") (hd : o.data = .dict es n) (b : Str) (u : Tok) (hu : A.units < cLine) : RcAt A s (.ref l) (.str b u) false := fun prog w E Q h =>
  rc_eq_decline_or (k := false) ⟨_, ho, hc⟩ (typeIs_str s b u) (by decide) F.sub_str_dict F.slot_dict_eq F.slot_str_eq_refl
    (fun _ hq => call_meets F.slot_dict_eq ⟨_, ho, hc⟩ F.entry_dict_eq (F.args_dict_eq_2 _ _) (dict_eq_str l o hc b u) ⟨ho, hq⟩)
    (fun _ hq => call_meets F.slot_str_eq_refl (typeIs_str s b u) F.entry_str_eq (F.args_str_eq_2 _ _) (str_eq_dict l o es n hd b u) ⟨ho, hq⟩)
    (fun _ hq => wpAny_of_eq (rfl : isSame (.ref l) (.str b u) = pure false) hq) (.inr hu) h
theorem rn_dict_str {l : Addr} {o : Obj} {es : Array DictEntry} {n : Nat} (ho : s.heap.get? l = some o) (hc : o.cls = .type "dict") (hd : o.data = .dict es n) (b : Str) (u : Tok) (hu : A.units < cLine) : RcNeAt A s (.ref l) (.str b u) true := fun prog w E Q h =>
  rc_ne_decline_or (k := false) ⟨_, ho, hc⟩ (typeIs_str s b u) (by decide) F.sub_str_dict F.slot_dict_ne F.slot_str_ne_refl
    (fun _ hq => call_meets F.slot_dict_ne ⟨_, ho, hc⟩ F.entry_dict_ne (F.args_dict_ne_2 _ _) (dict_ne_str l o hc b u) ⟨ho, hq⟩)
    (fun _ hq => call_meets F.slot_str_ne_refl (typeIs_str s b u) F.entry_str_ne (F.args_str_ne_2 _ _) (str_ne_dict l o es n hd b u) ⟨ho, hq⟩)
    (fun _ hq => wpAny_of_eq (rfl : isSame (.ref l) (.str b u) = pure false) hq) (.inr hu) h
end
end LfQ
namespace L2
open PySem PySem.Spec PyProof.Rows Lf
section
variable {X : Cx}
theorem dict_obj {pins : List (Addr × Obj)} {σ : St} {H : Hp} {s : Shared} {a : Addr} {kvs : List (Key × V)} (I : Inv X pins σ H s) (h : H a = some (.dK kvs)) : ∃ o es n, s.heap.get? a = some o ∧ o.cls = .type "dict" ∧ o.data = .dict es n := by
  obtain ⟨_, _, vs, kv, o, es, ep, ho, hx, hd, _⟩ := I.hok a _ h
  exact ⟨o, es, ep, ho, hx.1, hd⟩
def rEqS : R2 := fun x y H Q => ∃ (t : String) (z : Str), y = .str z ∧ Kd H x t ∧ Q (.bl (decide (x = .str z))) H
def rNeS : R2 := fun x y H Q => ∃ (t : String) (z : Str), y = .str z ∧ Kd H x t ∧ Q (.bl (!decide (x = .str z))) H
theorem op_eqS (hu : X.A.units < cLine) : OpR X (compareOp .Eq) rEqS := by
  intro pins s σ H x y v u Q I rx ry h
  obtain ⟨t, z, rfl, k, q⟩ := h
  cases k with
  | non => exact op_eq pins s σ H _ _ v u Q I rx ry ⟨rfl, q⟩
  | bl b => exact op_eq pins s σ H _ _ v u Q I rx ry ⟨rfl, q⟩
  | int i => exact op_eq pins s σ H _ _ v u Q I rx ry ⟨rfl, q⟩
  | str w => exact op_eq pins s σ H _ _ v u Q I rx ry ⟨rfl, q⟩
  | @lst a xs e =>
    cases rx
    obtain ⟨t', rfl⟩ := ry
    obtain ⟨its, rv, pl, _⟩ := I.list (SqL.of (K := X.K) e)
    exact SeqAt.RcAt.list_str z t' pl.isList hu X.prog X.w _ _ ⟨.bl false, H, I, rfl, by simpa using q⟩
  | @tup a xs e =>
    cases rx
    obtain ⟨t', rfl⟩ := ry
    obtain ⟨its, rv, pl, _⟩ := I.tuple (SqT.of (K := X.K) e)
    exact SeqAt.RcAt.tuple_str z t' pl hu X.prog X.w _ _ ⟨.bl false, H, I, rfl, by simpa using q⟩
  | @dic a kvs e =>
    cases rx
    obtain ⟨t', rfl⟩ := ry
    obtain ⟨o, es, n, h1, h2, h3⟩ := dict_obj I e
    exact LfQ.rc_dict_str h1 h2 h3 z t' hu X.prog X.w _ _ ⟨.bl false, H, I, rfl, by simpa using q⟩
theorem op_neS (hu : X.A.units < cLine) : OpR X (compareOp .NotEq) rNeS := by
  intro pins s σ H x y v u Q I rx ry h
  obtain ⟨t, z, rfl, k, q⟩ := h
  cases k with
  | non => exact op_ne pins s σ H _ _ v u Q I rx ry ⟨rfl, q⟩
  | bl b => exact op_ne pins s σ H _ _ v u Q I rx ry ⟨rfl, q⟩
  | int i => exact op_ne pins s σ H _ _ v u Q I rx ry ⟨rfl, q⟩
  | str w => exact op_ne pins s σ H _ _ v u Q I rx ry ⟨rfl, q⟩
  | @lst a xs e =>
    cases rx
    obtain ⟨t', rfl⟩ := ry
    obtain ⟨its, rv, pl, _⟩ := I.list (SqL.of (K := X.K) e)
    exact SeqAt.RcNeAt.list_str z t' pl.isList hu X.prog X.w _ _ ⟨.bl true, H, I, rfl, by simpa using q⟩
  | @tup a xs e =>
    cases rx
    obtain ⟨t', rfl⟩ := ry
    obtain ⟨its, rv, pl, _⟩ := I.tuple (SqT.of (K := X.K) e)
    exact SeqAt.RcNeAt.tuple_str z t' pl hu X.prog X.w _ _ ⟨.bl true, H, I, rfl, by simpa using q⟩
  | @dic a kvs e =>
    cases rx
    obtain ⟨t', rfl⟩ := ry
    obtain ⟨o, es, n, h1, h2, h3⟩ := dict_obj I e
    exact LfQ.rn_dict_str h1 h2 h3 z t' hu X.prog X.w _ _ ⟨.bl true, H, I, rfl, by simpa using q⟩
/-- a tuple and the empty one -/
def rEqE (K : PySem.W.Frag) : R2 := fun x y H Q => ∃ a b xs, x = .ref a ∧ y = .ref b ∧ SqT K H a xs ∧ SqT K H b [] ∧ Q (.bl (xs.isEmpty)) H
def rNeE (K : PySem.W.Frag) : R2 := fun x y H Q => ∃ a b xs, x = .ref a ∧ y = .ref b ∧ SqT K H a xs ∧ SqT K H b [] ∧ Q (.bl (!xs.isEmpty)) H
theorem op_eqE (hu : X.A.units < cLine) : OpR X (compareOp .Eq) (rEqE X.K) := by
  intro pins s σ H x y v u Q I rx ry h
  obtain ⟨a, b, xs, rfl, rfl, ha, hb, q⟩ := h
  cases rx
  cases ry
  obtain ⟨its, rv, pl, _⟩ := I.tuple ha
  obtain ⟨its2, rv2, pl2, _⟩ := I.tuple hb
  cases rv2
  refine SeqAt.RcAt.tuples (e := fun _ => true) pl pl2 hu (fun j h1 h2 => absurd h2 (by simp)) X.prog X.w _ _ ⟨.bl xs.isEmpty, H, I, ?_, q⟩
  cases rv <;> simp [RelV]
theorem op_neE (hu : X.A.units < cLine) : OpR X (compareOp .NotEq) (rNeE X.K) := by
  intro pins s σ H x y v u Q I rx ry h
  obtain ⟨a, b, xs, rfl, rfl, ha, hb, q⟩ := h
  cases rx
  cases ry
  obtain ⟨its, rv, pl, _⟩ := I.tuple ha
  obtain ⟨its2, rv2, pl2, _⟩ := I.tuple hb
  cases rv2
  refine SeqAt.RcNeAt.tuples (e := fun _ => true) pl pl2 hu (fun j h1 h2 => absurd h2 (by simp)) X.prog X.w _ _ ⟨.bl (!xs.isEmpty), H, I, ?_, q⟩
  cases rv <;> simp [RelV]
end
end L2
set_option maxHeartbeats 4000000
/-! Trees and statements, plain -/
namespace Tr
open PySem Lf
def letters : Str := "abcdefghijklmnopqrstuvwxyz"
def isS (s : Str) : PyData → Bool
  | .str x => decide (x = s)
  | _ => false
def lets (x : Str) : Bool := x.cps.toList.all fun c => decide (c ∈ letters.cps.toList)
def isNm : PyData → Bool
  | .str x => decide (1 ≤ x.length) && decide (x.length ≤ 8) && lets x
  | _ => false
def isNu : PyData → Bool
  | .int _ => true
  | _ => false
def isIn : PyData → Bool
  | .int i => decide (-lim < i) && decide (i < lim)
  | _ => false
def within (a b : Int) : PyData → Bool
  | .int i => (decide (-lim < i) && decide (i < lim)) && (decide (a ≤ i) && decide (i ≤ b))
  | _ => false
/-- the tree of at most n levels -/
def isTr : Nat → PyData → Bool
  | 0, _ => false
  | n + 1, .tuple ds => match ds with
    | w :: nm :: ts =>
      if ts.length = 1 ∧ isS "at" w = true then isNm nm && within 0 3 (ts.getD 0 .none)
      else if ts.length = 2 ∧ isS "load" w = true then isNm nm && (isIn (ts.getD 0 .none) && isIn (ts.getD 1 .none))
      else if isS "op" w = true then isNm nm && (decide (ts.length ≤ 3) && ts.all fun t => isTr n t)
      else false
    | _ => false
  | _ + 1, _ => false
theorem isTr_cons (n : Nat) (w nm : PyData) (ts : List PyData) : isTr (n + 1) (.tuple (w :: nm :: ts)) =
    (if ts.length = 1 ∧ isS "at" w = true then isNm nm && within 0 3 (ts.getD 0 .none)
      else if ts.length = 2 ∧ isS "load" w = true then isNm nm && (isIn (ts.getD 0 .none) && isIn (ts.getD 1 .none))
      else if isS "op" w = true then isNm nm && (decide (ts.length ≤ 3) && ts.all fun t => isTr n t)
      else false) := by rw [isTr]
def hd0 : PyData → PyData
  | .tuple (d :: _) => d
  | _ => .none
def isZ : PyData → Bool
  | .int i => decide (i = 0)
  | _ => false
/-- the statement -/
def isSt : PyData → Bool
  | .tuple ds =>
    if ds.length = 3 ∧ isS "set" (ds.getD 0 .none) = true then isNm (ds.getD 1 .none) && (isTr 4 (ds.getD 2 .none) && !isS "at" (hd0 (ds.getD 2 .none)))
    else if ds.length = 6 ∧ isS "store" (ds.getD 0 .none) = true then
      isNm (ds.getD 1 .none) && (isNm (ds.getD 2 .none) && (isIn (ds.getD 3 .none) && (isIn (ds.getD 4 .none) && (!isZ (ds.getD 3 .none) && isTr 4 (ds.getD 5 .none)))))
    else false
  | _ => false
theorem isTr_tup {n : Nat} {d : PyData} (h : isTr n d = true) : ∃ w nm ts, d = .tuple (w :: nm :: ts) := by
  cases n with
  | zero => cases h
  | succ n =>
    cases d with
    | tuple ds =>
      match ds, h with
      | w :: nm :: ts, _ => exact ⟨w, nm, ts, rfl⟩
    | _ => cases h
theorem isIn_int {d : PyData} (h : isIn d = true) : ∃ i, d = .int i := by
  cases d with
  | int i => exact ⟨i, rfl⟩
  | _ => cases h
theorem isS_eq {s : Str} {d : PyData} (h : isS s d = true) : d = .str s := by
  cases d with
  | str x => rw [of_decide_eq_true (show decide (x = s) = true from h)]
  | _ => cases h
def subs : List PyData → List PyData
  | w :: r => if isS "op" w = true then r.drop 1 else []
  | [] => []
theorem isTr_sub {n : Nat} {w nm : PyData} {ts : List PyData} (h : isTr (n + 1) (.tuple (w :: nm :: ts)) = true) : (subs (w :: nm :: ts)).length ≤ 3 ∧ ∀ t ∈ subs (w :: nm :: ts), isTr n t = true := by
  have e0 : subs (w :: nm :: ts) = if isS "op" w = true then ts else [] := rfl
  rw [e0]
  by_cases c : isS "op" w = true
  · rw [if_pos c]
    have e := isS_eq c
    subst e
    rw [isTr_cons, if_neg (fun z => absurd z.2 (by decide)), if_neg (fun z => absurd z.2 (by decide)), if_pos c] at h
    simp at h
    exact ⟨h.2.1, fun t ht => h.2.2 t ht⟩
  · rw [if_neg c]
    exact ⟨Nat.zero_le _, fun t ht => by cases ht⟩
/-- the greatest, none below 0 -/
def mx (ns : List Int) : Int := ns.foldl max 0
theorem foldl_max_ge (ns : List Int) : ∀ a : Int, a ≤ ns.foldl max a ∧ (∀ y ∈ ns, y ≤ ns.foldl max a) ∧ (ns.foldl max a = a ∨ ns.foldl max a ∈ ns) := by
  induction ns with
  | nil => intro a; exact ⟨Int.le_refl _, (fun y h => by cases h), .inl rfl⟩
  | cons n ns ih =>
    intro a
    obtain ⟨h1, h2, h3⟩ := ih (max a n)
    rw [List.foldl_cons]
    refine ⟨by omega, fun y hy => ?_, ?_⟩
    · rcases List.mem_cons.mp hy with rfl | hy
      · omega
      · exact h2 y hy
    · rcases h3 with h3 | h3
      · rw [h3]
        by_cases c : a ≤ n
        · rw [Int.max_eq_right c]; exact .inr (List.mem_cons_self ..)
        · rw [Int.max_eq_left (by omega)]; exact .inl rfl
      · exact .inr (List.mem_cons_of_mem _ h3)
theorem mx_ge (ns : List Int) : 0 ≤ mx ns := (foldl_max_ge ns 0).1
theorem mx_zero {ns : List Int} {m : Int} (hm : m ∈ (0 : Int) :: ns) (h : ∀ y ∈ (0 : Int) :: ns, y ≤ m) : m = mx ns := by
  obtain ⟨h1, h2, h3⟩ := foldl_max_ge ns 0
  have a : mx ns ≤ m := by
    rcases h3 with h3 | h3
    · show ns.foldl max 0 ≤ m
      rw [h3]; exact h 0 (List.mem_cons_self ..)
    · exact h _ (List.mem_cons_of_mem _ h3)
  have b : m ≤ mx ns := by
    rcases List.mem_cons.mp hm with rfl | hm
    · exact h1
    · exact h2 m hm
  omega
theorem mx_of {ns : List Int} {m : Int} (h0 : ∀ y ∈ ns, 0 ≤ y) (hm : m ∈ ns) (h : ∀ y ∈ ns, y ≤ m) : m = mx ns :=
  mx_zero (List.mem_cons_of_mem _ hm) fun y hy => by
    rcases List.mem_cons.mp hy with rfl | hy
    · exact h0 m hm
    · exact h y hy
/-- how many levels -/
def lvl : Nat → PyData → Int
  | n + 1, .tuple ds => 1 + mx ((subs ds).map fun t => lvl n t)
  | _, _ => 0
theorem lvl_ge (n : Nat) (d : PyData) : 0 ≤ lvl n d := by
  cases n with
  | zero => exact Int.le_refl _
  | succ n =>
    cases d with
    | tuple ds =>
      have := mx_ge ((subs ds).map fun t => lvl n t)
      rw [lvl]
      omega
    | _ => exact Int.le_refl _
end Tr
set_option maxHeartbeats 4000000
namespace My
open PySem L2 Lf Evl Tr
def top (i : Nat) : Stmt := PySem.Challenge.pw_loopfoundry_k18_shapes_and_patterns_judg.main.body.getD i (.Pass ⟨0, 0, 0, 0⟩)
structure Txt (K : PySem.W.Frag) (mg : Str → Option Value) : Prop where
  n_isinstance : mg "isinstance" = none
  n_int : mg "int" = none
  n_bool : mg "bool" = none
  n_str : mg "str" = none
  n_tuple : mg "tuple" = none
  n_len : mg "len" = none
  n_abs : mg "abs" = none
  n_max : mg "max" = none
  n_min : mg "min" = none
  n_list : mg "list" = none
  n_range : mg "range" = none
  n_all : mg "all" = none
  n_sum : mg "sum" = none
  n_repr : mg "repr" = none
  n_zip : mg "zip" = none
  n_sorted : mg "sorted" = none
  n_set : mg "set" = none
  g_HOLE : ∃ t, mg "HOLE" = some (.str "hole" t)
  g_LOAD : ∃ t, mg "LOAD" = some (.str "load" t)
  g_OP : ∃ t, mg "OP" = some (.str "op" t)
  g_STORE : ∃ t, mg "STORE" = some (.str "store" t)
  g_LETTERS : ∃ t, mg "LETTERS" = some (.str letters t)
  g_MAX_SHAPE : ∃ t, mg "MAX_SHAPE" = some (.int 4 t)
  g_MAX_NAME : ∃ t, mg "MAX_NAME" = some (.int 8 t)
  g_LIMIT : ∃ t, mg "LIMIT" = some (.int lim t)
  g_MAX_TREES : ∃ t, mg "MAX_TREES" = some (.int 3 t)
  g_MAX_TICKS : ∃ t, mg "MAX_TICKS" = some (.int 4 t)
  g_MAX_COST : ∃ t, mg "MAX_COST" = some (.int 20 t)
  g_MAX_OFFSET : ∃ t, mg "MAX_OFFSET" = some (.int 3 t)
abbrev s_is_name : Stmt := top 5
theorem sc_is_name : FnScope ["value", "letter"] ["value"] (defScope s_is_name) := ⟨rfl, rfl, rfl, by decide +kernel, rfl, by decide +kernel, by decide +kernel⟩
abbrev s_is_number : Stmt := top 6
theorem sc_is_number : FnScope ["value"] ["value"] (defScope s_is_number) := ⟨rfl, rfl, rfl, by decide +kernel, rfl, by decide +kernel, by decide +kernel⟩
abbrev s_is_integer : Stmt := top 7
theorem sc_is_integer : FnScope ["value"] ["value"] (defScope s_is_integer) := ⟨rfl, rfl, rfl, by decide +kernel, rfl, by decide +kernel, by decide +kernel⟩
abbrev s_is_within : Stmt := top 8
theorem sc_is_within : FnScope ["value", "low", "high"] ["value", "low", "high"] (defScope s_is_within) := ⟨rfl, rfl, rfl, by decide +kernel, rfl, by decide +kernel, by decide +kernel⟩
theorem if_so {c : Bool} {A B : Prop} (hc : c = true) (h : A) : if c = true then A else B := by
  rw [if_pos hc]
  exact h
theorem if_no {c : Bool} {A B : Prop} (hc : c = false) (h : B) : if c = true then A else B := by
  rw [hc, if_neg Bool.false_ne_true]
  exact h
/-! ### more of what evaluates -/
section
variable {K : PySem.W.Frag} {σ : L2.St} {G : Hp} {ta tb tc te : TE} {t u : TT} {d : PyData}
theorem da_isS {H : Hp} {v : V} {z : Str} (h : Da H v d) : decide (v = .str z) = isS z d := by
  cases h <;> simp [isS]
theorem ev_eqS {z : Str} (ha : EvD ta σ G d) (hb : Ev tb σ G (.str z)) : Ev (tOp rEqS ta tb) σ G (.bl (isS z d)) := fun H1 x Q q => ha G H1 (Ex.refl _) x _ fun v G2 H2 r hd => hb H2 (r.g.trans r.s) _ fun H3 x3 =>
  ⟨_, z, rfl, (hd.up (r.s.trans x3)).kd, by rw [da_isS hd]; exact q H3 (r.h.trans x3)⟩
theorem ev_neS {z : Str} (ha : EvD ta σ G d) (hb : Ev tb σ G (.str z)) : Ev (tOp rNeS ta tb) σ G (.bl (!isS z d)) := fun H1 x Q q => ha G H1 (Ex.refl _) x _ fun v G2 H2 r hd => hb H2 (r.g.trans r.s) _ fun H3 x3 =>
  ⟨_, z, rfl, (hd.up (r.s.trans x3)).kd, by rw [da_isS hd]; exact q H3 (r.h.trans x3)⟩
theorem ev_chain {f g : Int → Int → Bool} {a b c : Int} (ha : Ev ta σ G (.int a)) (hb : Ev tb σ G (.int b)) (hc : Ev tc σ G (.int c)) : Ev (tChain (rI0 fun i j => .bl (f i j)) (rI0 fun i j => .bl (g i j)) ta tb tc) σ G (.bl (f a b && g b c)) := fun H1 x Q q =>
  ha H1 x _ fun H2 x2 => hb H2 (x.trans x2) _ fun H3 x3 => ⟨a, b, rfl, rfl, f a b, rfl, by
    have q3 : ∀ H4, Ex H3 H4 → Q (.bl (f a b && g b c)) H4 := fun H4 x4 => q H4 ((x2.trans x3).trans x4)
    generalize f a b = fb at *
    cases fb with
    | false => exact if_no rfl (q3 H3 (Ex.refl _))
    | true => exact if_so rfl (hc H3 ((x.trans x2).trans x3) _ fun H4 x4 => ⟨b, c, rfl, rfl, q3 H4 x4⟩)⟩
end
def f1 (f : PyData → PyData) : List PyData → Option PyData
  | [d] => some (f d)
  | _ => none
def spB (f : PyData → Bool) : Sp := spF (f1 fun d => .bool (f d))
def spW : Sp := spF fun ds => match ds with
  | [d, .int a, .int b] => some (.bool (within a b d))
  | _ => none
theorem spF_len {F : List PyData → Option PyData} {n : Nat} (hF : ∀ ds d, F ds = some d → ds.length = n) {vs : List V} {H : Hp} {Q : VK} {E : XK} (h : spF F vs H Q E) : vs.length = n := by
  obtain ⟨G, ds, d, _, h2, h3, _⟩ := h
  rw [h2.len, hF ds d h3]
theorem f1_len {f : PyData → PyData} (ds : List PyData) (d : PyData) (h : f1 f ds = some d) : ds.length = 1 := by
  unfold f1 at h
  split at h
  · rfl
  · cases h
theorem spB_of {f : PyData → Bool} {vs : List V} {H : Hp} {Q : VK} {E : XK} (h : spB f vs H Q E) : ∃ G v d, vs = [v] ∧ Ex G H ∧ Da G v d ∧ ∀ H', Ex H H' → Q (.bl (f d)) H' := by
  obtain ⟨G, ds, d, s, h2, h3, k⟩ := h
  unfold f1 at h3
  split at h3
  · rename_i d'
    cases h3
    cases h2 with
    | cons h t =>
      cases t
      exact ⟨G, _, d', rfl, s, h, fun H' x => k _ G H' (Gr.keep s x) (.bl _)⟩
  · cases h3
theorem isNm_str (x : Str) : isNm (.str x) = (decide (1 ≤ x.length) && decide (x.length ≤ 8) && lets x) := rfl
theorem filter_yes {α : Type} (l : List α) : l.filter (fun _ => true) = l := List.filter_eq_self.mpr fun _ _ => rfl
theorem kd_str {d : PyData} (h : kd d = "str") : ∃ x, d = .str x := by
  cases d with
  | str x => exact ⟨x, rfl⟩
  | none => exact absurd h (by decide)
  | bool b => exact absurd h (show ¬ "bool" = "str" by decide)
  | int b => exact absurd h (show ¬ "int" = "str" by decide)
  | list b => exact absurd h (show ¬ "list" = "str" by decide)
  | tuple b => exact absurd h (show ¬ "tuple" = "str" by decide)
  | dict b => exact absurd h (show ¬ "dict" = "str" by decide)
section
variable {K : PySem.W.Frag} {σ : L2.St} {G H : Hp} {te : TE} {d : PyData} {D : Ends} {v : V} {f : PyData → Bool} {E : XK}
theorem ev_lenS {z : Str} (h : EvD te σ G (.str z)) : Ev (tCB (fun xs H Q => ∃ z : Str, xs = [V.str z] ∧ z.length ≤ sizeLine ∧ Q (.int z.length) H) (tCons te tNil)) σ G (.int (z.length : Int)) := fun H1 x Q q => h G H1 (Ex.refl _) x _ fun v G2 H2 r hd => by
  obtain ⟨rfl, hl⟩ := hd.str_
  exact ⟨z, rfl, Nat.le_trans hl (by decide), q H2 r.h⟩
theorem ev_callB (h : EvD te σ G d) : Ev (tCallD (spB f) E (tCons te tNil)) σ G (.bl (f d)) := EvD.bl_ (evd_call (evd_cons h evd_nil) rfl)
theorem Ev.ret (s : Ex G H) (h : Ev te σ G v) (k : ∀ H1, Ex H H1 → D.rt v H1) : tRet te D σ H := h H s _ k
end
section
variable {P : Program} {w : World} {K : PySem.W.Frag} {mg : Str → Option Value} {base : Heap}
theorem ok_is_name (T : Txt K mg) (D : Df K mg "is_name" s_is_name) : DefOk P w K mg base CX0 1 "is_name" ["value"] (spB isNm) := by
  refine D.ok sc_is_name (fun _ _ _ _ _ _ us hl => match us, hl with | [_], _ => rfl) (fun vs H Q E h => spF_len f1_len h) (fun f cdv A outer s H vs Q E hr h => ?_)
  obtain ⟨G, v, d, rfl, s, hd, k⟩ := spB_of h
  refine ⟨_, (pss_cons (ps_if (PW.pt (pw_or (pt_not (pt_val (pe_callB call_isi (by rfl) T.n_isinstance (by decide +kernel) (pa_cons (pv 0) (pa_cons (pe_bltn (v := .ty "str") (by rfl) T.n_str (by decide +kernel) rfl) pa_nil))))) (pw_or1 (pt_not (pt_chain op_le op_le pe_int (pe_callB call_len_str (by rfl) T.n_len (by decide +kernel) (pa_cons (pv 0) pa_nil)) (pe_gInt (by rfl) T.g_MAX_NAME))))))
 (pss_one (ps_ret pe_bl))
 pss_nil)
 (pss_one (ps_ret (pe_callB (cr_all rfl) (by rfl) T.n_all (by decide +kernel) (pa_cons (pe_lc (own := [("letter", 1)]) (by rfl) sc_is_name.nd (pi_str (pv 0)) (blkOk_by (own := [("letter", 1)]) (N := ["value", "letter"]) (sc := defScope s_is_name) (by decide +kernel)) (fun _ _ _ _ _ => (pg_name (i := 1) sc_is_name.nd rfl (Or.inl rfl))) (fun _ _ _ _ _ => pts_nil) (fun _ _ _ _ _ => (pe_cmpR op_in_sign (pv 1) (pe_gStr (by rfl) T.g_LETTERS) (by rfl)))) pa_nil))))), ?_⟩
  by_cases c : kd d = "str"
  · obtain ⟨x, rfl⟩ := kd_str c
    obtain ⟨rfl, hl⟩ := hd.str_
    refine q_ifD s (et_or (et_not (et_B (ev_isStr (evd_var rfl hd)))) (fun _ => et_not (et_test (ev_chain ev_c (ev_lenS (evd_var rfl hd)) ev_c)))) (fun hb H1 x1 => ?_) (fun hb H1 x1 => ?_)
    · have : isNm (.str x) = false := by
        simp [kd] at hb
        rw [isNm_str]
        rcases hb with hb | hb
        · rw [decide_eq_false (by omega : ¬ 1 ≤ x.length)]
          rfl
        · rw [decide_eq_false (by omega : ¬ x.length ≤ 8)]
          simp
      rw [this] at k
      exact k H1 x1
    · simp [kd] at hb
      have a1 : 1 ≤ x.length ∧ x.length ≤ 8 := by omega
      have e2 : isNm (.str x) = ((x.cps.toList.map fun c => decide (c ∈ letters.cps.toList)).all id) := by
        rw [isNm_str]
        unfold lets
        rw [decide_eq_true a1.1, decide_eq_true a1.2, List.all_map]
        rfl
      rw [e2] at k
      refine s_ret (ev_allD (K := K) (EvD.is (evd_lcS (fun _ => true) (fun c => .bool (decide (c ∈ letters.cps.toList))) (evd_var rfl (hd.up (s.trans x1))) (fun _ => rfl) (fun c _ => et_yes (b := true)) (fun c _ _ => evd_bl (fun H2 x2 Q' q' => ⟨_, rfl, c, letters, rfl, rfl, q' H2 (Ex.refl _)⟩))) ?_)) (fun H2 x2 => k H2 (x1.trans x2))
      rw [filter_yes, List.map_map]
      rfl
  · have nm : isNm d = false := by cases d <;> (first | rfl | exact absurd rfl c)
    rw [nm] at k
    refine q_ifD s (b := true) (fun H1 x1 Q' q' => (ev_isStr (evd_var rfl hd)) H1 x1 _ fun H2 x2 => ⟨_, rfl, ?_⟩) (fun _ H1 x1 => k H1 x1) (fun z => by cases z)
    rw [beq_eq_false_iff_ne.mpr c]
    exact q' H2 x2
theorem ok_is_number (T : Txt K mg) (D : Df K mg "is_number" s_is_number) : DefOk P w K mg base CX0 1 "is_number" ["value"] (spB isNu) := by
  refine D.ok sc_is_number (fun _ _ _ _ _ _ us hl => match us, hl with | [_], _ => rfl) (fun vs H Q E h => spF_len f1_len h) (fun f cdv A outer s H vs Q E hr h => ?_)
  obtain ⟨G, v, d, rfl, s, hd, k⟩ := spB_of h
  refine ⟨_, (pss_one (ps_ret (pe_and (pe_callB call_isi (by rfl) T.n_isinstance (by decide +kernel) (pa_cons (pv 0) (pa_cons (pe_bltn (v := .ty "int") (by rfl) T.n_int (by decide +kernel) rfl) pa_nil))) (pe_one (pe_not (pe_callB call_isi (by rfl) T.n_isinstance (by decide +kernel) (pa_cons (pv 0) (pa_cons (pe_bltn (v := .ty "bool") (by rfl) T.n_bool (by decide +kernel) rfl) pa_nil)))))))), ?_⟩
  have e : isNu d = ((kd d == "int" || kd d == "bool") && !(kd d == "bool")) := by cases d <;> rfl
  rw [e] at k
  exact Ev.ret s (ev_andV (ev_isInt (evd_var rfl hd)) fun _ => ev_notV (ev_isBool (evd_var rfl hd))) k
theorem ok_is_integer (T : Txt K mg) (D : Df K mg "is_integer" s_is_integer) (D_is_number : DefOk P w K mg base CX0 1 "is_number" ["value"] (spB isNu)) : DefOk P w K mg base CX0 2 "is_integer" ["value"] (spB isIn) := by
  refine D.ok sc_is_integer (fun _ _ _ _ _ _ us hl => match us, hl with | [_], _ => rfl) (fun vs H Q E h => spF_len f1_len h) (fun f cdv A outer s H vs Q E hr h => ?_)
  obtain ⟨G, v, d, rfl, s, hd, k⟩ := spB_of h
  refine ⟨_, (pss_one (ps_ret (pe_and (pe_callD D_is_number (hr.mono (by decide)) pass0 (pa_cons (pv 0) pa_nil)) (pe_one (pe_chain op_lt op_lt (pe_un un_neg (pe_gInt (by rfl) T.g_LIMIT)) (pv 0) (pe_gInt (by rfl) T.g_LIMIT)))))), ?_⟩
  have e : isIn d = (isNu d && isIn d) := by cases d <;> rfl
  rw [e] at k
  refine Ev.ret s (ev_andV (ev_callB (evd_var rfl hd)) fun hb => ?_) k
  cases d with
  | int i => rw [hd.int_]; exact ev_chain (ev_un ev_c ru_neg) (ev_var rfl) ev_c
  | _ => cases hb
theorem ok_is_within (T : Txt K mg) (D : Df K mg "is_within" s_is_within) (D_is_integer : DefOk P w K mg base CX0 2 "is_integer" ["value"] (spB isIn)) : DefOk P w K mg base CX0 3 "is_within" ["value", "low", "high"] spW := by
  refine D.ok sc_is_within (fun _ _ _ _ _ _ us hl => match us, hl with | [_, _, _], _ => rfl) (fun vs H Q E h => spF_len (fun ds d e => ?_) h) (fun f cdv A outer s H vs Q E hr h => ?_)
  · split at e
    · rfl
    · cases e
  obtain ⟨G, ds, d0, s, h2, h3, k⟩ := h
  dsimp only at h3
  split at h3
  · rename_i d a b
    cases h3
    cases h2 with
    | cons hd t =>
      cases t with
      | cons ha t =>
        cases t with
        | cons hb t =>
          cases t
          refine ⟨_, (pss_one (ps_ret (pe_and (pe_callD D_is_integer (hr.mono (by decide)) pass0 (pa_cons (pv 0) pa_nil)) (pe_one (pe_chain op_le op_le (pv 1) (pv 0) (pv 2)))))), ?_⟩
          have e : within a b d = (isIn d && within a b d) := by
            cases d with
            | int i =>
              show ((decide (-lim < i) && decide (i < lim)) && _) = ((decide (-lim < i) && decide (i < lim)) && ((decide (-lim < i) && decide (i < lim)) && _))
              cases (decide (-lim < i) && decide (i < lim)) <;> rfl
            | _ => rfl
          rw [e] at k
          refine Ev.ret s (ev_andV (ev_callB (evd_var rfl hd)) fun hb2 => ?_) (fun H1 x1 => k _ G H1 (Gr.keep s x1) (.bl _))
          cases d with
          | int i =>
            rw [hd.int_, ha.int_, hb.int_]
            have e2 : within a b (.int i) = (decide (a ≤ i) && decide (i ≤ b)) := by
              show ((decide (-lim < i) && decide (i < lim)) && _) = _
              rw [show (decide (-lim < i) && decide (i < lim)) = true from hb2]
              rfl
            rw [e2]
            exact ev_chain (ev_var rfl) (ev_var rfl) (ev_var rfl)
          | _ => cases hb2
  · cases h3
end
end My
set_option maxHeartbeats 4000000
/-! The names of a tree's working nodes, plain -/
namespace Tr
open PySem Lf
def kO (op : Str) (i : Nat) : Str := ((Str.empty ++ op) ++ (Str.ofString ".")) ++ Str.ofString (toString ((i : Nat) : Int))
def keysN : Nat → PyData → Str → List Str
  | n + 1, .tuple ds, op => if isS "at" (ds.getD 0 .none) = true then [] else op :: (List.range (subs ds).length).flatMap fun j => keysN n ((subs ds).getD j .none) (kO op j)
  | _, _, _ => []
def wrk : Nat → PyData → Int
  | n + 1, .tuple ds => if isS "at" (ds.getD 0 .none) = true then 0 else 1 + ((subs ds).map fun t => wrk n t).sum
  | _, _ => 0
/-- s goes on behind op with a point, if at all -/
def Goes (op s : Str) : Prop := ∃ r, s.cps.toList = op.cps.toList ++ r ∧ (r = [] ∨ ∃ q, r = 46 :: q)
def kTail (i : Nat) : List Nat := 46 :: (Str.ofString (toString ((i : Nat) : Int))).cps.toList
theorem app_cps (a b : Str) : (a ++ b).cps.toList = a.cps.toList ++ b.cps.toList := by
  show (a.cps ++ b.cps).toList = _
  rw [Array.toList_append]
theorem kO_cps (op : Str) (i : Nat) : (kO op i).cps.toList = op.cps.toList ++ kTail i := by
  unfold kO
  rw [app_cps, app_cps, app_cps]
  have e1 : (Str.empty).cps.toList = [] := rfl
  have e2 : (Str.ofString ".").cps.toList = [46] := by decide +kernel
  rw [e1, e2]
  simp [kTail]
theorem goes_refl (op : Str) : Goes op op := ⟨[], by simp, .inl rfl⟩
theorem goes_kO {op s : Str} {i : Nat} (h : Goes (kO op i) s) : Goes op s := by
  obtain ⟨r, e, _⟩ := h
  rw [kO_cps, List.append_assoc] at e
  exact ⟨_, e, .inr ⟨_, rfl⟩⟩
theorem goes_long {op s : Str} {i : Nat} (h : Goes (kO op i) s) : s ≠ op := fun z => by
  obtain ⟨r, e, _⟩ := h
  rw [kO_cps, z] at e
  have := congrArg List.length e
  simp [kTail] at this
theorem kTail_small {i : Nat} (h : i < 3) : kTail i = [46, 48 + i] := by
  match i, h with
  | 0, _ => decide +kernel
  | 1, _ => decide +kernel
  | 2, _ => decide +kernel
theorem goes_apart {op s : Str} {i j : Nat} (hi : i < 3) (hj : j < 3) (h : Goes (kO op i) s) (h' : Goes (kO op j) s) : i = j := by
  obtain ⟨r, e, _⟩ := h
  obtain ⟨r', e', _⟩ := h'
  rw [kO_cps, kTail_small hi, List.append_assoc] at e
  rw [kO_cps, kTail_small hj, List.append_assoc, e] at e'
  have e'' := List.append_cancel_left e'
  simp at e''
  omega
theorem keys_goes (n : Nat) : ∀ (d : PyData) (op s : Str), s ∈ keysN n d op → Goes op s := by
  induction n with
  | zero => intro d op s h; cases h
  | succ n ih =>
    intro d op s h
    cases d with
    | tuple ds =>
      rw [keysN] at h
      split at h
      · cases h
      · rcases List.mem_cons.mp h with rfl | h
        · exact goes_refl _
        · obtain ⟨j, _, h⟩ := List.mem_flatMap.mp h
          exact goes_kO (ih _ _ _ h)
    | _ => cases h
/-- what stands before turn i -/
def keysTo (n : Nat) (ts : List PyData) (op : Str) (i : Nat) : List Str := op :: (List.range i).flatMap fun j => keysN n (ts.getD j .none) (kO op j)
theorem keysTo_succ (n : Nat) (ts : List PyData) (op : Str) (i : Nat) : keysTo n ts op (i + 1) = keysTo n ts op i ++ keysN n (ts.getD i .none) (kO op i) := by
  unfold keysTo
  rw [List.range_succ, List.flatMap_append]
  simp
theorem keys_apart {n : Nat} {ts : List PyData} {op s : Str} {i : Nat} (hi : i < 3) (h : s ∈ keysTo n ts op i) (h' : s ∈ keysN n (ts.getD i .none) (kO op i)) : False := by
  have g := keys_goes n _ _ _ h'
  rcases List.mem_cons.mp h with rfl | h
  · exact goes_long g rfl
  · obtain ⟨j, hj, h⟩ := List.mem_flatMap.mp h
    have hj := List.mem_range.mp hj
    have := goes_apart (by omega) hi (keys_goes n _ _ _ h) g
    omega
theorem keys_nodup (n : Nat) : ∀ (d : PyData) (op : Str), isTr n d = true → (keysN n d op).Nodup := by
  induction n with
  | zero => intro d op h; exact List.nodup_nil
  | succ n ih =>
    intro d op h
    obtain ⟨w, nm, ts, rfl⟩ := isTr_tup h
    obtain ⟨h3, hall⟩ := isTr_sub h
    rw [keysN]
    split
    · exact List.nodup_nil
    · have go : ∀ i, i ≤ (subs (w :: nm :: ts)).length → (keysTo n (subs (w :: nm :: ts)) op i).Nodup := by
        intro i
        induction i with
        | zero => intro _; simp [keysTo]
        | succ i ih2 =>
          intro hi
          rw [keysTo_succ]
          refine List.nodup_append.mpr ⟨ih2 (by omega), ih _ _ ?_, ?_⟩
          · have hl : i < (subs (w :: nm :: ts)).length := by omega
            rw [List.getD_eq_getElem?_getD, List.getElem?_eq_getElem hl, Option.getD_some]
            exact hall _ (List.getElem_mem hl)
          · intro a ha b hb e
            subst e
            exact keys_apart (by omega) ha hb
      exact go _ (Nat.le_refl _)
theorem range_getD (ts : List PyData) (f : PyData → Int) : (List.range ts.length).map (fun j => f (ts.getD j .none)) = ts.map f := by
  apply List.ext_getElem
  · simp
  · intro i h1 h2
    have hi : i < ts.length := by simpa using h2
    simp [hi]
theorem flat_len {α : Type} (l : List Nat) (f : Nat → List α) : (((l.flatMap f).length : Nat) : Int) = (l.map fun j => ((f j).length : Int)).sum := by
  induction l with
  | nil => rfl
  | cons a t ih =>
    rw [List.flatMap_cons, List.length_append, List.map_cons, List.sum_cons, ← ih]
    omega
theorem keys_len (n : Nat) : ∀ (d : PyData) (op : Str), ((keysN n d op).length : Int) = wrk n d := by
  induction n with
  | zero => intro d op; rfl
  | succ n ih =>
    intro d op
    cases d with
    | tuple ds =>
      rw [keysN, wrk]
      split
      · rfl
      · rw [List.length_cons, ← range_getD (subs ds) (fun t => wrk n t)]
        have e := flat_len (List.range (subs ds).length) (fun j => keysN n ((subs ds).getD j .none) (kO op j))
        have e2 : (List.range (subs ds).length).map (fun j => ((keysN n ((subs ds).getD j .none) (kO op j)).length : Int)) = (List.range (subs ds).length).map (fun j => wrk n ((subs ds).getD j .none)) :=
          List.map_congr_left fun j _ => ih _ _
        rw [e2] at e
        omega
    | _ => rfl
theorem kO_len {op : Str} {i : Nat} (h : i < 3) : (kO op i).length = op.length + 2 := by
  have e := congrArg List.length (kO_cps op i)
  rw [List.length_append, kTail_small h] at e
  simpa [Str.length] using e
theorem getD_mem {ts : List PyData} {i : Nat} (h : i < ts.length) : ts.getD i .none ∈ ts := by
  rw [List.getD_eq_getElem?_getD, List.getElem?_eq_getElem h, Option.getD_some]
  exact List.getElem_mem h
theorem keysTo_le {n : Nat} {ts : List PyData} (h : ∀ t ∈ ts, ∀ op, (keysN n t op).length ≤ 4 ^ n) (op : Str) : ∀ i, i ≤ ts.length → (keysTo n ts op i).length ≤ 1 + i * 4 ^ n := by
  intro i
  induction i with
  | zero => intro _; simp [keysTo]
  | succ i ih =>
    intro hi
    rw [keysTo_succ, List.length_append, Nat.succ_mul]
    have := ih (by omega)
    have := h _ (getD_mem (show i < ts.length by omega)) (kO op i)
    omega
theorem keys_le (n : Nat) : ∀ (d : PyData) (op : Str), isTr n d = true → (keysN n d op).length ≤ 4 ^ n := by
  induction n with
  | zero => intro d op h; cases h
  | succ n ih =>
    intro d op h
    obtain ⟨w, nm, ts, rfl⟩ := isTr_tup h
    obtain ⟨h3, hall⟩ := isTr_sub h
    rw [keysN]
    split
    · exact Nat.zero_le _
    · have e := keysTo_le (fun t ht op => ih t op (hall t ht)) op _ (Nat.le_refl _)
      have : (subs (w :: nm :: ts)).length * 4 ^ n ≤ 3 * 4 ^ n := Nat.mul_le_mul_right _ h3
      have h4 : 0 < 4 ^ n := Nat.pow_pos (by decide)
      show (keysTo n (subs (w :: nm :: ts)) op _).length ≤ _
      rw [Nat.pow_succ]
      omega
theorem pow_small {n : Nat} (h : n ≤ 5) : 4 ^ n ≤ 1024 := Nat.le_trans (Nat.pow_le_pow_right (by decide) h) (by decide)
theorem len_app (a b : Str) : (a ++ b).length = a.length + b.length := by
  show (a.cps ++ b.cps).size = _
  rw [Array.size_append]
  rfl
end Tr
set_option maxHeartbeats 4000000
/-! Names, digits, trees, as the law looks at them; plain -/
namespace Tr
open PySem Lf
def inz (c : Nat) : Bool := decide (97 ≤ c) && decide (c ≤ 122)
theorem letters_list : letters.cps.toList = List.range' 97 26 := by decide +kernel
theorem mem_letters (c : Nat) : decide (c ∈ letters.cps.toList) = inz c := by
  rw [letters_list]
  unfold inz
  rw [← Bool.decide_and, decide_eq_decide, List.mem_range']
  constructor
  · rintro ⟨i, h, rfl⟩
    omega
  · intro h
    exact ⟨c - 97, by omega, by omega⟩
theorem lets_empty {α : Type} (x : Str) (f : Nat → α) : lets x = ((x.cps.toList.filter fun c => !inz c).map f).isEmpty := by
  unfold lets
  generalize x.cps.toList = l
  induction l with
  | nil => rfl
  | cons c l ih =>
    rw [List.all_cons, ih, mem_letters]
    cases e : inz c with
    | true => rw [List.filter_cons_of_neg (by rw [e]; decide)]; rfl
    | false => rw [List.filter_cons_of_pos (by rw [e]; rfl)]; rfl
theorem sg_lt (a b : Nat) : decide (([a] : List Nat) < [b]) = decide (a < b) := by
  rw [decide_eq_decide]
  constructor
  · intro h
    cases h with
    | rel h => exact h
    | cons h => cases h
  · intro h
    exact .rel h
theorem len_digits (n k : Nat) (h : 0 < k) : (Str.ofString (toString ((n : Nat) : Int))).length ≤ k ↔ n < 10 ^ k := by
  have e : (Str.ofString (toString ((n : Nat) : Int))).length = n.repr.length := by
    rw [PyProof.Rows.ofString_len]
    rfl
  rw [e]
  exact Nat.length_repr_le_iff h
theorem len_abs (i : Int) : decide (((Str.ofString (toString (if i < 0 then -i else i))).length : Int) ≤ 30) = isIn (.int i) := by
  have e : (if i < 0 then -i else i) = ((i.natAbs : Nat) : Int) := by split <;> omega
  rw [e]
  show _ = (decide (-lim < i) && decide (i < lim))
  rw [← Bool.decide_and, decide_eq_decide]
  have h := len_digits i.natAbs 30 (by decide)
  have l : (lim : Int) = ((10 ^ 30 : Nat) : Int) := by decide +kernel
  rw [l]
  have : ((Str.ofString (toString ((i.natAbs : Nat) : Int))).length : Int) ≤ 30 ↔ (Str.ofString (toString ((i.natAbs : Nat) : Int))).length ≤ 30 := by omega
  rw [this, h]
  generalize (10 ^ 30 : Nat) = N
  omega
theorem len_big {i : Int} (h : i.natAbs.log2 < 1920) : (Str.ofString (toString ((i.natAbs : Nat) : Int))).length ≤ 1000 := by
  refine (len_digits i.natAbs 1000 (by decide)).mpr ?_
  have h1 : i.natAbs < 2 ^ 1920 := by
    by_cases c : i.natAbs = 0
    · rw [c]; exact Nat.two_pow_pos _
    · exact (Nat.log2_lt c).mp h
  exact Nat.lt_of_lt_of_le h1 (by decide +kernel)
def core (j : Nat) (w : PyData) (ts : List PyData) : Bool :=
  if ts.length = 1 ∧ isS "at" w = true then within 0 3 (ts.getD 0 .none)
  else if ts.length = 2 ∧ isS "load" w = true then (isIn (ts.getD 0 .none) && isIn (ts.getD 1 .none))
  else if isS "op" w = true then (decide (ts.length ≤ 3) && ts.all fun t => isTr j t)
  else false
theorem isTr_core (j : Nat) (w nm : PyData) (ts : List PyData) : isTr (j + 1) (.tuple (w :: nm :: ts)) = (isNm nm && core j w ts) := by
  rw [isTr_cons]
  unfold core
  split
  · rfl
  · split
    · rfl
    · split
      · rfl
      · rw [Bool.and_false]
theorem core_at (j : Nat) (ts : List PyData) : core j (.str "at") ts = (decide (ts.length = 1) && within 0 3 (ts.getD 0 .none)) := by
  unfold core
  by_cases c : ts.length = 1
  · rw [if_pos ⟨c, by decide⟩, decide_eq_true c]; rfl
  · rw [if_neg (fun z => c z.1), if_neg (fun z => absurd z.2 (by decide)), if_neg (by decide), decide_eq_false c]; rfl
theorem core_load (j : Nat) (ts : List PyData) : core j (.str "load") ts = (decide (ts.length = 2) && (isIn (ts.getD 0 .none) && isIn (ts.getD 1 .none))) := by
  unfold core
  rw [if_neg (fun z => absurd z.2 (by decide))]
  by_cases c : ts.length = 2
  · rw [if_pos ⟨c, by decide⟩, decide_eq_true c]; rfl
  · rw [if_neg (fun z => c z.1), if_neg (by decide), decide_eq_false c]; rfl
theorem core_op (j : Nat) (ts : List PyData) : core j (.str "op") ts = (decide (ts.length ≤ 3) && ts.all fun t => isTr j t) := by
  unfold core
  rw [if_neg (fun z => absurd z.2 (by decide)), if_neg (fun z => absurd z.2 (by decide)), if_pos (by decide)]
theorem core_no {j : Nat} {w : PyData} {ts : List PyData} (h1 : isS "at" w = false) (h2 : isS "load" w = false) (h3 : isS "op" w = false) : core j w ts = false := by
  unfold core
  rw [if_neg (fun z => by rw [h1] at z; cases z.2), if_neg (fun z => by rw [h2] at z; cases z.2), if_neg (by rw [h3]; decide)]
theorem all_empty {α : Type} (l : List α) (p : α → Bool) : l.all p = ((l.filter fun t => !p t).map id).isEmpty := by
  induction l with
  | nil => rfl
  | cons c l ih =>
    rw [List.all_cons, ih]
    cases e : p c with
    | true => rw [List.filter_cons_of_neg (by rw [e]; decide)]; rfl
    | false => rw [List.filter_cons_of_pos (by rw [e]; rfl)]; rfl
theorem showable_mem {ds : List PyData} (h : PyData.showableAll ds = true) : ∀ d ∈ ds, d.showable = true := by
  induction ds with
  | nil => intro d hd; cases hd
  | cons a t ih =>
    rw [PyData.showableAll, Bool.and_eq_true] at h
    intro d hd
    rcases List.mem_cons.mp hd with rfl | hd
    · exact h.1
    · exact ih h.2 d hd
theorem showable_all {ds : List PyData} (h : ∀ d ∈ ds, d.showable = true) : PyData.showableAll ds = true := by
  induction ds with
  | nil => rfl
  | cons a t ih =>
    rw [PyData.showableAll, Bool.and_eq_true]
    exact ⟨h a (List.mem_cons_self ..), ih fun d hd => h d (List.mem_cons_of_mem _ hd)⟩
end Tr
set_option maxHeartbeats 4000000
/-! Shapes, plain -/
namespace Tr
open PySem Lf
/-- the shape of a tree, of at most n levels -/
def isTs : Nat → PyData → Bool
  | 0, _ => false
  | n + 1, .tuple ds => match ds with
    | w :: r => if (isS "hole" w || isS "load" w) = true then r.isEmpty
      else if isS "op" w = true then (decide (1 ≤ r.length) && decide (r.length ≤ 4)) && (isNm (r.getD 0 .none) && (r.drop 1).all fun t => isTs n t) else false
    | [] => false
  | _ + 1, _ => false
theorem isTs_cons (n : Nat) (w : PyData) (r : List PyData) : isTs (n + 1) (.tuple (w :: r)) = (if (isS "hole" w || isS "load" w) = true then r.isEmpty
      else if isS "op" w = true then (decide (1 ≤ r.length) && decide (r.length ≤ 4)) && (isNm (r.getD 0 .none) && (r.drop 1).all fun t => isTs n t) else false) := by rw [isTs]
/-- what stands below -/
def bel : List PyData → List PyData
  | w :: r => if isS "store" w = true then r else if isS "op" w = true then r.drop 1 else []
  | [] => []
def wks : Nat → PyData → Bool
  | n + 1, .tuple ds => match ds with
    | w :: r => decide ((bel (w :: r)).length ≤ 4) && (bel (w :: r)).all fun t => wks n t
    | [] => false
  | _, _ => false
def wkg : Nat → PyData → Int
  | n + 1, .tuple ds => (if isS "hole" (ds.getD 0 .none) = true then 0 else 1) + ((bel ds).map fun t => wkg n t).sum
  | _, _ => 0
theorem ts_store {w : PyData} (h : (isS "hole" w || isS "load" w) = true ∨ isS "op" w = true) : isS "store" w = false := by
  rcases h with h | h
  · rcases Bool.or_eq_true_iff.mp h with h | h <;> (cases isS_eq h; decide)
  · cases isS_eq h; decide
theorem wks_ts : ∀ (n : Nat) (d : PyData), isTs n d = true → wks n d = true := by
  intro n
  induction n with
  | zero => intro d h; cases h
  | succ n ih =>
    intro d h
    cases d with
    | tuple ds =>
      cases ds with
      | nil => cases h
      | cons w r =>
        rw [isTs_cons] at h
        rw [wks]
        show (decide ((bel (w :: r)).length ≤ 4) && (bel (w :: r)).all fun t => wks n t) = true
        by_cases c : (isS "hole" w || isS "load" w) = true
        · have e : bel (w :: r) = [] := by
            unfold bel; dsimp only
            rw [ts_store (.inl c), if_neg (by decide)]
            rw [if_neg]
            intro z
            cases isS_eq z
            cases c
          rw [e]
          rfl
        · rw [if_neg c] at h
          by_cases c2 : isS "op" w = true
          · rw [if_pos c2] at h
            have e : bel (w :: r) = r.drop 1 := by
              unfold bel; dsimp only
              rw [ts_store (.inr c2), if_neg (by decide), if_pos c2]
            rw [e]
            simp only [Bool.and_eq_true, decide_eq_true_eq, List.all_eq_true] at h ⊢
            refine ⟨by rw [List.length_drop]; omega, fun t ht => ih t (h.2.2 t ht)⟩
          · rw [if_neg c2] at h
            cases h
    | _ => cases h
theorem wks_cons {n : Nat} {w : PyData} {r : List PyData} (h : wks (n + 1) (.tuple (w :: r)) = true) : (bel (w :: r)).length ≤ 4 ∧ ∀ t ∈ bel (w :: r), wks n t = true := by
  rw [wks] at h
  simp only [Bool.and_eq_true, decide_eq_true_eq, List.all_eq_true] at h
  exact h
theorem wks_tup {n : Nat} {d : PyData} (h : wks n d = true) : ∃ w r, d = .tuple (w :: r) := by
  cases n with
  | zero => cases h
  | succ n =>
    cases d with
    | tuple ds =>
      cases ds with
      | nil => cases h
      | cons w r => exact ⟨w, r, rfl⟩
    | _ => cases h
/-- a shape -/
def isSh : PyData → Bool
  | .tuple ds => if ds.length = 2 ∧ isS "store" (ds.getD 0 .none) = true then isTs 4 (ds.getD 1 .none) && decide (wkg 5 (.tuple ds) ≤ 4) else isTs 5 (.tuple ds) && decide (wkg 5 (.tuple ds) ≤ 4)
  | _ => false
end Tr
set_option maxHeartbeats 4000000
/-! l == [], l != [] of a list of anything; ** of a great int; chains of texts; t * n -/
namespace L2
open PySem PySem.Spec PyProof.Rows Lf
section
variable {X : Cx}
def rEqEL (K : PySem.W.Frag) : R2 := fun x y H Q => ∃ a b xs, x = .ref a ∧ y = .ref b ∧ SqL K H a xs ∧ SqL K H b [] ∧ Q (.bl (xs.isEmpty)) H
def rNeEL (K : PySem.W.Frag) : R2 := fun x y H Q => ∃ a b xs, x = .ref a ∧ y = .ref b ∧ SqL K H a xs ∧ SqL K H b [] ∧ Q (.bl (!xs.isEmpty)) H
theorem op_eqEL (hu : X.A.units < cLine) : OpR X (compareOp .Eq) (rEqEL X.K) := by
  intro pins s σ H x y v u Q I rx ry h
  obtain ⟨a, b, xs, rfl, rfl, ha, hb, q⟩ := h
  cases rx
  cases ry
  obtain ⟨its, rv, pl, _⟩ := I.list ha
  obtain ⟨its2, rv2, pl2, _⟩ := I.list hb
  cases rv2
  cases rv with
  | nil => exact SeqAt.RcAt.lists (e := fun _ => true) pl.isList pl2.isList rfl hu (fun j h1 h2 => absurd h2 (by simp)) X.prog X.w _ _ ⟨.bl true, H, I, rfl, q⟩
  | cons r rr => exact SeqAt.RcAt.lists_lengths pl.isList pl2.isList (by simp) hu X.prog X.w _ _ ⟨.bl false, H, I, rfl, q⟩
theorem op_neEL (hu : X.A.units < cLine) : OpR X (compareOp .NotEq) (rNeEL X.K) := by
  intro pins s σ H x y v u Q I rx ry h
  obtain ⟨a, b, xs, rfl, rfl, ha, hb, q⟩ := h
  cases rx
  cases ry
  obtain ⟨its, rv, pl, _⟩ := I.list ha
  obtain ⟨its2, rv2, pl2, _⟩ := I.list hb
  cases rv2
  cases rv with
  | nil => exact SeqAt.RcNeAt.lists (e := fun _ => true) pl.isList pl2.isList rfl hu (fun j h1 h2 => absurd h2 (by simp)) X.prog X.w _ _ ⟨.bl false, H, I, rfl, q⟩
  | cons r rr => exact SeqAt.RcNeAt.lists_lengths pl.isList pl2.isList (by simp) hu X.prog X.w _ _ ⟨.bl true, H, I, rfl, q⟩
def CPowX (i j : Int) : Prop := 0 ≤ j ∧ (Builtin.Int.intBits i : Int) * j ≤ 2 ^ 27
theorem op_powX : OpR X (binaryOp .Pow) (rI CPowX fun i j => .int (i ^ j.toNat)) := opI fun _ _ _ _ _ _ _ hc q => PyProof.Rows.pow_int hc.1 hc.2 q
def rLeS : R2 := fun x y H Q => ∃ i j : Str, x = .str i ∧ y = .str j ∧ Q (.bl (!decide (j.cps.toList < i.cps.toList))) H
theorem op_leS : OpR X (compareOp .LtE) rLeS := op_le_str
end
end L2
namespace Lf
open PySem L2 Evl
section
variable {K : PySem.W.Frag} {σ : L2.St} {G : Hp} {ta tb tc te : TE} {ds : List PyData} {d : PyData}
theorem ev_eqEL (ha : EvD ta σ G (.list ds)) : Ev (tOp (rEqEL K) ta (tLst tNil)) σ G (.bl ds.isEmpty) := fun H1 x Q q => ha G H1 (Ex.refl _) x _ fun v G2 H2 r hd => ⟨by decide, fun p hp => by
  obtain ⟨a, xs, rfl, e, hs⟩ := hd.lst_
  have x3 : Ex H2 (upd H2 p (.lst [])) := Ex.new hp
  refine ⟨a, p, xs, rfl, rfl, SqL.of (x3 _ _ (r.s _ _ e)), SqL.of upd_same, ?_⟩
  have : xs.isEmpty = ds.isEmpty := by cases hs <;> rfl
  rw [this]
  exact q _ (r.h.trans x3)⟩
theorem ev_neEL (ha : EvD ta σ G (.list ds)) : Ev (tOp (rNeEL K) ta (tLst tNil)) σ G (.bl (!ds.isEmpty)) := fun H1 x Q q => ha G H1 (Ex.refl _) x _ fun v G2 H2 r hd => ⟨by decide, fun p hp => by
  obtain ⟨a, xs, rfl, e, hs⟩ := hd.lst_
  have x3 : Ex H2 (upd H2 p (.lst [])) := Ex.new hp
  refine ⟨a, p, xs, rfl, rfl, SqL.of (x3 _ _ (r.s _ _ e)), SqL.of upd_same, ?_⟩
  have : xs.isEmpty = ds.isEmpty := by cases hs <;> rfl
  rw [this]
  exact q _ (r.h.trans x3)⟩
/-- a <= b <= c of texts -/
theorem ev_chainS {a b c : Str} (ha : Ev ta σ G (.str a)) (hb : Ev tb σ G (.str b)) (hc : Ev tc σ G (.str c)) : Ev (tChain rLeS rLeS ta tb tc) σ G (.bl (!decide (b.cps.toList < a.cps.toList) && !decide (c.cps.toList < b.cps.toList))) := fun H1 x Q q =>
  ha H1 x _ fun H2 x2 => hb H2 (x.trans x2) _ fun H3 x3 => ⟨a, b, rfl, rfl, _, rfl, by
    have q3 : ∀ H4, Ex H3 H4 → Q (.bl (!decide (b.cps.toList < a.cps.toList) && !decide (c.cps.toList < b.cps.toList))) H4 := fun H4 x4 => q H4 ((x2.trans x3).trans x4)
    generalize (!decide (b.cps.toList < a.cps.toList)) = fb at *
    cases fb with
    | false => rw [if_neg Bool.false_ne_true]; exact q3 H3 (Ex.refl _)
    | true => rw [if_pos rfl]; exact hc H3 ((x.trans x2).trans x3) _ fun H4 x4 => ⟨b, c, rfl, rfl, q3 H4 x4⟩⟩
/-- a + b, a * n of lists; t * n -/
theorem evd_catL {es : List PyData} (ha : EvD ta σ G (.list ds)) (hb : EvD tb σ G (.list es)) (hl : ds.length + es.length ≤ 100000) : EvD (tOp rCat ta tb) σ G (.list (ds ++ es)) := fun G1 H1 x s Q q =>
  ha G1 H1 x s _ fun v G2 H2 r hd => hb G2 H2 (x.trans r.g) r.s _ fun w G3 H3 r2 he => by
    obtain ⟨a, xs, rfl, e1, h1⟩ := (hd.up r2.g).lst_
    obtain ⟨b, ys, rfl, e2, h2⟩ := he.lst_
    have r3 := r.trans r2
    refine ⟨a, b, xs, ys, rfl, rfl, r3.s _ _ e1, r3.s _ _ e2, by rw [h1.len, h2.len]; exact sz_of hl, fun p hp => ?_⟩
    have n := Gr.new (o := .lst (xs ++ ys)) r3.s hp rfl
    exact q (.ref p) _ _ (r3.trans n) (.lst upd_same ((h1.app h2).up n.g))
theorem DaAll.rep {H : Hp} {vs : List V} (h : DaAll H vs ds) : ∀ n : Nat, DaAll H (List.replicate n vs).flatten (List.replicate n ds).flatten
  | 0 => .nil
  | n + 1 => by
    rw [List.replicate_succ, List.replicate_succ, List.flatten_cons, List.flatten_cons]
    exact h.app (DaAll.rep h n)
theorem evd_repL {n : Int} (ha : EvD ta σ G (.list ds)) (hb : Ev tb σ G (.int n)) (h0 : 0 ≤ n) (h1 : n ≤ 1000) (hl : ds.length ≤ 100) : EvD (tOp rRep ta tb) σ G (.list (List.replicate n.toNat ds).flatten) := fun G1 H1 x s Q q =>
  ha G1 H1 x s _ fun v G2 H2 r hd => hb H2 ((x.trans r.g).trans r.s) _ fun H3 x3 => by
    obtain ⟨a, xs, rfl, e1, h2⟩ := hd.lst_
    have r3 := r.trans (Gr.keep r.s x3)
    refine ⟨a, n, xs, rfl, rfl, r3.s _ _ e1, by omega, by omega, ?_, fun p hp => ?_⟩
    · rw [h2.len]
      exact Nat.le_trans (Nat.mul_le_mul hl (show n.toNat ≤ 1000 by omega)) (by decide)
    · have m := Gr.new (o := .lst (List.replicate n.toNat xs).flatten) r3.s hp rfl
      exact q (.ref p) _ _ (r3.trans m) (.lst upd_same ((h2.rep _).up m.g))
theorem evd_repT {n : Int} (ha : EvD ta σ G (.tuple ds)) (hb : Ev tb σ G (.int n)) (h0 : 2 ≤ n) (h1 : n ≤ 1000) (hl : ds.length ≤ 1000) (hn : ds ≠ []) : EvD (tOp (rRepT K) ta tb) σ G (.tuple (List.replicate n.toNat ds).flatten) := fun G1 H1 x s Q q =>
  ha G1 H1 x s _ fun v G2 H2 r hd => hb H2 ((x.trans r.g).trans r.s) _ fun H3 x3 => by
    obtain ⟨a, xs, rfl, e1, h2⟩ := hd.tup_
    have r3 := r.trans (Gr.keep r.s x3)
    refine ⟨a, n, xs, rfl, rfl, SqT.of (r3.s _ _ e1), fun z => ?_, h0, h1, by rw [h2.len]; exact hl, fun p hp => ?_⟩
    · subst z
      cases h2
      exact hn rfl
    · have m := Gr.new (o := .tup (List.replicate n.toNat xs).flatten) r3.s hp rfl
      exact q (.ref p) _ _ (r3.trans m) (.tup upd_same ((h2.rep _).up m.g))
end
end Lf
set_option maxHeartbeats 4000000
/-! What is drawn: an expression that turns the wheel at L (a list that the view does not know) and evaluates to some data of which P holds -/
namespace Lf
open PySem L2 Evl
def ExB (L : Addr) (H H' : Hp) : Prop := ∀ a o, a ≠ L → H a = some o → H' a = some o
section
variable {Lm : List V → Prop} {L : Addr} {G H G1 H1 G2 H2 : Hp}
theorem ExB.refl : ExB L H H := fun _ _ _ h => h
theorem ExB.trans (a : ExB L H H1) (b : ExB L H1 H2) : ExB L H H2 := fun x o n h => b x o n (a x o n h)
theorem ExB.of (x : Ex H H1) : ExB L H H1 := fun a o _ h => x a o h
end
/-- the wheel at L, behind the view -/
structure At (Lm : List V → Prop) (L : Addr) (G H : Hp) : Prop where
  s : Ex G H
  f : G L = none
  l : ∃ xs, H L = some (.lst xs) ∧ Lm xs
structure GrB (Lm : List V → Prop) (L : Addr) (G H G' H' : Hp) : Prop where
  h : ExB L H H'
  g : Ex G G'
  n : ∀ a, H a ≠ none → G a = none → G' a = none
  t : ∀ a o, G' a = some o → G a = some o ∨ dataO o = true
  w : At Lm L G' H'
section
variable {Lm : List V → Prop} {L : Addr} {G H G1 H1 G2 H2 : Hp}
theorem At.up (w : At Lm L G H) (x : Ex H H1) : At Lm L G H1 := ⟨w.s.trans x, w.f, let ⟨xs, h, m⟩ := w.l; ⟨xs, x _ _ h, m⟩⟩
theorem At.some_ (w : At Lm L G H) : H L ≠ none := by
  obtain ⟨xs, h, _⟩ := w.l
  rw [h]
  exact fun z => by cases z
theorem GrB.of (w : At Lm L G H) (r : Gr G H G1 H1) : GrB Lm L G H G1 H1 := ⟨ExB.of r.h, r.g, r.n, r.t, r.s, r.n L w.some_ w.f, let ⟨xs, h, m⟩ := w.l; ⟨xs, r.h _ _ h, m⟩⟩
theorem GrB.refl (w : At Lm L G H) : GrB Lm L G H G H := GrB.of w (Gr.refl w.s)
theorem GrB.keep (w : At Lm L G H) (x : Ex H H1) : GrB Lm L G H G H1 := GrB.of w (Gr.keep w.s x)
theorem GrB.s (r : GrB Lm L G H G1 H1) : Ex G1 H1 := r.w.s
theorem GrB.trans (a : GrB Lm L G H G1 H1) (b : GrB Lm L G1 H1 G2 H2) : GrB Lm L G H G2 H2 := by
  refine ⟨a.h.trans b.h, a.g.trans b.g, fun c h1 h2 => b.n c (fun z => ?_) (a.n c h1 h2), fun c o h => ?_, b.w⟩
  · by_cases e : c = L
    · subst e
      exact a.w.some_ z
    · cases e2 : H c with
      | none => exact h1 e2
      | some o => rw [a.h _ _ e e2] at z; cases z
  · rcases b.t c o h with h | h
    · exact a.t c o h
    · exact .inr h
theorem GrB.gr (a : GrB Lm L G H G1 H1) (b : Gr G1 H1 G2 H2) : GrB Lm L G H G2 H2 := a.trans (GrB.of a.w b)
/-- the wheel turns -/
theorem GrB.turn (w : At Lm L G H) {xs : List V} (m : Lm xs) : GrB Lm L G H G (upd H L (.lst xs)) := by
  refine ⟨fun a o n h => by rw [upd_ne n]; exact h, Ex.refl _, fun _ _ h => h, fun _ _ h => .inl h, Ex.mut w.s w.f, w.f, xs, upd_same, m⟩
/-- an object that the view does not know may change -/
theorem GrB.mut {p : Addr} {o : HO} (r : GrB Lm L G H G1 H1) (hp : G p = none) (hh : H p ≠ none) (ne : p ≠ L) : At Lm L G1 (upd H1 p o) := by
  refine ⟨fun a u h => ?_, r.w.f, ?_⟩
  · rw [upd_ne (fun e => by rw [e, r.n p hh hp] at h; cases h)]
    exact r.s _ _ h
  · obtain ⟨xs, h, m⟩ := r.w.l
    exact ⟨xs, by rw [upd_ne (Ne.symm ne)]; exact h, m⟩
end
def Dr (Lm : List V → Prop) (L : Addr) (te : TE) (σ : L2.St) (G : Hp) (P : PyData → Prop) : Prop := ∀ G1 H1, Ex G G1 → At Lm L G1 H1 → ∀ Q : VK, (∀ v d G2 H2, GrB Lm L G1 H1 G2 H2 → P d → Da G2 v d → Q v H2) → te σ H1 Q
def DrS (Lm : List V → Prop) (L : Addr) (ta : TA) (σ : L2.St) (G : Hp) (R : List PyData → Prop) : Prop := ∀ G1 H1, Ex G G1 → At Lm L G1 H1 → ∀ Q : List V → Hp → Prop, (∀ vs ds G2 H2, GrB Lm L G1 H1 G2 H2 → R ds → DaAll G2 vs ds → Q vs H2) → ta σ H1 Q
/-- a test that comes out one way or the other -/
def DrT (Lm : List V → Prop) (L : Addr) (t : TT) (σ : L2.St) (G : Hp) (B : Bool → Prop) : Prop := ∀ G1 H1, Ex G G1 → At Lm L G1 H1 → ∀ Q : Bool → Hp → Prop, (∀ b G2 H2, GrB Lm L G1 H1 G2 H2 → B b → Q b H2) → t σ H1 Q
def isI (P : Int → Prop) (d : PyData) : Prop := ∃ i, d = .int i ∧ P i
def isB (P : Bool → Prop) (d : PyData) : Prop := ∃ i, d = .bool i ∧ P i
section
variable {K : PySem.W.Frag} {Lm : List V → Prop} {L : Addr} {σ : L2.St} {G G' H : Hp} {ta tb te tl : TE} {t u : TT} {tA tr : TA} {d e : PyData} {ds es : List PyData} {v : V} {P P' : PyData → Prop} {R R' : List PyData → Prop} {B : Bool → Prop}
theorem Dr.mono (x : Ex G G') (h : Dr Lm L te σ G P) : Dr Lm L te σ G' P := fun G1 H1 a w Q q => h G1 H1 (x.trans a) w Q q
theorem Dr.imp (h : Dr Lm L te σ G P) (i : ∀ d, P d → P' d) : Dr Lm L te σ G P' := fun G1 H1 a w Q q => h G1 H1 a w Q fun v d G2 H2 r p hd => q v d G2 H2 r (i d p) hd
theorem DrS.imp (h : DrS Lm L tA σ G R) (i : ∀ d, R d → R' d) : DrS Lm L tA σ G R' := fun G1 H1 a w Q q => h G1 H1 a w Q fun v d G2 H2 r p hd => q v d G2 H2 r (i d p) hd
theorem Dr.go (h : Dr Lm L te σ G P) (w : At Lm L G H) {Q : VK} (k : ∀ v d G2 H2, GrB Lm L G H G2 H2 → P d → Da G2 v d → Q v H2) : te σ H Q := h G H (Ex.refl _) w Q k
theorem dr_of (h : EvD te σ G d) : Dr Lm L te σ G (fun z => z = d) := fun G1 H1 a w Q q => h G1 H1 a w.s Q fun v G2 H2 r hd => q v d G2 H2 (GrB.of w r) rfl hd
theorem dr_int {i : Int} (h : Ev te σ G (.int i)) : Dr Lm L te σ G (isI fun z => z = i) := (dr_of (evd_int h)).imp fun d e => ⟨i, e, rfl⟩
theorem drs_of (h : EvDs tA σ G ds) : DrS Lm L tA σ G (fun z => z = ds) := fun G1 H1 a w Q q => h G1 H1 a w.s Q fun v G2 H2 r hd => q v ds G2 H2 (GrB.of w r) rfl hd
theorem drs_nil : DrS Lm L tNil σ G (fun ds => ds = []) := fun G1 H1 _ w Q q => q [] [] G1 H1 (GrB.refl w) rfl .nil
theorem drs_cons (h : Dr Lm L te σ G P) (hr : DrS Lm L tr σ G R) : DrS Lm L (tCons te tr) σ G (fun ds => ∃ d r, ds = d :: r ∧ P d ∧ R r) := fun G1 H1 x w Q q => h G1 H1 x w _ fun v d G2 H2 r p hd => hr G2 H2 (x.trans r.g) r.w _ fun vs ds G3 H3 r2 p2 hds => q (v :: vs) (d :: ds) G3 H3 (r.trans r2) ⟨d, ds, rfl, p, p2⟩ (.cons (hd.up r2.g) hds)
theorem dr_tup (h : DrS Lm L tA σ G R) (hl : ∀ ds, R ds → ds.length ≤ 100000) : Dr Lm L (tTup tA) σ G (fun d => ∃ ds, d = .tuple ds ∧ R ds) := fun G1 H1 x w Q q => h G1 H1 x w _ fun vs ds G2 H2 r p hds =>
  ⟨by rw [hds.len]; exact sz_of (hl _ p), fun a ha => have n := Gr.new (o := .tup vs) r.s ha rfl; q (.ref a) _ _ _ (r.gr n) ⟨ds, rfl, p⟩ (.tup upd_same (hds.up n.g))⟩
theorem dr_lst (h : DrS Lm L tA σ G R) (hl : ∀ ds, R ds → ds.length ≤ 100000) : Dr Lm L (tLst tA) σ G (fun d => ∃ ds, d = .list ds ∧ R ds) := fun G1 H1 x w Q q => h G1 H1 x w _ fun vs ds G2 H2 r p hds =>
  ⟨by rw [hds.len]; exact sz_of (hl _ p), fun a ha => have n := Gr.new (o := .lst vs) r.s ha rfl; q (.ref a) _ _ _ (r.gr n) ⟨ds, rfl, p⟩ (.lst upd_same (hds.up n.g))⟩
/-- l[i], i drawn -/
theorem dr_ixL (ha : Dr Lm L ta σ G (fun z => z = .list ds)) {B : Int → Prop} (hb : Dr Lm L tb σ G (isI B)) (hi : ∀ i, B i → 0 ≤ i ∧ i < ds.length) : Dr Lm L (tOp (rIxL K) ta tb) σ G (fun d => d ∈ ds) := fun G1 H1 x w Q q => ha G1 H1 x w _ fun v d G2 H2 r e hd => hb G2 H2 (x.trans r.g) r.w _ fun v2 d2 G3 H3 r3 ⟨i, ei, hB⟩ hd2 => by
  subst e
  subst ei
  obtain ⟨a, xs, rfl, e, hs⟩ := (hd.up r3.g).lst_
  cases hd2.int_
  obtain ⟨h0, h1⟩ := hi i hB
  have hn : i = ((i.toNat : Nat) : Int) := by omega
  have hd3 : ds[i.toNat]? = some ds[i.toNat] := List.getElem?_eq_getElem (by omega)
  obtain ⟨w3, hw, hdw⟩ := hs.get hd3
  refine ⟨a, xs, i, w3, rfl, rfl, SqL.of (r3.s _ _ e), ?_, q w3 _ G3 H3 (r.trans r3) (List.mem_of_getElem? hd3) hdw⟩
  rw [hn]
  exact atI_nat hw
/-- a one-place operation on ints, a two-place one -/
theorem dr_opI {f : Int → Int → Int} {A B : Int → Prop} (ha : Dr Lm L ta σ G (isI A)) (hb : Dr Lm L tb σ G (isI B)) : Dr Lm L (tOp (rI0 fun i j => .int (f i j)) ta tb) σ G (isI fun k => ∃ i j, A i ∧ B j ∧ k = f i j) := fun G1 H1 x w Q q => ha G1 H1 x w _ fun v d G2 H2 r ⟨i, ei, hA⟩ hd => hb G2 H2 (x.trans r.g) r.w _ fun v2 d2 G3 H3 r3 ⟨j, ej, hB⟩ hd2 => by
  subst ei
  subst ej
  cases hd.int_
  cases hd2.int_
  exact ⟨i, j, rfl, rfl, q _ _ G3 H3 (r.trans r3) ⟨_, rfl, i, j, hA, hB, rfl⟩ (.int _)⟩
theorem dr_opC {C : Int → Int → Prop} {f : Int → Int → Int} {A B : Int → Prop} (ha : Dr Lm L ta σ G (isI A)) (hb : Dr Lm L tb σ G (isI B)) (hc : ∀ i j, A i → B j → C i j) : Dr Lm L (tOp (rI C fun i j => .int (f i j)) ta tb) σ G (isI fun k => ∃ i j, A i ∧ B j ∧ k = f i j) := fun G1 H1 x w Q q => ha G1 H1 x w _ fun v d G2 H2 r ⟨i, ei, hA⟩ hd => hb G2 H2 (x.trans r.g) r.w _ fun v2 d2 G3 H3 r3 ⟨j, ej, hB⟩ hd2 => by
  subst ei
  subst ej
  cases hd.int_
  cases hd2.int_
  exact ⟨i, j, rfl, rfl, hc i j hA hB, q _ _ G3 H3 (r.trans r3) ⟨_, rfl, i, j, hA, hB, rfl⟩ (.int _)⟩
theorem dr_cmpI {f : Int → Int → Bool} {A B : Int → Prop} (ha : Dr Lm L ta σ G (isI A)) (hb : Dr Lm L tb σ G (isI B)) : Dr Lm L (tOp (rI0 fun i j => .bl (f i j)) ta tb) σ G (isB fun k => ∃ i j, A i ∧ B j ∧ k = f i j) := fun G1 H1 x w Q q => ha G1 H1 x w _ fun v d G2 H2 r ⟨i, ei, hA⟩ hd => hb G2 H2 (x.trans r.g) r.w _ fun v2 d2 G3 H3 r3 ⟨j, ej, hB⟩ hd2 => by
  subst ei
  subst ej
  cases hd.int_
  cases hd2.int_
  exact ⟨i, j, rfl, rfl, q _ _ G3 H3 (r.trans r3) ⟨_, rfl, i, j, hA, hB, rfl⟩ (.bl _)⟩
theorem dr_eqI {A B : Int → Prop} (ha : Dr Lm L ta σ G (isI A)) (hb : Dr Lm L tb σ G (isI B)) : Dr Lm L (tOp rEq ta tb) σ G (isB fun k => ∃ i j, A i ∧ B j ∧ k = decide (i = j)) := fun G1 H1 x w Q q => ha G1 H1 x w _ fun v d G2 H2 r ⟨i, ei, hA⟩ hd => hb G2 H2 (x.trans r.g) r.w _ fun v2 d2 G3 H3 r3 ⟨j, ej, hB⟩ hd2 => by
  subst ei
  subst ej
  cases hd.int_
  cases hd2.int_
  refine ⟨rfl, q _ (.bool (decide (i = j))) G3 H3 (r.trans r3) ⟨_, rfl, i, j, hA, hB, rfl⟩ ?_⟩
  have : decide (V.int i = V.int j) = decide (i = j) := by rw [decide_eq_decide]; simp
  rw [this]
  exact .bl _
theorem drt_test (h : Dr Lm L te σ G (isB B)) : DrT Lm L (tTest te) σ G B := fun G1 H1 x w Q q => h G1 H1 x w _ fun v d G2 H2 r ⟨b, e, hb⟩ hd => by
  subst e
  cases hd.bl_
  exact ⟨b, rfl, q b G2 H2 r hb⟩
theorem drt_of {b : Bool} (h : EvT t σ G b) : DrT Lm L t σ G (fun z => z = b) := fun G1 H1 x w Q q => h H1 (x.trans w.s) _ fun H2 x2 => q b G1 H2 (GrB.keep w x2) rfl
theorem DrT.imp {B' : Bool → Prop} (h : DrT Lm L t σ G B) (i : ∀ b, B b → B' b) : DrT Lm L t σ G B' := fun G1 H1 x w Q q => h G1 H1 x w Q fun b G2 H2 r hb => q b G2 H2 r (i b hb)
theorem drt_and {B' : Bool → Prop} (h : DrT Lm L t σ G B) (h2 : B true → DrT Lm L u σ G B') : DrT Lm L (tAnd t u) σ G (fun z => (z = true ∧ B true ∧ B' true) ∨ (z = false ∧ (B false ∨ (B true ∧ B' false)))) := fun G1 H1 x w Q q => h G1 H1 x w _ fun b G2 H2 r hb => by
  cases b with
  | false => exact q false G2 H2 r (.inr ⟨rfl, .inl hb⟩)
  | true =>
    show u σ H2 Q
    refine h2 hb G2 H2 (x.trans r.g) r.w _ fun c G3 H3 r3 hc => ?_
    cases c with
    | true => exact q true G3 H3 (r.trans r3) (.inl ⟨rfl, hb, hc⟩)
    | false => exact q false G3 H3 (r.trans r3) (.inr ⟨rfl, .inr ⟨hb, hc⟩⟩)
theorem drt_or {B' : Bool → Prop} (h : DrT Lm L t σ G B) (h2 : B false → DrT Lm L u σ G B') : DrT Lm L (tOr t u) σ G (fun z => (z = false ∧ B false ∧ B' false) ∨ (z = true ∧ (B true ∨ (B false ∧ B' true)))) := fun G1 H1 x w Q q => h G1 H1 x w _ fun b G2 H2 r hb => by
  cases b with
  | true => exact q true G2 H2 r (.inr ⟨rfl, .inl hb⟩)
  | false =>
    show u σ H2 Q
    refine h2 hb G2 H2 (x.trans r.g) r.w _ fun c G3 H3 r3 hc => ?_
    cases c with
    | false => exact q false G3 H3 (r.trans r3) (.inl ⟨rfl, hb, hc⟩)
    | true => exact q true G3 H3 (r.trans r3) (.inr ⟨rfl, .inr ⟨hb, hc⟩⟩)
theorem drt_not (h : DrT Lm L t σ G B) : DrT Lm L (tNot t) σ G (fun z => B (!z)) := fun G1 H1 x w Q q => h G1 H1 x w _ fun b G2 H2 r hb => q (!b) G2 H2 r (show B (!!b) by rw [Bool.not_not]; exact hb)
theorem dr_if (h : DrT Lm L t σ G B) (h1 : B true → Dr Lm L ta σ G P) (h2 : B false → Dr Lm L tb σ G P) : Dr Lm L (tIf t ta tb) σ G P := fun G1 H1 x w Q q => h G1 H1 x w _ fun b G2 H2 r hb => by
  cases b with
  | true =>
    show ta σ H2 Q
    exact h1 hb G2 H2 (x.trans r.g) r.w Q fun v d G3 H3 r3 p hd => q v d G3 H3 (r.trans r3) p hd
  | false =>
    show tb σ H2 Q
    exact h2 hb G2 H2 (x.trans r.g) r.w Q fun v d G3 H3 r3 p hd => q v d G3 H3 (r.trans r3) p hd
/-- a + b of tuples, tuple(l), list(t) -/
theorem dr_cat (ha : Dr Lm L ta σ G (fun d => ∃ ds, d = .tuple ds ∧ R ds)) (hb : Dr Lm L tb σ G (fun d => ∃ ds, d = .tuple ds ∧ R' ds)) (hl : ∀ ds es, R ds → R' es → ds.length + es.length ≤ 100000) : Dr Lm L (tOp (rCatA K) ta tb) σ G (fun d => ∃ ds es, d = .tuple (ds ++ es) ∧ R ds ∧ R' es) := fun G1 H1 x w Q q =>
  ha G1 H1 x w _ fun v d G2 H2 r ⟨ds, e1, p1⟩ hd => hb G2 H2 (x.trans r.g) r.w _ fun w' d' G3 H3 r2 ⟨es, e2, p2⟩ he => by
    subst e1
    subst e2
    obtain ⟨a, xs, rfl, e1, h1⟩ := (hd.up r2.g).tup_
    obtain ⟨b, ys, rfl, e2, h2⟩ := he.tup_
    have r3 := r.trans r2
    refine ⟨a, b, xs, ys, rfl, rfl, SqT.of (r3.s _ _ e1), SqT.of (r3.s _ _ e2), by rw [h1.len, h2.len]; exact sz_of (hl _ _ p1 p2), fun z => ?_, fun _ z => ?_, fun _ _ p hp => ?_⟩
    · subst z
      cases h1
      exact q _ _ G3 H3 r3 ⟨[], es, rfl, p1, p2⟩ he
    · subst z
      cases h2
      refine q _ _ G3 H3 r3 ⟨ds, [], rfl, p1, p2⟩ ?_
      rw [List.append_nil]
      exact hd.up r2.g
    · have n := Gr.new (o := .tup (xs ++ ys)) r3.s hp rfl
      exact q (.ref p) _ _ _ (r3.gr n) ⟨ds, es, rfl, p1, p2⟩ (.tup upd_same ((h1.app h2).up n.g))
/-- a call of a def that draws -/
def spDr (Lm : List V → Prop) (Pre : List PyData → Prop) (Post : List PyData → PyData → Prop) : Sp := fun vs H Q _ => ∃ L G us ds, vs = .ref L :: us ∧ At Lm L G H ∧ DaAll G us ds ∧ Pre ds ∧ ∀ v d G' H', GrB Lm L G H G' H' → Post ds d → Da G' v d → Q v H'
theorem spDr_len {Pre : List PyData → Prop} {Post : List PyData → PyData → Prop} {n : Nat} (hp : ∀ ds, Pre ds → ds.length = n) {vs : List V} {Q : VK} {E : XK} (h : spDr Lm Pre Post vs H Q E) : vs.length = n + 1 := by
  obtain ⟨L, G, us, ds, rfl, _, h2, h3, _⟩ := h
  rw [List.length_cons, h2.len, hp ds h3]
theorem dr_call {Pre : List PyData → Prop} {Post : List PyData → PyData → Prop} {i : Nat} {E : XK} (hL : σ[i]? = some (some (.ref L))) (h : DrS Lm L tA σ G R) (hp : ∀ ds, R ds → Pre ds) : Dr Lm L (tCallD (spDr Lm Pre Post) E (tCons (tVar i) tA)) σ G (fun d => ∃ ds, R ds ∧ Post ds d) := fun G1 H1 x w Q q =>
  ⟨_, hL, h G1 H1 x w _ fun vs ds G2 H2 r p hds => ⟨L, G2, vs, ds, rfl, r.w, hds, hp ds p, fun v d G3 H3 r3 po hd => q v d G3 H3 (r.trans r3) ⟨ds, p, po⟩ hd⟩⟩
/-- [e for x in range(n)], e drawn -/
theorem dr_lcR {j : Nat} {vs : List Nat} {ta : TA} {n : Int} (h : DrS Lm L ta σ G (fun ds => ds = [.int n])) (hn : 0 ≤ n ∧ n ≤ 10000) (hw : ∀ x, wipe ((wipe σ vs).set j (some x)) vs = wipe σ vs)
    (he : ∀ (i : Nat) G1, Ex G G1 → Dr Lm L te ((wipe σ vs).set j (some (.int (0 + (i : Int))))) G1 P) : Dr Lm L (tLc (iRng1 ta) (gName j) tYes te vs) σ G (fun d => ∃ ds, d = .list ds ∧ (ds.length : Int) = n ∧ ∀ d ∈ ds, P d) := fun G1 H1 x w Q q => h G1 H1 x w _ fun us ds G2 H2 r e hds => by
  subst e
  cases hds with
  | cons h0 t =>
    cases t
    cases h0.int_
    refine ⟨n, rfl, by omega, by omega, fun D hD => ?_⟩
    have gD : G2 D = none := by
      cases e : G2 D with
      | none => rfl
      | some o => rw [r.s _ _ e] at hD; cases hD
    have ne : D ≠ L := fun e => r.w.some_ (by rw [← e]; exact hD)
    refine lc_range (lo := 0) (n := n.toNat) (fun i H' => ∃ G' ys ds, GrB Lm L G2 H2 G' H' ∧ G' D = none ∧ H' D = some (.lst ys) ∧ DaAll G' ys ds ∧ ds.length = i ∧ ∀ d ∈ ds, P d) ⟨G2, [], [], GrB.keep r.w (Ex.new hD), gD, upd_same, .nil, rfl, fun d h => by cases h⟩ ?_ ?_
    · rintro i H' hi ⟨G', ys, ds, r3, e3, e4, h3, hl, hP⟩
      refine ⟨hw _, ?_⟩
      refine he i G' ((x.trans r.g).trans r3.g) G' H' (Ex.refl _) r3.w _ fun v d G4 H4 r4 p hd => ⟨ys, r4.h _ _ ne e4, ?_, ?_⟩
      · rw [h3.len, hl]
        exact Nat.lt_of_lt_of_le (by omega : i < 100000) (by decide)
      · have nD : G4 D = none := r4.n D (by rw [e4]; exact fun z => by cases z) e3
        have r5 := r3.trans r4
        refine ⟨G4, ys ++ [v], ds ++ [d], ⟨fun a o na ha => ?_, r5.g, r5.n, r5.t, Ex.mut r5.s nD, r5.w.f, ?_⟩, nD, upd_same, (h3.up r4.g).app (.cons hd .nil), by rw [List.length_append, hl]; rfl, fun z hz => ?_⟩
        · rw [upd_ne (fun e => by rw [e, hD] at ha; cases ha)]
          exact r5.h _ _ na ha
        · obtain ⟨xs, h, m⟩ := r5.w.l
          exact ⟨xs, by rw [upd_ne (Ne.symm ne)]; exact h, m⟩
        · rcases List.mem_append.mp hz with hz | hz
          · exact hP z hz
          · cases List.mem_singleton.mp hz
            exact p
    · rintro H' ⟨G', ys, ds, r3, e3, e4, h3, hl, hP⟩
      have xx : Ex G' (upd G' D (.lst ys)) := Ex.new e3
      refine q (.ref D) (.list ds) (upd G' D (.lst ys)) H' (r.trans ⟨r3.h, r3.g.trans xx, fun a e1 e2 => ?_, fun a o h => ?_, fun a o h => ?_, ?_, r3.w.l⟩) ⟨ds, rfl, by rw [hl]; omega, hP⟩ (.lst upd_same (h3.up xx))
      · rw [upd_ne (fun e => e1 (by rw [e]; exact hD))]
        exact r3.n a e1 e2
      · by_cases e : a = D
        · subst e
          rw [upd_same] at h
          cases h
          exact .inr rfl
        · rw [upd_ne e] at h
          exact r3.t a o h
      · by_cases e : a = D
        · subst e
          rw [upd_same] at h
          cases h
          exact e4
        · rw [upd_ne e] at h
          exact r3.s _ _ h
      · rw [upd_ne (Ne.symm ne)]
        exact r3.w.f
/-! ### statements -/
variable {D : Ends} {tz tu tw : TS}
theorem q_asgR {i : Nat} (w : At Lm L G H) (h : Dr Lm L te σ G P) (k : ∀ v d G1 H1, GrB Lm L G H G1 H1 → P d → Da G1 v d → tz D (σ.set i (some v)) H1) : tSeq (tAsg te (gName i)) tz D σ H := h.go w k
theorem s_retR (w : At Lm L G H) (h : Dr Lm L te σ G P) (k : ∀ v d G1 H1, GrB Lm L G H G1 H1 → P d → Da G1 v d → D.rt v H1) : tRet te D σ H := h.go w k
theorem q_ifR (w : At Lm L G H) (h : DrT Lm L t σ G B) (h1 : B true → ∀ G1 H1, GrB Lm L G H G1 H1 → tu { D with nx := tz D } σ H1) (h2 : B false → ∀ G1 H1, GrB Lm L G H G1 H1 → tw { D with nx := tz D } σ H1) : tSeq (tIfS t tu tw) tz D σ H := h G H (Ex.refl _) w _ fun b G1 H1 r hb => by
  cases b with
  | true =>
    show tu { D with nx := tz D } σ H1
    exact h1 hb G1 H1 r
  | false =>
    show tw { D with nx := tz D } σ H1
    exact h2 hb G1 H1 r
theorem q_parR {i j : Nat} (w : At Lm L G H) (h : DrS Lm L tA σ G R) (k : ∀ v1 v2 d1 d2 G1 H1, GrB Lm L G H G1 H1 → R [d1, d2] → Da G1 v1 d1 → Da G1 v2 d2 → tz D ((σ.set i (some v1)).set j (some v2)) H1) (hl : ∀ ds, R ds → ds.length = 2) : tSeq (tPar i j tA) tz D σ H := h G H (Ex.refl _) w _ fun vs ds G1 H1 r p hds => by
  match ds, hds, p, hl ds p with
  | [d1, d2], .cons h1 (.cons h2 .nil), p, _ => exact ⟨_, _, rfl, k _ _ d1 d2 G1 H1 r p h1 h2⟩
/-- a, b = e -/
theorem q_unpR {i j : Nat} (w : At Lm L G H) (h : Dr Lm L te σ G P) (hP : ∀ d, P d → ∃ d1 d2, d = .tuple [d1, d2]) (k : ∀ v1 v2 d1 d2 G1 H1, GrB Lm L G H G1 H1 → P (.tuple [d1, d2]) → Da G1 v1 d1 → Da G1 v2 d2 → tz D ((σ.set i (some v1)).set j (some v2)) H1) :
    tSeq (tAsg te (gTup K 2 (gCons (gName i) (gCons (gName j) gNil)))) tz D σ H := h.go w fun v d G1 H1 r p hd => by
  obtain ⟨d1, d2, rfl⟩ := hP d p
  obtain ⟨a, xs, rfl, e, hs⟩ := hd.tup_
  match xs, hs with
  | [v1, v2], .cons h1 (.cons h2 .nil) => exact ⟨a, [v1, v2], rfl, SqT.of (r.s _ _ e), rfl, v1, [v2], rfl, v2, [], rfl, rfl, k v1 v2 d1 d2 G1 H1 r p h1 h2⟩
end
end Lf
namespace L2
open PySem PySem.Spec PyProof.Rows
/-- a promise holds where more room is asked for -/
theorem ok_lvl {P : Program} {w : World} {K : PySem.W.Frag} {mg : Str → Option Value} {base : Heap} {CX : CXT} {k n : Nat} {x : Str} {ps : List Str} {sp : Sp} (D : DefOk P w K mg base CX k x ps sp) (h : k ≤ n) : DefOk P w K mg base CX n x ps sp := by
  obtain ⟨f, fd, hm, hk, hb, F⟩ := D
  exact ⟨f, fd, hm, hk, hb, ⟨F.len, fun A outer s H args us vs Q E hr => F.run A outer s H args us vs Q E (hr.mono h)⟩⟩
end L2
set_option maxHeartbeats 4000000
namespace My
open PySem L2 Lf Evl Tr
theorem kd_tup {d : PyData} (c : kd d = "tuple") : ∃ ds, d = .tuple ds := by
  cases d with
  | tuple ds => exact ⟨ds, rfl⟩
  | none => exact absurd c (by decide)
  | bool b => exact absurd c (show ¬ "bool" = "tuple" by decide)
  | int b => exact absurd c (show ¬ "int" = "tuple" by decide)
  | list b => exact absurd c (show ¬ "list" = "tuple" by decide)
  | str b => exact absurd c (show ¬ "str" = "tuple" by decide)
  | dict b => exact absurd c (show ¬ "dict" = "tuple" by decide)
abbrev s_is_tree_shape : Stmt := top 17
theorem sc_is_tree_shape : FnScope ["value", "most", "one"] ["value", "most"] (defScope s_is_tree_shape) := ⟨rfl, rfl, rfl, by decide +kernel, rfl, by decide +kernel, by decide +kernel⟩
abbrev s_is_shape : Stmt := top 18
theorem sc_is_shape : FnScope ["value"] ["value"] (defScope s_is_shape) := ⟨rfl, rfl, rfl, by decide +kernel, rfl, by decide +kernel, by decide +kernel⟩
abbrev s_below_in : Stmt := top 19
theorem sc_below_in : FnScope ["shape"] ["shape"] (defScope s_below_in) := ⟨rfl, rfl, rfl, by decide +kernel, rfl, by decide +kernel, by decide +kernel⟩
abbrev s_working : Stmt := top 20
theorem sc_working : FnScope ["shape", "one"] ["shape"] (defScope s_working) := ⟨rfl, rfl, rfl, by decide +kernel, rfl, by decide +kernel, by decide +kernel⟩
section
variable {K : PySem.W.Frag} {σ : L2.St} {G : Hp} {ta tb tc te : TE} {t u : TT} {d : PyData} {ds : List PyData}
theorem ev_eqI {i j : Int} (ha : Ev ta σ G (.int i)) (hb : Ev tb σ G (.int j)) : Ev (tOp rEq ta tb) σ G (.bl (decide (i = j))) := by
  have h := ev_op ha hb (rv_eq (x := V.int i) (y := V.int j) rfl)
  have : decide (V.int i = V.int j) = decide (i = j) := by rw [decide_eq_decide]; simp
  rwa [this] at h
theorem ev_neI {i j : Int} (ha : Ev ta σ G (.int i)) (hb : Ev tb σ G (.int j)) : Ev (tOp rNe ta tb) σ G (.bl (!decide (i = j))) := by
  have h := ev_op ha hb (rv_ne (x := V.int i) (y := V.int j) rfl)
  have : decide (V.int i = V.int j) = decide (i = j) := by rw [decide_eq_decide]; simp
  rwa [this] at h
theorem et_orT (h1 : EvT t σ G true) : EvT (tOr t u) σ G true := et_or (b := false) h1 fun z => by cases z
theorem et_andF (h1 : EvT t σ G false) : EvT (tAnd t u) σ G false := et_and (b := true) h1 fun z => by cases z
theorem ev_is {v w : V} (h : Ev te σ G v) (e : v = w) : Ev te σ G w := e ▸ h
theorem ev_sumD {is : List Int} (h : EvD te σ G (.list (is.map PyData.int))) : Ev (tCB (rSum K) (tCons te tNil)) σ G (.int is.sum) := fun H1 x Q q => h G H1 (Ex.refl _) x _ fun v G2 H2 r hd => by
  obtain ⟨a, xs, rfl, e, hs⟩ := hd.lst_
  cases da_ints hs
  exact ⟨a, is, rfl, SqL.of (r.s _ _ e), q H2 r.h⟩
theorem ev_eqET (ha : EvD ta σ G (.tuple ds)) : Ev (tOp (rEqE K) ta (tTup tNil)) σ G (.bl ds.isEmpty) := fun H1 x Q q => ha G H1 (Ex.refl _) x _ fun v G2 H2 r hd => ⟨by decide, fun p hp => by
  obtain ⟨a, xs, rfl, e, hs⟩ := hd.tup_
  have x3 : Ex H2 (upd H2 p (.tup [])) := Ex.new hp
  refine ⟨a, p, xs, rfl, rfl, SqT.of (x3 _ _ (r.s _ _ e)), SqT.of upd_same, ?_⟩
  have : xs.isEmpty = ds.isEmpty := by cases hs <;> rfl
  rw [this]
  exact q _ (r.h.trans x3)⟩
theorem ev_intB {b : Bool} (h : Ev te σ G (.bl b)) : Ev (tCB (fun xs H Q => (∃ i, xs = [V.int i] ∧ Q (.int i) H) ∨ ∃ k, xs = [V.bl k] ∧ Q (.int (if k then 1 else 0)) H) (tCons te tNil)) σ G (.int (if b then 1 else 0)) := fun H1 x Q q => h H1 x _ fun H2 x2 => .inr ⟨b, rfl, q H2 x2⟩
end
/-! partial promises of one and of two values -/
def spO (f : PyData → Option PyData) : Sp := spF fun ds => match ds with
  | [d] => f d
  | _ => none
theorem spO_len {f : PyData → Option PyData} {vs : List V} {H : Hp} {Q : VK} {E : XK} (h : spO f vs H Q E) : vs.length = 1 := by
  refine spF_len (fun ds d e => ?_) h
  split at e
  · rfl
  · cases e
theorem spO_of {f : PyData → Option PyData} {vs : List V} {H : Hp} {Q : VK} {E : XK} (h : spO f vs H Q E) : ∃ G v d e, vs = [v] ∧ Ex G H ∧ Da G v d ∧ f d = some e ∧ ∀ v' G' H', Gr G H G' H' → Da G' v' e → Q v' H' := by
  obtain ⟨G, ds, d, s, h2, h3, k⟩ := h
  dsimp only at h3
  split at h3
  · cases h2 with
    | cons h t =>
      cases t
      exact ⟨G, _, _, d, rfl, s, h, h3, k⟩
  · cases h3
theorem evd_callO {f : PyData → Option PyData} {σ : L2.St} {G : Hp} {te : TE} {d e : PyData} {E : XK} (h : EvD te σ G d) (hf : f d = some e) : EvD (tCallD (spO f) E (tCons te tNil)) σ G e := evd_call (evd_cons h evd_nil) hf
/-- a judge of data with a number of levels below n -/
def spN (f : Nat → PyData → Bool) (n : Nat) : Sp := spF fun ds => match ds with
  | [d, .int m] => if 0 ≤ m ∧ m < n then some (.bool (f m.toNat d)) else none
  | _ => none
theorem spN_len {f : Nat → PyData → Bool} {n : Nat} {vs : List V} {H : Hp} {Q : VK} {E : XK} (h : spN f n vs H Q E) : vs.length = 2 := by
  refine spF_len (fun ds d e => ?_) h
  split at e
  · rfl
  · cases e
theorem spN_of {f : Nat → PyData → Bool} {n : Nat} {vs : List V} {H : Hp} {Q : VK} {E : XK} (h : spN f n vs H Q E) : ∃ G v d m, vs = [v, .int m] ∧ Ex G H ∧ Da G v d ∧ 0 ≤ m ∧ m < n ∧ ∀ H', Ex H H' → Q (.bl (f m.toNat d)) H' := by
  obtain ⟨G, ds, d, s, h2, h3, k⟩ := h
  dsimp only at h3
  split at h3
  · rename_i d' m
    split at h3
    · rename_i hm
      cases h3
      cases h2 with
      | cons h t =>
        cases t with
        | cons h' t =>
          cases t
          rw [h'.int_]
          exact ⟨G, _, d', m, rfl, s, h, hm.1, hm.2, fun H' x => k _ G H' (Gr.keep s x) (.bl _)⟩
    · cases h3
  · cases h3
theorem ev_callN {f : Nat → PyData → Bool} {n : Nat} {σ : L2.St} {G : Hp} {ta tb : TE} {d : PyData} {m : Int} {E : XK} (h : EvD ta σ G d) (hb : Ev tb σ G (.int m)) (h0 : 0 ≤ m) (h1 : m < n) : Ev (tCallD (spN f n) E (tCons ta (tCons tb tNil))) σ G (.bl (f m.toNat d)) :=
  EvD.bl_ (evd_call (evd_cons h (evd_cons (evd_int hb) evd_nil)) (by dsimp only; rw [if_pos ⟨h0, h1⟩]))
def fBel : PyData → Option PyData
  | .tuple (w :: r) => some (.tuple (bel (w :: r)))
  | _ => none
def fWk (n : Nat) (d : PyData) : Option PyData := if wks n d = true then some (.int (wkg n d)) else none
section
variable {P : Program} {w : World} {K : PySem.W.Frag} {mg : Str → Option Value} {base : Heap}
theorem ok_ts0 (D : Df K mg "is_tree_shape" s_is_tree_shape) : DefOk P w K mg base CX0 1 "is_tree_shape" ["value", "most"] (spN isTs 0) := by
  refine D.ok sc_is_tree_shape (fun _ _ _ _ _ _ us hl => match us, hl with | [_, _], _ => rfl) (fun vs H Q E h => spN_len h) (fun f cdv A outer s H vs Q E hr h => ?_)
  obtain ⟨_, _, _, m, _, _, _, h0, h1, _⟩ := spN_of h
  exact absurd h1 (by omega)
theorem ok_tsS (T : Txt K mg) (D : Df K mg "is_tree_shape" s_is_tree_shape) {n l : Nat} (hl3 : 1 ≤ l) (D_is_tree_shape : DefOk P w K mg base CX0 l "is_tree_shape" ["value", "most"] (spN isTs n)) (D_is_name : DefOk P w K mg base CX0 1 "is_name" ["value"] (spB isNm)) :
    DefOk P w K mg base CX0 (l + 1) "is_tree_shape" ["value", "most"] (spN isTs (n + 1)) := by
  refine D.ok sc_is_tree_shape (fun _ _ _ _ _ _ us hl => match us, hl with | [_, _], _ => rfl) (fun vs H Q E h => spN_len h) (fun f cdv A outer s H vs Q E hr h => ?_)
  obtain ⟨G, v, d, m, rfl, s, hd, m0, m1, k⟩ := spN_of h
  refine ⟨_, (pss_cons (ps_if (PW.pt (pw_or (pt_not (pt_val (pe_callB call_isi (by rfl) T.n_isinstance (by decide +kernel) (pa_cons (pv 0) (pa_cons (pe_bltn (v := .ty "tuple") (by rfl) T.n_tuple (by decide +kernel) rfl) pa_nil))))) (pw_or (pt_cmpR op_eq (pv 1) pe_int (nomark _)) (pw_or1 (pt_cmpR (op_eqE hr.units0) (pv 0) (pe_tup pa_nil) (nomark _))))))
 (pss_one (ps_ret pe_bl))
 pss_nil)
 (pss_cons (ps_if (PW.pt (pw_or (pt_cmpR (op_eqS hr.units0) (pe_ix ix_tup (pv 0) pe_int (fun _ _ => rfl)) (pe_gStr (by rfl) T.g_HOLE) (nomark _)) (pw_or1 (pt_cmpR (op_eqS hr.units0) (pe_ix ix_tup (pv 0) pe_int (fun _ _ => rfl)) (pe_gStr (by rfl) T.g_LOAD) (nomark _)))))
 (pss_one (ps_ret (pe_cmpR op_eq (pe_callB call_len_seq (by rfl) T.n_len (by decide +kernel) (pa_cons (pv 0) pa_nil)) pe_int (nomark _))))
 pss_nil)
 (pss_cons (ps_if (PW.pt (pw_or (pt_cmpR (op_neS hr.units0) (pe_ix ix_tup (pv 0) pe_int (fun _ _ => rfl)) (pe_gStr (by rfl) T.g_OP) (nomark _)) (pw_or (pt_not (pt_chain op_le op_le pe_int (pe_callB call_len_seq (by rfl) T.n_len (by decide +kernel) (pa_cons (pv 0) pa_nil)) (pe_op op_add pe_int (pe_gInt (by rfl) T.g_MAX_TREES)))) (pw_or1 (pt_not (pt_val (pe_callD D_is_name (hr.mono (by omega)) pass0 (pa_cons (pe_ix ix_tup (pv 0) pe_int (fun _ _ => rfl)) pa_nil))))))))
 (pss_one (ps_ret pe_bl))
 pss_nil)
 (pss_one (ps_ret (pe_callB (cr_all rfl) (by rfl) T.n_all (by decide +kernel) (pa_cons (pe_lc (own := [("one", 2)]) (by rfl) sc_is_tree_shape.nd (pi_tup (pe_slice sl_tupA (pv 0) (po_some pe_int) po_none)) (blkOk_by (own := [("one", 2)]) (N := ["value", "most", "one"]) (sc := defScope s_is_tree_shape) (by decide +kernel)) (fun _ _ _ _ _ => (pg_name (i := 2) sc_is_tree_shape.nd rfl (Or.inl rfl))) (fun _ _ _ _ _ => pts_nil) (fun _ _ _ _ _ => (pe_callD D_is_tree_shape (hr.mono (by omega)) pass0 (pa_cons (pv 2) (pa_cons (pe_op op_sub (pv 1) pe_int) pa_nil))))) pa_nil))))))), ?_⟩
  by_cases c : kd d = "tuple"
  · obtain ⟨ds, rfl⟩ := kd_tup c
    match ds, hd, k with
    | [], hd, k =>
      have e : isTs m.toNat (.tuple []) = false := by cases m.toNat <;> rfl
      rw [e] at k
      refine q_ifD s (et_or (b := true) (et_not (et_B (ev_isTup (evd_var rfl hd)))) fun _ => et_is (et_or (b := true) (et_test (ev_eqI (ev_var rfl) ev_c)) fun _ => et_test (ev_eqET (evd_var rfl hd))) (Bool.or_true _)) (fun _ H1 x1 => k H1 x1) (fun z => by cases z)
    | dw :: r, hd, k =>
      have i0 : ∀ {G'}, Ex G G' → EvD (tOp (rIxT K) (tVar 0) (tC (.int 0))) (start ["value", "most", "one"] [v, .int m]) G' dw := fun x => evd_ixT (evd_var rfl (hd.up x)) ev_c (atI_nat (j := 0) rfl)
      have i0 := i0 (Ex.refl G)
      refine q_ifD s (b := decide (m = 0)) (et_is (et_or (et_not (et_B (ev_isTup (evd_var rfl hd)))) fun _ => et_or (et_test (ev_eqI (ev_var rfl) ev_c)) fun _ => et_test (ev_eqET (evd_var rfl hd))) ?_) (fun hb H1 x1 => ?_) (fun hb H1 x1 => ?_)
      · show (false || (decide (m = 0) || false)) = _
        rw [Bool.false_or, Bool.or_false]
      · have z : m = 0 := of_decide_eq_true hb
        subst z
        exact k H1 x1
      · have z : ¬ m = 0 := of_decide_eq_false hb
        obtain ⟨j, rfl⟩ : ∃ j : Nat, m = (j : Int) + 1 := ⟨(m - 1).toNat, by omega⟩
        have e1 : ((j : Int) + 1).toNat = j + 1 := by omega
        rw [e1, isTs_cons] at k
        have s1 := s.trans x1
        have len : ((dw :: r).length : Int) = r.length + 1 := by rw [List.length_cons]; omega
        dsimp only [tNext]
        refine q_ifD s1 (et_or (et_test (ev_eqS i0 ev_c)) fun _ => et_test (ev_eqS i0 ev_c)) (fun ha H2 x2 => ?_) (fun ha H2 x2 => ?_)
        · rw [if_pos ha] at k
          have e2 : r.isEmpty = decide (((dw :: r).length : Int) = 1) := by
            cases r with
            | nil => rfl
            | cons a t => rw [decide_eq_false (by rw [List.length_cons, List.length_cons]; omega)]; rfl
          rw [e2] at k
          exact Ev.ret (s1.trans x2) (ev_eqI (ev_lenT (evd_var rfl hd)) ev_c) (fun H3 x3 => k H3 ((x1.trans x2).trans x3))
        · rw [if_neg (by rw [ha]; decide)] at k
          have s2 := s1.trans x2
          have x12 := x1.trans x2
          by_cases c2 : isS "op" dw = true
          · rw [if_pos c2] at k
            cases isS_eq c2
            by_cases c3 : 1 ≤ r.length ∧ r.length ≤ 4
            · rw [decide_eq_true c3.1, decide_eq_true c3.2, Bool.and_true, Bool.true_and] at k
              obtain ⟨dn, ts, rfl⟩ : ∃ dn ts, r = dn :: ts := by
                match r, c3.1 with
                | a :: b, _ => exact ⟨a, b, rfl⟩
              have i1 : EvD (tOp (rIxT K) (tVar 0) (tC (.int 1))) (start ["value", "most", "one"] [v, .int ((j : Int) + 1)]) G dn := evd_ixT (evd_var rfl hd) ev_c (atI_nat (j := 1) rfl)
              refine q_ifD s2 (b := !isNm dn) (et_is (et_or (et_test (ev_neS i0 ev_c)) fun _ => et_or (et_not (et_test (ev_chain ev_c (ev_lenT (evd_var rfl hd)) (ev_op ev_c ev_c rv_I0)))) fun _ => et_not (et_B (ev_callB i1))) ?_) (fun hb2 H3 x3 => ?_) (fun hb2 H3 x3 => ?_)
              · have q1 : decide ((2 : Int) ≤ ((PyData.str "op" :: dn :: ts).length : Int)) = true := decide_eq_true (by rw [len, List.length_cons]; omega)
                have q2 : decide (((PyData.str "op" :: dn :: ts).length : Int) ≤ 2 + 3) = true := decide_eq_true (by have := c3.2; rw [len]; rw [List.length_cons] at this ⊢; omega)
                rw [q1, q2]
                rfl
              · have : isNm dn = false := by simpa using hb2
                rw [show (dn :: ts).getD 0 .none = dn from rfl, this] at k
                exact k _ (x12.trans x3)
              · have hn : isNm dn = true := by simpa using hb2
                rw [show (dn :: ts).getD 0 .none = dn from rfl, hn, Bool.true_and, show (dn :: ts).drop 1 = ts from rfl] at k
                have e3 : (ts.all fun t => isTs j t) = ((ts.map fun t => isTs j t).all id) := by rw [List.all_map]; rfl
                rw [e3] at k
                have h4 := c3.2
                rw [List.length_cons] at h4
                refine Ev.ret (s2.trans x3) (ev_allD (K := K) (EvD.is (evd_lcT (ds := ts) (fun _ => true) (fun t => .bool (isTs j t)) (EvD.is (evd_sl (evd_var rfl hd) (EvO.some_ ev_c) EvO.none_) ?_) (by omega) (fun _ => rfl) (fun d _ v G1 _ _ => et_yes (b := true)) (fun d _ _ v G1 _ hv => evd_bl (ev_is (ev_callN (evd_var rfl hv) (ev_op (ev_var rfl) ev_c rv_I0) ?_ ?_) ?_))) ?_)) (fun H4 x4 => k H4 ((x12.trans x3).trans x4))
                · rw [show (2 : Int) = ((2 : Nat) : Int) from rfl, cutD_from]
                  rfl
                · omega
                · omega
                · rw [show ((j : Int) + 1 - 1).toNat = j by omega]
                · rw [filter_yes, List.map_map]
                  rfl
            · have e4 : (decide (1 ≤ r.length) && decide (r.length ≤ 4) && (isNm (r.getD 0 .none) && (r.drop 1).all fun t => isTs j t)) = false := by
                rw [← Bool.decide_and, decide_eq_false c3]
                rfl
              rw [e4] at k
              refine q_ifD s2 (b := true) (et_is (et_or (b := true) (et_test (ev_neS i0 ev_c)) fun _ => et_orT (et_is (et_not (et_test (ev_chain ev_c (ev_lenT (evd_var rfl hd)) (ev_op ev_c ev_c rv_I0)))) ?_)) (Bool.or_true _)) (fun _ H3 x3 => k _ (x12.trans x3)) (fun z => by cases z)
              rw [← Bool.decide_and, len, decide_eq_false (by omega)]
              rfl
          · rw [if_neg c2] at k
            have c2 : isS "op" dw = false := by simpa using c2
            exact q_ifD s2 (et_orT (et_is (et_test (ev_neS i0 ev_c)) (by rw [c2]; rfl))) (fun _ H3 x3 => k _ (x12.trans x3)) (fun z => by cases z)
  · have e1 : isTs m.toNat d = false := by
      cases hm : m.toNat with
      | zero => rfl
      | succ j => cases d <;> (first | rfl | exact absurd rfl c)
    rw [e1] at k
    refine q_ifD s (et_orT (et_is (et_not (et_B (ev_isTup (evd_var rfl hd)))) ?_)) (fun _ H1 x1 => k H1 x1) (fun z => by cases z)
    rw [beq_eq_false_iff_ne.mpr c]
    rfl
theorem ok_below_in (T : Txt K mg) (D : Df K mg "below_in" s_below_in) : DefOk P w K mg base CX0 1 "below_in" ["shape"] (spO fBel) := by
  refine D.ok sc_below_in (fun _ _ _ _ _ _ us hl => match us, hl with | [_], _ => rfl) (fun vs H Q E h => spO_len h) (fun f cdv A outer s H vs Q E hr h => ?_)
  obtain ⟨G, v, d, e, rfl, s, hd, he, k⟩ := spO_of h
  refine ⟨_, (pss_cons (ps_if (pt_cmpR (op_eqS hr.units0) (pe_ix ix_tup (pv 0) pe_int (fun _ _ => rfl)) (pe_gStr (by rfl) T.g_STORE) (nomark _))
 (pss_one (ps_ret (pe_slice sl_tupA (pv 0) (po_some pe_int) po_none)))
 pss_nil)
 (pss_one (ps_ret (pe_ifExp (pt_cmpR (op_eqS hr.units0) (pe_ix ix_tup (pv 0) pe_int (fun _ _ => rfl)) (pe_gStr (by rfl) T.g_OP) (nomark _)) (pe_slice sl_tupA (pv 0) (po_some pe_int) po_none) (pe_tup pa_nil))))), ?_⟩
  unfold fBel at he
  split at he
  · rename_i w r
    cases he
    have i0 : EvD (tOp (rIxT K) (tVar 0) (tC (.int 0))) (start ["shape"] [v]) G w := evd_ixT (evd_var rfl hd) ev_c (atI_nat (j := 0) rfl)
    refine q_ifD s (et_test (ev_eqS i0 ev_c)) (fun c H1 x1 => ?_) (fun c H1 x1 => ?_)
    · refine s_retD (s.trans x1) (EvD.is (evd_sl (evd_var rfl hd) (EvO.some_ ev_c) EvO.none_) ?_) (fun v' G' H' r => k v' G' H' ((Gr.keep s x1).trans r))
      rw [show (1 : Int) = ((1 : Nat) : Int) from rfl, cutD_from, bel, if_pos c]
      rfl
    · refine s_retD (s.trans x1) (evd_if (b := isS "op" w) (et_test (ev_eqS i0 ev_c)) (fun c2 => EvD.is (evd_sl (evd_var rfl hd) (EvO.some_ ev_c) EvO.none_) ?_) (fun c2 => EvD.is (evd_tup evd_nil (by decide)) ?_)) (fun v' G' H' r => k v' G' H' ((Gr.keep s x1).trans r))
      · rw [show (2 : Int) = ((2 : Nat) : Int) from rfl, cutD_from, bel, c, if_neg Bool.false_ne_true, if_pos c2]
        rfl
      · rw [bel, c, if_neg Bool.false_ne_true, c2, if_neg Bool.false_ne_true]
  · cases he
theorem ok_wk0 (D : Df K mg "working" s_working) : DefOk P w K mg base CX0 1 "working" ["shape"] (spO (fWk 0)) := by
  refine D.ok sc_working (fun _ _ _ _ _ _ us hl => match us, hl with | [_], _ => rfl) (fun vs H Q E h => spO_len h) (fun f cdv A outer s H vs Q E hr h => ?_)
  obtain ⟨G, v, d, e, rfl, s, hd, he, k⟩ := spO_of h
  have w0 : wks 0 d = false := by cases d <;> rfl
  unfold fWk at he
  rw [w0, if_neg Bool.false_ne_true] at he
  cases he
theorem ok_wkS (T : Txt K mg) (D : Df K mg "working" s_working) {n l : Nat} (hl3 : 1 ≤ l) (D_working : DefOk P w K mg base CX0 l "working" ["shape"] (spO (fWk n))) (D_below_in : DefOk P w K mg base CX0 1 "below_in" ["shape"] (spO fBel)) : DefOk P w K mg base CX0 (l + 1) "working" ["shape"] (spO (fWk (n + 1))) := by
  refine D.ok sc_working (fun _ _ _ _ _ _ us hl => match us, hl with | [_], _ => rfl) (fun vs H Q E h => spO_len h) (fun f cdv A outer s H vs Q E hr h => ?_)
  obtain ⟨G, v, d, e, rfl, s, hd, he, k⟩ := spO_of h
  unfold fWk at he
  split at he
  · rename_i hw
    cases he
    obtain ⟨w, r, rfl⟩ := wks_tup hw
    obtain ⟨h4, hall⟩ := wks_cons hw
    refine ⟨_, (pss_one (ps_ret (pe_op op_add (pe_callTy call_int1 (by rfl) T.n_int (by decide +kernel) (pa_cons (pe_cmpR (op_neS hr.units0) (pe_ix ix_tup (pv 0) pe_int (fun _ _ => rfl)) (pe_gStr (by rfl) T.g_HOLE) (nomark _)) pa_nil)) (pe_callB (cr_sum rfl) (by rfl) T.n_sum (by decide +kernel) (pa_cons (pe_lc (own := [("one", 1)]) (by rfl) sc_working.nd (pi_tup (pe_callD D_below_in (hr.mono (by omega)) pass0 (pa_cons (pv 0) pa_nil))) (blkOk_by (own := [("one", 1)]) (N := ["shape", "one"]) (sc := defScope s_working) (by decide +kernel)) (fun _ _ _ _ _ => (pg_name (i := 1) sc_working.nd rfl (Or.inl rfl))) (fun _ _ _ _ _ => pts_nil) (fun _ _ _ _ _ => (pe_callD D_working (hr.mono (by omega)) pass0 (pa_cons (pv 1) pa_nil)))) pa_nil))))), ?_⟩
    have i0 : EvD (tOp (rIxT K) (tVar 0) (tC (.int 0))) (start ["shape", "one"] [v]) G w := evd_ixT (evd_var rfl hd) ev_c (atI_nat (j := 0) rfl)
    refine s_retD s (EvD.is (evd_int (ev_op (ev_intB (ev_neS i0 ev_c)) (ev_sumD (K := K) (is := (bel (w :: r)).map fun t => wkg n t) (EvD.is (evd_lcT (fun _ => true) (fun t => .int (wkg n t)) (evd_callO (evd_var rfl hd) rfl) (by omega) (fun _ => rfl) (fun d _ v G1 _ _ => et_yes (b := true)) (fun d hd' _ v G1 _ hv => evd_callO (evd_var rfl hv) ?_)) ?_)) rv_I0)) ?_) k
    · unfold fWk
      rw [if_pos (hall d hd')]
    · rw [filter_yes, List.map_map]
      rfl
    · rw [wkg, show (w :: r).getD 0 .none = w from rfl]
      cases isS "hole" w <;> rfl
  · cases he
theorem ok_is_shape (T : Txt K mg) (D : Df K mg "is_shape" s_is_shape) (D_is_tree_shape : DefOk P w K mg base CX0 7 "is_tree_shape" ["value", "most"] (spN isTs 6)) (D_working : DefOk P w K mg base CX0 6 "working" ["shape"] (spO (fWk 5))) : DefOk P w K mg base CX0 8 "is_shape" ["value"] (spB isSh) := by
  refine D.ok sc_is_shape (fun _ _ _ _ _ _ us hl => match us, hl with | [_], _ => rfl) (fun vs H Q E h => spF_len f1_len h) (fun f cdv A outer s H vs Q E hr h => ?_)
  obtain ⟨G, v, d, rfl, s, hd, k⟩ := spB_of h
  refine ⟨_, (pss_cons (ps_if (PW.pt (pw_and (pt_val (pe_callB call_isi (by rfl) T.n_isinstance (by decide +kernel) (pa_cons (pv 0) (pa_cons (pe_bltn (v := .ty "tuple") (by rfl) T.n_tuple (by decide +kernel) rfl) pa_nil)))) (pw_and (pt_cmpR op_eq (pe_callB call_len_seq (by rfl) T.n_len (by decide +kernel) (pa_cons (pv 0) pa_nil)) pe_int (nomark _)) (pw_and1 (pt_cmpR (op_eqS hr.units0) (pe_ix ix_tup (pv 0) pe_int (fun _ _ => rfl)) (pe_gStr (by rfl) T.g_STORE) (nomark _))))))
 (pss_one (ps_ret (pe_and (pe_callD D_is_tree_shape (hr.mono (by decide)) pass0 (pa_cons (pe_ix ix_tup (pv 0) pe_int (fun _ _ => rfl)) (pa_cons (pe_gInt (by rfl) T.g_MAX_SHAPE) pa_nil))) (pe_one (pe_cmpR op_le (pe_callD D_working (hr.mono (by decide)) pass0 (pa_cons (pv 0) pa_nil)) (pe_gInt (by rfl) T.g_MAX_SHAPE) (nomark _))))))
 pss_nil)
 (pss_one (ps_ret (pe_and (pe_callD D_is_tree_shape (hr.mono (by decide)) pass0 (pa_cons (pv 0) (pa_cons (pe_op op_add (pe_gInt (by rfl) T.g_MAX_SHAPE) pe_int) pa_nil))) (pe_one (pe_cmpR op_le (pe_callD D_working (hr.mono (by decide)) pass0 (pa_cons (pv 0) pa_nil)) (pe_gInt (by rfl) T.g_MAX_SHAPE) (nomark _))))))), ?_⟩
  have rest : ∀ {H1}, Ex H H1 → (∀ H', Ex H H' → Q (.bl (isTs 5 d && decide (wkg 5 d ≤ 4))) H') → tRet (tAndV (tCallD (spN isTs 6) E0 (tCons (tVar 0) (tCons (tOp (rI0 fun i j => .int (i + j)) (tC (.int 4)) (tC (.int 1))) tNil))) (tOp (rI0 fun i j => .bl (decide (i ≤ j))) (tCallD (spO (fWk 5)) E0 (tCons (tVar 0) tNil)) (tC (.int 4)))) { nx := fun _ H' => Q .non H', rt := Q } (start ["value"] [v]) H1 := fun x1 k1 => by
    refine Ev.ret (s.trans x1) (ev_andV (ev_callN (m := 4 + 1) (evd_var rfl hd) (ev_op ev_c ev_c rv_I0) (by decide) (by decide)) fun h5 => ?_) (fun H2 x2 => k1 H2 (x1.trans x2))
    exact ev_op (EvD.int_ (evd_callO (e := .int (wkg 5 d)) (evd_var rfl hd) (by unfold fWk; rw [if_pos (wks_ts 5 d h5)]))) ev_c rv_I0
  by_cases c : kd d = "tuple"
  · obtain ⟨ds, rfl⟩ := kd_tup c
    by_cases c2 : ds.length = 2
    · obtain ⟨dw, dx, rfl⟩ : ∃ dw dx, ds = [dw, dx] := by
        match ds, c2 with
        | [a, b], _ => exact ⟨a, b, rfl⟩
      have i0 : EvD (tOp (rIxT K) (tVar 0) (tC (.int 0))) (start ["value"] [v]) G dw := evd_ixT (evd_var rfl hd) ev_c (atI_nat (j := 0) rfl)
      have i1 : EvD (tOp (rIxT K) (tVar 0) (tC (.int 1))) (start ["value"] [v]) G dx := evd_ixT (evd_var rfl hd) ev_c (atI_nat (j := 1) rfl)
      refine q_ifD s (b := isS "store" dw) (et_is (et_and (et_B (ev_isTup (evd_var rfl hd))) fun _ => et_and (et_test (ev_eqI (ev_lenT (evd_var rfl hd)) ev_c)) fun _ => et_test (ev_eqS i0 ev_c)) ?_) (fun hb H1 x1 => ?_) (fun hb H1 x1 => ?_)
      · rfl
      · have e : isSh (.tuple [dw, dx]) = (isTs 4 dx && decide (wkg 5 (.tuple [dw, dx]) ≤ 4)) := by
          unfold isSh; dsimp only
          rw [if_pos ⟨rfl, hb⟩]
          rfl
        rw [e] at k
        refine Ev.ret (s.trans x1) (ev_andV (ev_callN (m := 4) i1 ev_c (by decide) (by decide)) fun h4 => ?_) (fun H2 x2 => k H2 (x1.trans x2))
        have hw : wks 5 (.tuple [dw, dx]) = true := by
          have e2 : bel [dw, dx] = [dx] := by unfold bel; dsimp only; rw [if_pos hb]
          rw [wks]
          show (decide ((bel [dw, dx]).length ≤ 4) && (bel [dw, dx]).all fun t => wks 4 t) = true
          rw [e2]
          simp [wks_ts 4 dx h4]
        exact ev_op (EvD.int_ (evd_callO (e := .int (wkg 5 (.tuple [dw, dx]))) (evd_var rfl hd) (by unfold fWk; rw [if_pos hw]))) ev_c rv_I0
      · refine rest x1 ?_
        have e : isSh (.tuple [dw, dx]) = (isTs 5 (.tuple [dw, dx]) && decide (wkg 5 (.tuple [dw, dx]) ≤ 4)) := by
          unfold isSh; dsimp only
          rw [if_neg (fun z => by rw [show [dw, dx].getD 0 .none = dw from rfl, hb] at z; cases z.2)]
        rw [e] at k
        exact k
    · have e : isSh (.tuple ds) = (isTs 5 (.tuple ds) && decide (wkg 5 (.tuple ds) ≤ 4)) := by
        unfold isSh; dsimp only
        rw [if_neg (fun z => c2 z.1)]
      rw [e] at k
      refine q_ifD s (b := false) (et_is (et_and (b := false) (et_B (ev_isTup (evd_var rfl hd))) fun _ => et_andF (et_is (et_test (ev_eqI (ev_lenT (evd_var rfl hd)) ev_c)) (decide_eq_false (by omega)))) (Bool.and_false _)) (fun z => by cases z) (fun _ H1 x1 => rest x1 k)
  · have e : isSh d = (isTs 5 d && decide (wkg 5 d ≤ 4)) := by cases d <;> (first | rfl | exact absurd rfl c)
    rw [e] at k
    refine q_ifD s (et_andF (et_is (et_B (ev_isTup (evd_var rfl hd))) (beq_eq_false_iff_ne.mpr c))) (fun z => by cases z) (fun _ H1 x1 => rest x1 k)
end
end My
set_option maxHeartbeats 4000000
/-! bool(x), x an instance whose class has a __bool__ of its own -/
namespace LfB
open PySem PySem.Spec PyProof.Rows
section
variable {prog : Program} {w : World} {A : Around} {E : Value → Shared → Prop} {s : Shared} {K : PySem.W.Frag} {x C D f : Addr} {ox od : Obj} {odd : Option Obj}
theorem truthy_own {Q : Bool → Shared → Prop} (X : K.In s.heap) (I : PySem.W.InstAt s.heap x ox C odd) (hs : PySem.W.findIn K (.ref C) "__bool__" = some (some (.ref f))) (hf : PySem.W.isFn K (.ref f) = true)
    (h : wpAny (model prog w) A (call (.ref f) [.ref x]) (fun r s₁ => ∃ b, r = Value.bool b ∧ Q b s₁) E s) : wpAny (model prog w) A (truthy (.ref x)) Q E s := by
  unfold truthy
  have key : wpAny (model prog w) A (callSpecial? (.ref x) (Str.ofString "__bool__")) (fun r s₁ => ∃ b, r = some (Value.bool b) ∧ Q b s₁) E s :=
    PySem.W.special_fn X I hs (beq_iff_eq.mp hf) (wpAny_mono h (fun r s' ⟨b, e, q⟩ => ⟨b, by rw [e], q⟩) fun _ _ y => y)
  first
    | refine wpAny_bind (wpAny_mono key (fun r s' hr => ?_) fun _ _ y => y)
    | refine wpAny_bind (wpAny_pure (wpAny_bind (wpAny_mono key (fun r s' hr => ?_) fun _ _ y => y)))
  obtain ⟨b, rfl, q⟩ := hr
  first
    | exact wpAny_pure q
    | exact wpAny_bind (wpAny_pure q)
theorem type_bool : isType (.type "bool") = pure true := rfl
theorem bool_own {Q : Value → Shared → Prop} (X : K.In s.heap) (I : PySem.W.InstAt s.heap x ox C odd) (hs : PySem.W.findIn K (.ref C) "__bool__" = some (some (.ref f))) (hf : PySem.W.isFn K (.ref f) = true)
    (h : wpAny (model prog w) A.in1.in1 (call (.ref f) [.ref x]) (fun r s₁ => ∃ b, r = Value.bool b ∧ Q r s₁) E s) : wpAny (model prog w) A (call (.type "bool") [.ref x]) Q E s := by
  refine callType_codes (T := "bool") (Bi := Builtin.«object.__init__») (Q₁ := fun r s₁ => ∃ b, r = Value.bool b ∧ Q r s₁) PySem.F.called_bool (PySem.F.typeCall_bool_1 _) PySem.F.entry_object_init ?_ ?_
  · refine codeAny_of_tree ?_
    show wpAny _ A.in1.in1 (do checkBuiltinCall "bool.__new__" ⟨[.type "bool", .ref x], []⟩; again (.builtin "bool.__new__" ⟨[.type "bool", .ref x], []⟩)) _ _ s
    refine wpAny_bind (wpAny_of_eq (PySem.F.newCall_bool_1 _) (wpAny_pure ⟨plainId_quiet (by decide +kernel) _, codeAny_builtin PySem.F.entry_bool_new ?_⟩))
    rw [Around.under_plainId (by decide +kernel) _]
    unfold Builtin.«bool.__new__»
    refine wpAny_bind (wpAny_of_eq (a := true) type_bool ?_)
    refine PySem.W.KFB.if_not rfl ?_
    refine wpAny_bind (wpAny_of_eq (a := true) PySem.F.conv_sub_bool ?_)
    refine PySem.W.KFB.if_not rfl ?_
    refine wpAny_bind (wpAny_of_eq (a := [.ref x]) rfl ?_)
    refine wpAny_bind (truthy_own X I hs hf (wpAny_mono h (fun r s₁ hr => ?_) fun _ _ y => y))
    obtain ⟨b, rfl, hq⟩ := hr
    refine ⟨b, rfl, ?_⟩
    exact wpAny_pure ⟨b, rfl, hq⟩
  · rintro obj s₁ ⟨b, rfl, hq⟩
    exact ⟨PySem.typeIs_bool _ _, PySem.F.args_object_init_2 _ _, object_init_meets PySem.F.called_bool.init.lookup PySem.F.called_bool.made (by decide) prog w A.in1 _ s₁ ⟨PySem.typeIs_bool _ _, rfl, hq⟩⟩
end
end LfB
namespace L2
open PySem PySem.Spec PyProof.Rows
section
variable {X : Cx} {CX : CXT} {pins : List (Addr × Obj)} {σ : St} {H : Hp} {s : Shared} {C : Addr} {ps : List Str} {m : Str} {n : Nat} {sp : Sp} {E : XK}
theorem run_fnAt {A : Around} {Q : VK} {g : Addr} {fd : FuncData} {us : List Value} {ws : List V} (F : FnOk X.prog X.w X.K X.mg X.base CX n g fd ps sp) (hb : Binds X.K fd ps []) (hr : Room n A) (e0 : Env0 X.prog X.w X.K X.mg X.base A X.stack s H) (hx : Passes CX X E) (I : Inv X pins σ H s) (r : Vals ws us) (h : sp ws H Q E) :
    codeAny (model X.prog X.w) A (.call (.ref g) ⟨us, []⟩) (fun r s' => match r with | .ok (.ret v) => EP X pins σ Q v s' | .ok _ => False | .error e => X.xe e s') s := by
  have hl : us.length = ps.length := by rw [← r.length]; exact F.len _ _ _ _ h
  have b := hb s us I.kIn (by rw [List.append_nil]; exact hl)
  rw [List.append_nil] at b
  refine codeAny_mono (F.run A X.stack s H ⟨us, []⟩ us ws Q E hr e0 b r h) fun r s' hq => ?_
  cases r with
  | error e => exact hx pins σ H s e s' I hq
  | ok fl =>
    cases fl with
    | ret u => exact I.after hq
    | next => exact False.elim hq
    | brk => exact False.elim hq
    | cont => exact False.elim hq
/-- bool(x) of an instance with an own __bool__ -/
def rBoolOwn (C : Addr) (sp : Sp) (E : XK) : List V → Hp → VK → Prop := fun xs H Q => ∃ a dx fs, xs = [V.ref a] ∧ H a = some (.ins C dx fs) ∧ sp [.ref a] H (fun z H' => ∃ b, z = .bl b ∧ Q z H') E
theorem call_boolOwn (D : MethOk X.prog X.w X.K X.mg X.base CX n C "__bool__" ps sp) (hr : Room (n + 2) X.A) (hx : Passes CX X E) : CallR X (.type "bool") (rBoolOwn C sp E) := by
  obtain ⟨f, fd, hm, hb, F⟩ := D
  intro pins s σ H xs us Q I r h
  obtain ⟨a, dx, fs, rfl, hsl, q⟩ := h
  obtain ⟨u, rfl, ru⟩ := r.one
  cases (show u = Value.ref a from ru)
  obtain ⟨mA, O, _⟩ := ins_get I.hok hsl
  obtain ⟨od, J, _⟩ := O.look
  have hr2 : Room n X.A.in1.in1 := (show Room (n + 1) X.A.in1 from Room.in1 hr).in1
  refine LfB.bool_own I.kIn J hm.at_ hm.fn (wpAny_mono (wpAny_call (run_fnAt (us := [.ref a]) (ws := [.ref a]) F hb hr2 I.env0.in1.in1 hx I (.cons rfl .nil) q)) (fun w s' z => ?_) fun _ _ x => x)
  obtain ⟨z', H', I', rz, b, eb, qz⟩ := z
  subst eb
  cases (show w = Value.bool b from rz)
  exact ⟨b, rfl, .bl b, H', I', rfl, qz⟩
end
end L2
set_option maxHeartbeats 4000000
/-! An instance's own __bool__ as a test, its own __contains__ -/
namespace L2
open PySem PySem.Spec PyProof.Rows
section
variable {X : Cx} {CX : CXT} {C : Addr} {ps : List Str} {n : Nat} {sp : Sp} {E : XK}
def rTruOwn (C : Addr) (sp : Sp) (E : XK) : V → Hp → (Bool → Hp → Prop) → Prop := fun x H Q => ∃ a dx fs, x = V.ref a ∧ H a = some (.ins C dx fs) ∧ sp [.ref a] H (fun z H' => ∃ b, z = .bl b ∧ Q b H') E
theorem tru_own (D : MethOk X.prog X.w X.K X.mg X.base CX n C "__bool__" ps sp) (hr : Room n X.A) (hx : Passes CX X E) : TruR X (rTruOwn C sp E) := by
  obtain ⟨f, fd, hm, hb, F⟩ := D
  intro pins s σ H x v Q I r h
  obtain ⟨a, dx, fs, rfl, hsl, q⟩ := h
  cases (show v = Value.ref a from r)
  obtain ⟨mA, O, _⟩ := ins_get I.hok hsl
  obtain ⟨od, J, _⟩ := O.look
  refine LfB.truthy_own I.kIn J hm.at_ hm.fn (wpAny_mono (wpAny_call (run_fnAt (us := [.ref a]) (ws := [.ref a]) F hb hr I.env0 hx I (.cons rfl .nil) q)) (fun w s' z => ?_) fun _ _ x => x)
  obtain ⟨z', H', I', rz, b, eb, qz⟩ := z
  subst eb
  cases (show w = Value.bool b from rz)
  exact ⟨b, rfl, H', I', qz⟩
def tNotR (r : V → Hp → (Bool → Hp → Prop) → Prop) (ta : TE) : TE := fun σ H Q => ta σ H fun x H1 => r x H1 fun k H2 => Q (.bl (!k)) H2
theorem pe_notR {a : Expr} {ta : TE} {pos : Pos} {r : V → Hp → (Bool → Hp → Prop) → Prop} (ha : PE X a ta) (hr : TruR X r) : PE X (.UnaryOp .Not a pos) (tNotR r ta) := by
  refine ⟨fun pins s σ H Q I h => ?_⟩
  refine UnaryOp_ (thn (ha.run pins s σ H _ I h) fun v s1 ⟨x, H1, I1, r1, q1⟩ => ?_)
  exact not_of (thn (hr pins s1 σ H1 x v (fun c H2 => Q (.bl (!c)) H2) I1 r1 q1) fun c s2 ⟨H2, I2, q2⟩ => ⟨.bl (!c), H2, I2, rfl, q2⟩)
/-- x in o, o an instance with a __contains__ of its own -/
def rInOwn (C : Addr) (sp : Sp) (E : XK) : R2 := fun x y H Q => ∃ a dx fs, y = V.ref a ∧ H a = some (.ins C dx fs) ∧ sp [.ref a, x] H (fun z H' => ∃ b, z = .bl b ∧ Q (.bl b) H') E
def rNiOwn (C : Addr) (sp : Sp) (E : XK) : R2 := fun x y H Q => ∃ a dx fs, y = V.ref a ∧ H a = some (.ins C dx fs) ∧ sp [.ref a, x] H (fun z H' => ∃ b, z = .bl b ∧ Q (.bl (!b)) H') E
theorem op_inOwn (D : MethOk X.prog X.w X.K X.mg X.base CX n C "__contains__" ps sp) (hr : Room n X.A) (hx : Passes CX X E) : OpR X (compareOp .In) (rInOwn C sp E) := by
  obtain ⟨f, fd, hm, hb, F⟩ := D
  intro pins s σ H x y v u Q I rx ry h
  obtain ⟨a, dx, fs, rfl, hsl, q⟩ := h
  cases (show u = Value.ref a from ry)
  obtain ⟨mA, O, _⟩ := ins_get I.hok hsl
  obtain ⟨od, J, _⟩ := O.look
  obtain ⟨mf, fr⟩ := I.fr
  refine PySem.W.in_K fr I.ok.mod.kin J hm.at_ hm.fn (wpAny_mono (wpAny_call (run_fnAt (us := [.ref a, v]) (ws := [.ref a, x]) F hb hr I.env0 hx I (.cons rfl (.cons rx .nil)) q)) (fun w s' z => ?_) fun _ _ x => x)
  obtain ⟨z', H', I', rz, b, eb, qz⟩ := z
  subst eb
  cases (show w = Value.bool b from rz)
  exact wpAny_pure ⟨.bl b, H', I', rfl, qz⟩
theorem op_notInOwn (D : MethOk X.prog X.w X.K X.mg X.base CX n C "__contains__" ps sp) (hr : Room n X.A) (hx : Passes CX X E) : OpR X (compareOp .NotIn) (rNiOwn C sp E) := by
  obtain ⟨f, fd, hm, hb, F⟩ := D
  intro pins s σ H x y v u Q I rx ry h
  obtain ⟨a, dx, fs, rfl, hsl, q⟩ := h
  cases (show u = Value.ref a from ry)
  obtain ⟨mA, O, _⟩ := ins_get I.hok hsl
  obtain ⟨od, J, _⟩ := O.look
  obtain ⟨mf, fr⟩ := I.fr
  refine PySem.W.notIn_K fr I.ok.mod.kin J hm.at_ hm.fn (wpAny_mono (wpAny_call (run_fnAt (us := [.ref a, v]) (ws := [.ref a, x]) F hb hr I.env0 hx I (.cons rfl (.cons rx .nil)) q)) (fun w s' z => ?_) fun _ _ x => x)
  obtain ⟨z', H', I', rz, b, eb, qz⟩ := z
  subst eb
  cases (show w = Value.bool b from rz)
  exact wpAny_pure ⟨.bl (!b), H', I', rfl, qz⟩
end
end L2
set_option maxHeartbeats 4000000
/-! x == y, two instances of a class with an own __eq__, any answer -/
namespace L2
open PySem PySem.Spec PyProof.Rows
section
variable {X : Cx} {CX : CXT} {C : Addr} {ps : List Str} {n : Nat} {sp : Sp} {E : XK}
def rEqOwn (C : Addr) (sp : Sp) (E : XK) : R2 := fun x y H Q => ∃ a b dx dy fs gs, x = V.ref a ∧ y = V.ref b ∧ H a = some (.ins C dx fs) ∧ H b = some (.ins C dy gs) ∧ sp [.ref a, .ref b] H (fun z H' => ∃ k, z = .bl k ∧ Q (.bl k) H') E
theorem op_eqOwn (D : MethOk X.prog X.w X.K X.mg X.base CX n C "__eq__" ps sp) (hr : Room n X.A) (hx : Passes CX X E) : OpR X (compareOp .Eq) (rEqOwn C sp E) := by
  obtain ⟨f, fd, hm, hb, F⟩ := D
  intro pins s σ H x y v u Q I rx ry h
  obtain ⟨a, b, dx, dy, fs, gs, rfl, rfl, ha, hb', q⟩ := h
  cases (show v = Value.ref a from rx)
  cases (show u = Value.ref b from ry)
  obtain ⟨mA, J, _⟩ := ins_get I.hok ha
  obtain ⟨mB, J', _⟩ := ins_get I.hok hb'
  obtain ⟨od, J, _⟩ := J.look
  obtain ⟨od', J', _⟩ := J'.look
  obtain ⟨m, hF⟩ := I.fr
  show wpAny (model X.prog X.w) X.A (richCompare .Eq (.ref a) (.ref b)) (EP X pins σ Q) X.xe s
  refine PySem.W.cmp_K (op := .Eq) (tb := .ref C) hr.units0 hF I.ok.mod.kin J J'.type (by simp [PySem.W.notFirst]) hm.at_ hm.fn (wpAny_mono (wpAny_call (run_fnAt (us := [.ref a, .ref b]) (ws := [.ref a, .ref b]) F hb hr I.env0 hx I (.cons rfl (.cons rfl .nil)) q)) (fun w s' z => ?_) fun _ _ x => x)
  obtain ⟨z', H', I', rz, k, ek, qz⟩ := z
  subst ek
  cases (show w = Value.bool k from rz)
  exact ⟨.bl k, H', I', rfl, qz⟩
end
end L2
set_option maxHeartbeats 4000000
/-! Texts of tuples: what a def promises where no repr is under way (A.guards = some []). fn_ofG and law_callG are the library's fn_of and law_call with that one more premise. -/
namespace L2
open PySem PySem.Spec PyProof.Rows
structure FnOkG (P : Program) (w : World) (K : PySem.W.Frag) (mg : Str → Option Value) (base : Heap) (CX : CXT) (k : Nat) (f : Addr) (fd : FuncData) (ps : List Str) (sp : Sp) : Prop where
  len : ∀ vs H Q E, sp vs H Q E → vs.length = ps.length
  run : ∀ (A : Around) (outer : List Env) (s : Shared) (H : Hp) (args : Args) (us : List Value) (vs : List V) (Q : VK) (E : XK), A.guards = some [] → Room k A → Env0 P w K mg base A outer s H → BindsTo s fd args (ps.zip us) → Vals vs us → sp vs H Q E →
    codeAny (model P w) A (.call (.ref f) args) (CR CX outer P w H s Q E) s
theorem deeper_guards {A : Around} {env : Env} (h : A.guards = some []) : (A.deeper env).guards = some [] := h
theorem fn_ofG {CX : CXT} {P : Program} {w : World} {K : PySem.W.Frag} {mg : Str → Option Value} {base : Heap} {k : Nat} {f : Addr} {name qual : Str} {params : Arguments} {body : List Stmt} {scope : Scope} {dV kV doc pm cdv ct oc : Value} {an od : Option Addr}
    {osl : Array (Option Value)} {N ps : List Str} {sp : Sp} (lk : K.lookup f = some ⟨oc, od, .func (PySem.W.fnOf name qual params body scope dV kV doc pm an cdv ct), osl⟩) (hcd : PySem.W.codeIn K cdv qual = true) (S : FnScope N ps scope)
    (len : ∀ vs H Q E, sp vs H Q E → vs.length = ps.length)
    (hbody : ∀ (A : Around) (outer : List Env) (s : Shared) (H : Hp) (vs : List V) (Q : VK) (E : XK), (A.deeper (envOfC qual scope s.heap.objs.size f cdv)).guards = some [] → Room k (A.deeper (envOfC qual scope s.heap.objs.size f cdv)) → sp vs H Q E →
      ∃ t, PSs (cxOf CX P w K mg base N qual scope f cdv A outer s H E) body t ∧ t { nx := fun _ H' => Q .non H', rt := Q } (start N vs) H) :
    FnOkG P w K mg base CX (k + 1) f (PySem.W.fnOf name qual params body scope dV kV doc pm an cdv ct) ps sp := by
  refine ⟨len, fun A outer s H args us vs Q E hg hr e0 hb r hsp => ?_⟩
  have hl := len _ _ _ _ hsp
  have KX : K.In s.heap := e0.mod.kin.keeps fun b o e => (e0.bs b o e).1
  have lim : s.heap.NoLimit := e0.mod.nolimit.keeps fun b o e => (e0.bs b o e).1
  have hkind : ∀ y ∈ ps.zip us, scope.names.lookup y.1 = some .local ∨ (scope.names.lookup y.1 = some .cell ∧ ((cellsFrom (s.heap.objs.size + 1) scope.names []).lookup y.1).isSome = true) := fun ⟨n, v⟩ hy => by
    rcases S.par n (List.of_mem_zip hy).1 with q | q
    · exact .inl q
    · exact .inr ⟨q, PySem.W.cellsFrom_some _ _ _ (.inl q)⟩
  refine codeAny_call_function hr.depth (KX _ _ lk) rfl S.co S.gen rfl (PySem.W.codeRec_of KX hcd) (hb _ _ _ _ ?_)
  refine wpAny_newFunctionEnv_cells S.kind hkind fun env he s1 x => ?_
  subst he
  refine ⟨lim.keeps x.toInCall.keep, codeAny_func ?_⟩
  obtain ⟨t, ht, hq⟩ := hbody A outer s H vs Q E hg (hr.deeper _) hsp
  have I : Inv (cxOf CX P w K mg base N qual scope f cdv A outer s H E) [] (start N vs) H s1 := inv_start S hr.hd e0 hl r x
  refine wpAny_mono (ht.run [] s1 (start N vs) H _ I hq) (fun fl s' hs => ?_) fun e s' hs => hs
  have fin : ∀ {σ' : St} {H' : Hp} {v : V} {u : Value}, Inv (cxOf CX P w K mg base N qual scope f cdv A outer s H E) [] σ' H' s' → RelV v u → Q v H' → CE outer P w H s Q u s' :=
    fun {σ' H' v u} J rv q => ⟨v, H', J.os, J.bare, J.base, J.hok, rv, q⟩
  cases fl with
  | ret u =>
    obtain ⟨v, σ', H', J, rv, q⟩ := hs
    exact fin J rv q
  | next =>
    obtain ⟨σ', H', J, q⟩ := hs
    exact fin (v := V.non) (u := Value.none) J rfl q
  | brk =>
    obtain ⟨_, _, _, q⟩ := hs
    exact False.elim q
  | cont =>
    obtain ⟨_, _, _, q⟩ := hs
    exact False.elim q
theorem law_callG {P : Program} {w : World} {K : PySem.W.Frag} {mg mb : Str → Option Value} {CX : CXT} {k : Nat} {fa a : Addr} {fd : FuncData} {x : Str} {sp : Sp} {s₁ : Shared} {vs : List Value} {ns : List Int}
    (KX : K.In s₁.heap) (hns : s₁.heap.Ns mainGlobals mg) (hb : s₁.heap.Ns builtinsNs mb) (hbb : ∀ x : Str, x ≠ "__name__" → mb x = bootBuiltins x) (hlim : s₁.heap.NoLimit) (hg : s₁.gens = #[])
    (ha : s₁.heap.get? a = some { cls := .type "list", data := .seq vs.toArray }) (hi : IntsAre vs ns) (hl : ns.length ≤ sizeLine) (hr : Room k callerA)
    (F : ∀ base : Heap, K.In base → base.Ns mainGlobals mg → FnOkG P w K mg base CX k fa fd [x] sp) (hbind : ∀ (s : Shared) (u : Value), BindsTo s fd ⟨[u], []⟩ [(x, u)])
    (hsp : ∀ H : Hp, Only H → SqL K H a (ns.map V.int) → sp [.ref a] H (fun v _ => v = .bl true) fun _ _ _ => False)
    (hCX : ∀ H e s', CX [] H s₁ (fun _ _ _ => False) e s' → False) :
    codeAny (model P w) callerA (.call (.ref fa) ⟨[.ref a], []⟩) (fun r s' => r = .ok (.ret (.bool true)) ∧ OldK s₁.heap s'.heap ∧ s'.os = s₁.os ∧ AllBare s'.gens) s₁ := by
  have rv := vals_ints hi
  have lenV := hi.length
  -- from an abstract heap in which nothing but the script may be tracked
  have core : ∀ H : Hp, Only H → SqL K H a (ns.map V.int) → HOk P w H s₁.heap → (∀ b, H b ≠ none → b = a) → (H a ≠ none → K.lookup a = none) →
      codeAny (model P w) callerA (.call (.ref fa) ⟨[.ref a], []⟩) (fun r s' => r = .ok (.ret (.bool true)) ∧ OldK s₁.heap s'.heap ∧ s'.os = s₁.os ∧ AllBare s'.gens) s₁ := by
    intro H hO hS hok hA hK
    have base_of : ∀ {b : Addr} {o : Obj}, s₁.heap.get? b = some o → H b = none → (hidT s₁.heap H).get? b = some o := fun e n => hidT_get e n
    have noA : ∀ {b : Addr} {o : Obj} {es : Array DictEntry} {ep : Nat}, s₁.heap.get? b = some o → o.data = .dict es ep → H b = none := fun {b o es ep} e d => by
      cases q : H b with
      | none => rfl
      | some u =>
        have e' : b = a := hA b (by rw [q]; simp)
        subst e'
        rw [ha] at e; cases e
        have d' : Data.seq vs.toArray _ = Data.dict es ep := d
        cases d'
    have nsK : ∀ {b : Addr} {m : Str → Option Value}, s₁.heap.Ns b m → (hidT s₁.heap H).Ns b m := fun {b m} ⟨o, es, ep, e, d, r⟩ => ⟨o, es, ep, base_of e (noA e d), d, r⟩
    have hKb : K.In (hidT s₁.heap H) := fun b o e => base_of (KX b o e) (by
      cases q : H b with
      | none => rfl
      | some u =>
        have e' : b = a := hA b (by rw [q]; simp)
        subst e'
        rw [hK (by rw [q]; simp)] at e; cases e)
    have hM : Mod K mg (hidT s₁.heap H) := ⟨hKb, nsK hns, ⟨mb, nsK hb, hbb⟩, let ⟨mc, h1, h2⟩ := hlim; ⟨mc, nsK h1, h2⟩⟩
    have e0 : Env0 P w K mg (hidT s₁.heap H) callerA [] s₁ H := ⟨rfl, hM, fun b o e => of_hidT e, Nat.le_of_eq (hidT_size _ _), trivial, fun b hb => absurd (show b ∈ ([] : List Addr) from hb) (by simp), hok, .of_eq hg⟩
    refine codeAny_mono ((F _ hKb (nsK hns)).run callerA [] s₁ H ⟨[.ref a], []⟩ [.ref a] [.ref a] _ _ rfl hr e0 (hbind s₁ (.ref a)) (.cons rfl .nil) (hsp H hO hS)) fun r s' h => ?_
    cases r with
    | error e => exact (hCX H e s' h).elim
    | ok fl =>
      cases fl with
      | next => exact False.elim h
      | brk => exact False.elim h
      | cont => exact False.elim h
      | ret u =>
        obtain ⟨v, H', os, bare, un, hok', r', q⟩ := h
        have q' : v = .bl true := q
        subst q'
        obtain rfl : u = Value.bool true := r'
        refine ⟨rfl, OldK.of_keep fun b o e => ?_, os, bare⟩
        cases q : H b with
        | none => exact un.keep b o e q (by intro z; exact absurd (show b ∈ ([] : List Addr) from z) (by simp)) (by simp)
        | some u =>
          rcases hO b with z | ⟨ob, xs, z⟩
          · rw [q] at z; cases z
          · have z2 := un.frzs b ob _ z
            obtain ⟨e1, _⟩ := hok b _ z
            obtain ⟨e2, _⟩ := hok' b _ z2
            rw [e] at e1; cases e1
            exact e2
  cases hk : K.lookup a with
  | some o =>
    -- the script is one of the module's own objects
    have e := KX a o hk
    rw [ha] at e
    cases e
    refine core (fun _ => none) (fun _ => .inl rfl) (.inr ⟨_, vs.toArray, _, hk, rfl, rfl, rfl, by rw [List.size_toArray, lenV]; exact hl, by simpa using rv⟩) (fun b u z => by have z' : (none : Option HO) = some u := z; cases z') (fun b z => absurd rfl z) fun z => absurd rfl z
  | none =>
    refine core (fun b => if b = a then some (.frz { cls := .type "list", data := .seq vs.toArray } (.lst (ns.map V.int))) else none) (fun b => ?_) (.inl (.inr ⟨{ cls := .type "list", data := .seq vs.toArray }, if_pos rfl⟩)) (fun b u z => ?_) (fun b z => ?_) fun _ => hk
    · by_cases hb : b = a
      · exact .inr ⟨_, _, if_pos hb⟩
      · exact .inl (if_neg hb)
    · by_cases hb : b = a
      · have z' := (if_pos hb).symm.trans z
        cases z'
        subst hb
        exact ⟨ha, by rw [List.length_map]; exact hl, vs, _, rv, ha⟩
      · have z' := (if_neg hb).symm.trans z
        cases z'
    · by_cases hb : b = a
      · exact hb
      · exact absurd (if_neg hb) z
theorem walk_ofKG {l : PySem.W.OpenLaw} {n k : Nat} {q : Program} {loose : List Str} {XP : (Str → Option Value) → Heap → Prop} {YP : World → Heap → Prop} {d : DefRec} {K : Params → PySem.W.Frag} {CX : CXT} {sp : PySem.W.Frag → Sp} {x : Str}
    (hn : l.most = some n) (hn2 : n ≤ sizeLine) (hdf : d.params.defaults = []) (hr : Room k callerA)
    (hY : ∀ (w : World) (h : Heap), YP w h → (K w.params).In h)
    (F : ∀ (w : World) (mg : Str → Option Value) (fa : Addr) (h : Heap), (K w.params).In h → h.Ns mainGlobals mg → mg d.name = some (.ref fa) →
      ∃ fd : FuncData, (∀ (s : Shared) (u : Value), BindsTo s fd ⟨[u], []⟩ [(x, u)]) ∧
        ∀ base : Heap, (K w.params).In base → base.Ns mainGlobals mg → FnOkG l.prog w (K w.params) mg base CX k fa fd [x] (sp (K w.params)))
    (hsp : ∀ (K : PySem.W.Frag) (H : Hp) (a : Addr) (ns : List Int), ns.length ≤ n → Only H → SqL K H a (ns.map V.int) → sp K [.ref a] H (fun v _ => v = .bl true) fun _ _ _ => False)
    (hCX : ∀ (H : Hp) (s : Shared) (e : Value) (s' : Shared), CX [] H s (fun _ _ _ => False) e s' → False) :
    PySem.W.WalkO q loose XP YP l.row.toRowW d [] (fun f vs => PySem.call f vs) := by
  refine Att.attach_call hn hdf fun w s₀ s₁ mg mb fa o pm cd doc a vs ns G Y ho hd hcd hmg hobj hints hlen hg => ?_
  have KX := hY w _ Y
  obtain ⟨fd, hb, hF⟩ := F w mg fa _ KX G.T.g hmg
  exact law_callG KX G.T.g G.T.b G.T.builtins G.T.nolimit hg hobj hints (Nat.le_trans hlen hn2) hr hF hb (fun H hO hS => hsp (K w.params) H a ns hlen hO hS) fun H e s' => hCX H s₁ e s'
def DefOkG (P : Program) (w : World) (K : PySem.W.Frag) (mg : Str → Option Value) (base : Heap) (CX : CXT) (k : Nat) (x : Str) (ps : List Str) (sp : Sp) : Prop :=
  ∃ f fd, mg x = some (.ref f) ∧ PySem.W.keepIn K (.ref f) = true ∧ Binds K fd ps [] ∧ FnOkG P w K mg base CX k f fd ps sp
def MethOkG (P : Program) (w : World) (K : PySem.W.Frag) (mg : Str → Option Value) (base : Heap) (CX : CXT) (k : Nat) (C : Addr) (m : Str) (ps : List Str) (sp : Sp) : Prop :=
  ∃ f fd, Meth K C m f ∧ Binds K fd ps [] ∧ FnOkG P w K mg base CX k f fd ps sp
section
variable {P : Program} {w : World} {K : PySem.W.Frag} {mg : Str → Option Value} {base : Heap}
theorem Fun.okG {x qual : Str} {st : Stmt} {f : Addr} {fd : FuncData} {N ps : List Str} {k : Nat} {sp : Sp} (F : Fun K x qual st f fd) (S : FnScope N ps (defScope st)) (len : ∀ vs H Q E, sp vs H Q E → vs.length = ps.length)
    (hbody : ∀ (cdv : Value) (A : Around) (outer : List Env) (s : Shared) (H : Hp) (vs : List V) (Q : VK) (E : XK), (A.deeper (envOfC qual (defScope st) s.heap.objs.size f cdv)).guards = some [] → Room k (A.deeper (envOfC qual (defScope st) s.heap.objs.size f cdv)) → sp vs H Q E →
      ∃ t, PSs (cxOf CX0 P w K mg base N qual (defScope st) f cdv A outer s H E).nox (defBody st) t ∧ t { nx := fun _ H' => Q .non H', rt := Q } (start N vs) H) : FnOkG P w K mg base CX0 (k + 1) f fd ps sp := by
  obtain ⟨oc, od, kV, doc, pm, an, cdv, ct, osl, rfl, lk, hcd⟩ := F.ex
  refine fn_ofG lk hcd S len fun A outer s H vs Q E hg hr hsp => ?_
  obtain ⟨t, h, q⟩ := hbody cdv A outer s H vs Q E hg hr hsp
  exact ⟨t, h.nox, q⟩
theorem Df.okG {x : Str} {st : Stmt} {N ps : List Str} {k : Nat} {sp : Sp} (D : Df K mg x st) (S : FnScope N ps (defScope st))
    (bd : ∀ (kV doc pm : Value) (an : Option Addr) (cdv ct : Value) (us : List Value), us.length = ps.length → bindArgs (PySem.W.fnOf x x (defArgs st) (defBody st) (defScope st) .none kV doc pm an cdv ct) ⟨us, []⟩ = pure (ps.zip us))
    (len : ∀ vs H Q E, sp vs H Q E → vs.length = ps.length)
    (hbody : ∀ (f : Addr) (cdv : Value) (A : Around) (outer : List Env) (s : Shared) (H : Hp) (vs : List V) (Q : VK) (E : XK), (A.deeper (envOfC x (defScope st) s.heap.objs.size f cdv)).guards = some [] → Room k (A.deeper (envOfC x (defScope st) s.heap.objs.size f cdv)) → sp vs H Q E →
      ∃ t, PSs (cxOf CX0 P w K mg base N x (defScope st) f cdv A outer s H E).nox (defBody st) t ∧ t { nx := fun _ H' => Q .non H', rt := Q } (start N vs) H) : DefOkG P w K mg base CX0 (k + 1) x ps sp := by
  obtain ⟨f, fd, F, hm⟩ := D
  exact ⟨f, fd, hm, F.kp, F.binds bd, F.okG S len (hbody f)⟩
theorem Dm.okG {C : Addr} {x qual : Str} {st : Stmt} {N ps : List Str} {k : Nat} {sp : Sp} (D : Dm K C x qual st) (S : FnScope N ps (defScope st))
    (bd : ∀ (kV doc pm : Value) (an : Option Addr) (cdv ct : Value) (us : List Value), us.length = ps.length → bindArgs (PySem.W.fnOf x qual (defArgs st) (defBody st) (defScope st) .none kV doc pm an cdv ct) ⟨us, []⟩ = pure (ps.zip us))
    (len : ∀ vs H Q E, sp vs H Q E → vs.length = ps.length)
    (hbody : ∀ (f : Addr) (cdv : Value) (A : Around) (outer : List Env) (s : Shared) (H : Hp) (vs : List V) (Q : VK) (E : XK), (A.deeper (envOfC qual (defScope st) s.heap.objs.size f cdv)).guards = some [] → Room k (A.deeper (envOfC qual (defScope st) s.heap.objs.size f cdv)) → sp vs H Q E →
      ∃ t, PSs (cxOf CX0 P w K mg base N qual (defScope st) f cdv A outer s H E).nox (defBody st) t ∧ t { nx := fun _ H' => Q .non H', rt := Q } (start N vs) H) : MethOkG P w K mg base CX0 (k + 1) C x ps sp := by
  obtain ⟨f, fd, F, hm⟩ := D
  exact ⟨f, fd, hm, F.binds bd, F.okG S len (hbody f)⟩
end
section
variable {X : Cx} {CX : CXT} {pins : List (Addr × Obj)} {σ : St} {H : Hp} {s : Shared} {C : Addr} {ps : List Str} {m x : Str} {n k : Nat} {sp : Sp} {E : XK} {p pos : Pos} {e : Expr} {es : List Expr} {t : TA} {te : TE}
theorem run_fnAtG {A : Around} {Q : VK} {g : Addr} {fd : FuncData} {us : List Value} {ws : List V} (F : FnOkG X.prog X.w X.K X.mg X.base CX n g fd ps sp) (hb : Binds X.K fd ps []) (hg : A.guards = some []) (hr : Room n A) (e0 : Env0 X.prog X.w X.K X.mg X.base A X.stack s H) (hx : Passes CX X E) (I : Inv X pins σ H s) (r : Vals ws us) (h : sp ws H Q E) :
    codeAny (model X.prog X.w) A (.call (.ref g) ⟨us, []⟩) (fun r s' => match r with | .ok (.ret v) => EP X pins σ Q v s' | .ok _ => False | .error e => X.xe e s') s := by
  have hl : us.length = ps.length := by rw [← r.length]; exact F.len _ _ _ _ h
  have b := hb s us I.kIn (by rw [List.append_nil]; exact hl)
  rw [List.append_nil] at b
  refine codeAny_mono (F.run A X.stack s H ⟨us, []⟩ us ws Q E hg hr e0 b r h) fun r s' hq => ?_
  cases r with
  | error e => exact hx pins σ H s e s' I hq
  | ok fl =>
    cases fl with
    | ret u => exact I.after hq
    | next => exact False.elim hq
    | brk => exact False.elim hq
    | cont => exact False.elim hq
theorem pe_callDG (D : DefOkG X.prog X.w X.K X.mg X.base CX k x ps sp) (hgd : X.A.guards = some []) (hr : Room k X.A) (hx : Passes CX X E) (ha : PA X (e :: es) t) (hg : Gl X x := by rfl) (hdb : (x == ("__debug__" : Str)) = false := by decide)
    (he : starEach (e :: es) X.env = (false, eval e X.env) :: starEach es X.env := by rfl) (hpl : (backTo pos (starEach es X.env)).any (·.1) = false := by rfl) :
    PE X (.Call (.Name x p) (e :: es) [] pos) (tCallD sp E t) := by
  obtain ⟨f, fd, hm, hk, hb, F⟩ := D
  refine ⟨fun pins s σ H Q I h => ?_⟩
  refine wpAny_Call_Name_kw (ld_glob I hg hm ?_ hdb)
  refine PySem.W.callWith_K (h₀ := X.base) I.ok.mod.kin hk (thn (ha.run pos pins s σ H _ I h) fun us s1 ⟨vs, H1, I1, r, q⟩ => ⟨I1.kIn, ?_⟩) he hpl
  exact wpAny_call (run_fnAtG F hb hgd hr I1.env0 hx I1 r q)
/-- str(x) of an instance with an own __str__ -/
def rStrOwn (C : Addr) (sp : Sp) (E : XK) : List V → Hp → VK → Prop := fun xs H Q => ∃ a dx fs, xs = [V.ref a] ∧ H a = some (.ins C dx fs) ∧ sp [.ref a] H (fun z H' => ∃ b, z = .str b ∧ Q z H') E
theorem call_strOwn (D : MethOkG X.prog X.w X.K X.mg X.base CX n C "__str__" ps sp) (hgd : X.A.guards = some []) (hr : Room (n + 2) X.A) (hx : Passes CX X E) : CallR X (.type "str") (rStrOwn C sp E) := by
  obtain ⟨f, fd, hm, hb, F⟩ := D
  intro pins s σ H xs us Q I r h
  obtain ⟨a, dx, fs, rfl, hsl, q⟩ := h
  obtain ⟨u, rfl, ru⟩ := r.one
  cases (show u = Value.ref a from ru)
  obtain ⟨mA, O, _⟩ := ins_get I.hok hsl
  obtain ⟨od, J, _⟩ := O.look
  have hr2 : Room n X.A.in1.in1 := (show Room (n + 1) X.A.in1 from Room.in1 hr).in1
  have hu : X.A.in1.in1.units < cLine := by have := hr2.un; omega
  refine PySem.W.kso_call hu I.kIn J hm.at_ hm.fn (wpAny_mono (wpAny_call (run_fnAtG (us := [.ref a]) (ws := [.ref a]) F hb hgd hr2 I.env0.in1.in1 hx I (.cons rfl .nil) q)) (fun w s' z => ?_) fun _ _ x => x)
  obtain ⟨z', H', I', rz, b, eb, qz⟩ := z
  subst eb
  obtain ⟨tk, rfl⟩ := (show ∃ tk, w = Value.str b tk from rz)
  exact ⟨.str b, H', I', ⟨tk, rfl⟩, qz⟩
/-- str(t), t read as data -/
def rStrD (K : PySem.W.Frag) : List V → Hp → VK → Prop := fun xs H Q => ∃ (a : Addr) (d : PyData), xs = [V.ref a] ∧ Dp K H (.ref a) d ∧ d.showable = true ∧ d.hasDict = false ∧ d.depth ≤ 32 ∧ d.shown.length ≤ sizeLine ∧ Q (.str d.shown) H
theorem call_strD (hgd : X.A.guards = some []) (hr : Room n X.A) : CallR X (.type "str") (rStrD X.K) := by
  intro pins s σ H xs us Q I r h
  obtain ⟨a, d, rfl, hd, h1, h2, h3, h4, q⟩ := h
  obtain ⟨u, rfl, ru⟩ := r.one
  cases (show u = Value.ref a from ru)
  obtain ⟨as, rd⟩ := Dp.reads I d _ _ hd rfl
  have hu := hr.units
  exact str_of_reads rd h1 (fun z => by rw [h2] at z; cases z) hgd (by omega) (fun b o e => e) (fun h' u tk hk => ⟨.str d.shown, H, I.kept hk, ⟨u, rfl⟩, q⟩) h4
/-- {t} in an f-string, t read as data -/
def tFmtD (K : PySem.W.Frag) (te : TE) : TE := fun σ H Q => te σ H fun x H1 => ∃ (a : Addr) (d : PyData), x = .ref a ∧ Dp K H1 (.ref a) d ∧ d.showable = true ∧ d.hasDict = false ∧ d.depth ≤ 32 ∧ d.shown.length ≤ sizeLine ∧ Q (.str d.shown) H1
theorem pe_fmtD (hgd : X.A.guards = some []) (hr : Room n X.A) (he : PE X e te) : PE X (.FormattedValue e (-1) none pos) (tFmtD X.K te) := by
  refine ⟨fun pins s σ H Q I h => ?_⟩
  refine wpAny_FormattedValue_plain (thn (he.run pins s σ H _ I h) fun v s1 hv => ?_)
  obtain ⟨x, H1, I1, r1, a, d, rfl, hd, h1, h2, h3, h4, q⟩ := hv
  cases r1
  obtain ⟨as, rd⟩ := Dp.reads I1 d _ _ hd rfl
  have hu := hr.units
  exact formatField_of_reads rd h1 (fun z => by rw [h2] at z; cases z) hgd (by omega) (fun b o e => e) (fun h' u tk hk => ⟨.str d.shown, H1, I1.kept hk, ⟨u, rfl⟩, q⟩) h4
end
end L2
set_option maxHeartbeats 4000000
/-! repr(x), x read as data -/
namespace L2
open PySem PySem.Spec PyProof.Rows Lf
section
variable {X : Cx} {n : Nat}
def rReprD (K : PySem.W.Frag) : List V → Hp → VK → Prop := fun xs H Q => ∃ (v : V) (d : PyData), xs = [v] ∧ Dp K H v d ∧ d.showable = true ∧ d.hasDict = false ∧ d.depth ≤ 32 ∧ d.shown.length ≤ sizeLine ∧ Q (.str d.shown) H
theorem call_reprD (hgd : X.A.guards = some []) (hr : Room n X.A) : CallR X (.builtin "repr") (rReprD X.K) := by
  intro pins s σ H xs us Q I r h
  obtain ⟨v, d, rfl, hd, h1, h2, h3, h4, q⟩ := h
  obtain ⟨u, rfl, ru⟩ := r.one
  have hu := hr.units
  cases hd with
  | non =>
    cases ru
    exact PySem.P.repr_of_none ⟨.str _, H, I.tok _, ⟨_, rfl⟩, q⟩
  | bl b =>
    cases ru
    exact PySem.P.repr_of_bool ⟨.str _, H, I.tok _, ⟨_, rfl⟩, q⟩
  | int i =>
    obtain ⟨t, rfl⟩ := ru
    exact PySem.P.repr_of_int (of_decide_eq_true h1) ⟨.str _, H, I.tok _, ⟨_, rfl⟩, q⟩
  | str x =>
    obtain ⟨t, rfl⟩ := ru
    exact PySem.P.repr_of_str ⟨.str _, H, I.tok _, ⟨_, rfl⟩, q⟩ h4
  | lst a b =>
    cases ru
    obtain ⟨as, rd⟩ := Dp.reads I _ _ _ (Dp.lst a b) rfl
    exact repr_of_reads' rd h1 (fun z => by rw [h2] at z; cases z) hgd (by omega) (fun b o e => e) (fun h' u tk hk => ⟨.str _, H, I.kept hk, ⟨u, rfl⟩, q⟩) h4
  | tup a b =>
    cases ru
    obtain ⟨as, rd⟩ := Dp.reads I _ _ _ (Dp.tup a b) rfl
    exact repr_of_reads' rd h1 (fun z => by rw [h2] at z; cases z) hgd (by omega) (fun b o e => e) (fun h' u tk hk => ⟨.str _, H, I.kept hk, ⟨u, rfl⟩, q⟩) h4
end
end L2
namespace Lf
open PySem L2 Evl
/-! data without dicts, as the layer's own reading -/
mutual
def flatD : PyData → Bool
  | .list ds => flatDs ds
  | .tuple ds => flatDs ds
  | .dict _ => false
  | _ => true
def flatDs : List PyData → Bool
  | [] => true
  | d :: ds => flatD d && flatDs ds
end
mutual
theorem Da.dp {K : PySem.W.Frag} {H : Hp} : ∀ (d : PyData) (v : V), Da H v d → flatD d = true → Dp K H v d
  | .none, _, h, _ => by cases h; exact .non
  | .bool b, _, h, _ => by cases h; exact .bl _
  | .int i, _, h, _ => by cases h; exact .int _
  | .str s, _, h, _ => by cases h; exact .str _
  | .list ds, _, h, f => by cases h with | lst e ha => exact .lst (SqL.of e) (DaAll.dp ds _ ha (by rw [flatD] at f; exact f))
  | .tuple ds, _, h, f => by cases h with | tup e ha => exact .tup (SqT.of e) (DaAll.dp ds _ ha (by rw [flatD] at f; exact f))
  | .dict _, _, _, f => by rw [flatD] at f; cases f
theorem DaAll.dp {K : PySem.W.Frag} {H : Hp} : ∀ (ds : List PyData) (vs : List V), DaAll H vs ds → flatDs ds = true → DpAll K H vs ds
  | [], _, h, _ => by cases h; exact .nil
  | d :: ds, _, h, f => by cases h with | cons h t => rw [flatDs, Bool.and_eq_true] at f; exact .cons (Da.dp d _ h f.1) (DaAll.dp ds _ t f.2)
end
section
variable {K : PySem.W.Frag} {σ : L2.St} {G : Hp} {ta tb te : TE} {d e : PyData}
/-- repr(x) -/
theorem ev_repr (h : EvD te σ G d) (f : flatD d = true) (h1 : d.showable = true) (h2 : d.hasDict = false) (h3 : d.depth ≤ 32) (h4 : d.shown.length ≤ sizeLine) : Ev (tCB (rReprD K) (tCons te tNil)) σ G (.str d.shown) := fun H1 x Q q => h G H1 (Ex.refl _) x _ fun v G2 H2 r hd =>
  ⟨v, d, rfl, Da.dp d v (hd.up r.s) f, h1, h2, h3, h4, q H2 r.h⟩
theorem ev_reprB {b : Bool} (h : Ev te σ G (.bl b)) : Ev (tCB (rReprD K) (tCons te tNil)) σ G (.str (if b then "True" else "False")) := by
  cases b with
  | true => exact ev_repr (evd_bl h) rfl rfl rfl (by decide) (by decide)
  | false => exact ev_repr (evd_bl h) rfl rfl rfl (by decide) (by decide)
/-- x == y of data without dicts -/
theorem ev_eqD (ha : EvD ta σ G d) (hb : EvD tb σ G e) (f : flatD d = true) (f2 : flatD e = true) (s1 : SeqAt.shaped d = true) (s2 : SeqAt.shaped e = true) : Ev (tOp (rEqD K) ta tb) σ G (.bl (PyData.eqv d e)) := fun H1 x Q q => ha G H1 (Ex.refl _) x _ fun v G2 H2 r hd => hb G2 H2 r.g r.s _ fun w G3 H3 r3 he =>
  ⟨d, e, Da.dp d v (hd.up (r3.g.trans r3.s)) f, Da.dp e w (he.up r3.s) f2, s1, s2, q H3 (r.h.trans r3.h)⟩
theorem ev_neD (ha : EvD ta σ G d) (hb : EvD tb σ G e) (f : flatD d = true) (f2 : flatD e = true) (s1 : SeqAt.shaped d = true) (s2 : SeqAt.shaped e = true) : Ev (tOp (rNeD K) ta tb) σ G (.bl (!PyData.eqv d e)) := fun H1 x Q q => ha G H1 (Ex.refl _) x _ fun v G2 H2 r hd => hb G2 H2 r.g r.s _ fun w G3 H3 r3 he =>
  ⟨d, e, Da.dp d v (hd.up (r3.g.trans r3.s)) f, Da.dp e w (he.up r3.s) f2, s1, s2, q H3 (r.h.trans r3.h)⟩
end
end Lf
set_option maxHeartbeats 4000000
/-! [e for x, y in zip(s, t)] of tuples of data; texts: ' '.join(l), t.split(' '); [*l, ..] -/
namespace Lf
open PySem L2 Evl
theorem walk_zipT {K : PySem.W.Frag} {a b : Addr} {xs ys : List V} {n : Nat} (hn : n = min xs.length ys.length) : Walk (RZ.ItzT K a b) n (fun H => SqT K H a xs ∧ SqT K H b ys) (YPair (fun i => xs[i]?) (fun i => ys[i]?)) := by
  subst hn
  refine ⟨fun i _ hi q => ?_, fun _ q => ⟨xs, ys, q.1, q.2, by omega⟩, fun i H v H' _ q y => ?_⟩
  · have h1 : i < xs.length := by omega
    have h2 : i < ys.length := by omega
    exact ⟨xs, ys, xs[i], ys[i], q.1, q.2, by simp [h1], by simp [h2]⟩
  · obtain ⟨T, x, z, h1, h2, h3, h4, h5⟩ := y
    exact ⟨T, x, z, h1, h2, h3, h4 xs q.1, h5 ys q.2⟩
theorem LcI.up {G1 H1 H' H2 : Hp} {D : Addr} {ds : List PyData} (I : LcI G1 H1 D H' ds) (x : Ex H' H2) : LcI G1 H1 D H2 ds := by
  obtain ⟨⟨G', ys, r, h1, h2, h3⟩, fr⟩ := I
  exact ⟨⟨G', ys, r.trans (Gr.keep r.s x), h1, x _ _ h2, h3⟩, fr⟩
section
variable {K : PySem.W.Frag} {σ : L2.St} {G : Hp} {ta tb te : TE} {ds es : List PyData}
theorem evd_lcZ {i j : Nat} {vs : List Nat} (f : PyData → PyData → PyData) (ha : EvD ta σ G (.tuple ds)) (hb : EvD tb σ G (.tuple es)) (hz : ds.length ≤ 50000) (hw : ∀ x y, wipe (((wipe σ vs).set i (some x)).set j (some y)) vs = wipe σ vs)
    (he : ∀ p ∈ ds.zip es, ∀ x y G1, Ex G G1 → Da G1 x p.1 → Da G1 y p.2 → EvD te (((wipe σ vs).set i (some x)).set j (some y)) G1 (f p.1 p.2)) :
    EvD (tLc (RZ.iZipA K (tCons ta (tCons tb tNil))) (gTup K 2 (gCons (gName i) (gCons (gName j) gNil))) tYes te vs) σ G (.list ((ds.zip es).map fun p => f p.1 p.2)) := fun G0 H0 x0 s0 Q q => ha G0 H0 x0 s0 _ fun v0 G1 H1 r1 hd1 => hb G1 H1 (x0.trans r1.g) r1.s _ fun v2 G2 H2 r2 hd2 => by
  obtain ⟨a, xs, rfl, ea, hs⟩ := (hd1.up r2.g).tup_
  obtain ⟨b, ys, rfl, eb, ht⟩ := hd2.tup_
  have r := r1.trans r2
  have hmin : (ds.zip es).length = min xs.length ys.length := by rw [List.length_zip, hs.len, ht.len]
  refine ⟨a, b, xs, ys, rfl, .inr ⟨SqT.of (r.s _ _ ea), SqT.of (r.s _ _ eb), fun D hD => lc_it (walk_zipT (n := (ds.zip es).length) hmin) (fun k H' => LcI G2 H2 D H' ((((ds.zip es).take k).filter fun _ => true).map fun p => f p.1 p.2)) (LcI.start r.s hD) (fun k H' _ I => ⟨SqT.of (I.sub _ _ ea), SqT.of (I.sub _ _ eb)⟩) ?_ ?_⟩⟩
  · rintro k x H' H'' hk I ⟨T, x1, y1, rfl, hT, rfl, e1, e2⟩
    obtain ⟨d1, hi1, hv1⟩ := hs.at e1
    obtain ⟨d2, hi2, hv2⟩ := ht.at e2
    have hp : (ds.zip es)[k]? = some (d1, d2) := by rw [List.getElem?_zip_eq_some]; exact ⟨hi1, hi2⟩
    have xT : Ex H' (upd H' T (.tup [x1, y1])) := Ex.new hT
    have I2 := I.up xT
    refine ⟨T, [x1, y1], rfl, SqT.of upd_same, rfl, x1, [y1], rfl, y1, [], rfl, rfl, hw x1 y1, ?_⟩
    exact I2.turn hp (by rw [List.length_zip]; omega) (et_yes (b := true)) (fun _ => he _ (List.mem_of_getElem? hp) x1 y1 G2 (x0.trans r.g) hv1 hv2) fun H3 I3 => I3
  · rintro H' I
    rw [List.take_length, List.filter_eq_self.mpr (fun _ _ => rfl)] at I
    obtain ⟨G3, r3, h3⟩ := I.done
    exact q (.ref D) G3 H' (r.trans r3) h3
end
end Lf
set_option maxHeartbeats 4000000
/-! for x in t: t a tuple or a list of data -/
namespace Lf
open PySem L2 Evl
section
variable {K : PySem.W.Frag} {σ : L2.St} {G H : Hp} {tl : TE} {g : TG} {tb tz : TS} {D : Ends} {ds : List PyData}
def LoopOk (g : TG) (tb tz : TS) (D : Ends) (σ : L2.St) (ds : List PyData) (G1 H1 : Hp) : Prop := ∃ Pv : Nat → L2.St → Hp → Prop, Pv 0 σ H1 ∧ (∀ i σ' H', Pv i σ' H' → Ex G1 H') ∧
  (∀ i d v σ' H', ds[i]? = some d → Da G1 v d → Pv i σ' H' → g v σ' H' fun σ2 H2 => tb { D with nx := Pv (i + 1), ct := Pv (i + 1), bk := tz D } σ2 H2) ∧ ∀ σ' H', Pv ds.length σ' H' → tz D σ' H'
theorem q_forT (s : Ex G H) (h : EvD tl σ G (.tuple ds)) (k : ∀ G1 H1, Gr G H G1 H1 → LoopOk g tb tz D σ ds G1 H1) : tSeq (tFor (iTup K tl) g tb) tz D σ H := h.go s fun v G1 H1 r hd => by
  obtain ⟨a, xs, rfl, ea, hs⟩ := hd.tup_
  obtain ⟨Pv, h0, hl, ht, hz⟩ := k G1 H1 r
  refine ⟨a, rfl, ⟨xs, SqT.of (r.s _ _ ea)⟩, for_tup (K := K) (a := a) (xs := xs) Pv h0 (fun i σ' H' _ p => SqT.of (hl i σ' H' p _ _ ea)) (fun i x σ' H' hx p => ?_) (fun σ' H' p => hz σ' H' (by rw [← hs.len]; exact p))⟩
  obtain ⟨d, hdi, hdv⟩ := hs.at hx
  exact ht i d x σ' H' hdi hdv p
theorem q_forL (s : Ex G H) (h : EvD tl σ G (.list ds)) (k : ∀ G1 H1, Gr G H G1 H1 → LoopOk g tb tz D σ ds G1 H1) : tSeq (tFor (iList K tl) g tb) tz D σ H := h.go s fun v G1 H1 r hd => by
  obtain ⟨a, xs, rfl, ea, hs⟩ := hd.lst_
  obtain ⟨Pv, h0, hl, ht, hz⟩ := k G1 H1 r
  refine ⟨a, rfl, ⟨xs, SqL.of (r.s _ _ ea)⟩, for_list (K := K) (a := a) (xs := xs) Pv h0 (fun i σ' H' _ p => SqL.of (hl i σ' H' p _ _ ea)) (fun i x σ' H' hx p => ?_) (fun σ' H' p => hz σ' H' (by rw [← hs.len]; exact p))⟩
  obtain ⟨d, hdi, hdv⟩ := hs.at hx
  exact ht i d x σ' H' hdi hdv p
end
end Lf
set_option maxHeartbeats 4000000
/-! Objects that are still written (lists, dicts, a wheel) beside a view of data that stays -/
namespace Lf
open PySem L2 Evl
inductive Lo
  | lst (ds : List PyData)
  | dic (ds : List (PyData × PyData))
  | whl (Lm : List V → Prop)
  | ins (C dx : Addr) (fs : List (Str × V))
def LoAt (G H : Hp) (p : Addr) : Lo → Prop
  | .lst ds => ∃ xs, H p = some (.lst xs) ∧ DaAll G xs ds
  | .dic ds => ∃ kvs, H p = some (.dK kvs) ∧ DaKvs G kvs ds
  | .whl Lm => ∃ xs, H p = some (.lst xs) ∧ Lm xs
  | .ins C dx fs => ∃ xs, H p = some (.ins C dx xs) ∧ xs = fs
def LoFit : Lo → HO → Hp → Prop
  | .lst ds, o, G => ∃ xs, o = .lst xs ∧ DaAll G xs ds
  | .dic ds, o, G => ∃ kvs, o = .dK kvs ∧ DaKvs G kvs ds
  | .whl Lm, o, _ => ∃ xs, o = .lst xs ∧ Lm xs
  | .ins C dx fs, o, _ => ∃ xs, o = .ins C dx xs ∧ xs = fs
theorem LoAt.some_ {G H : Hp} {p : Addr} {lo : Lo} (h : LoAt G H p lo) : H p ≠ none := by
  cases lo <;> (obtain ⟨_, e, _⟩ := h; rw [e]; exact fun z => by cases z)
theorem LoAt.up {G H G1 H1 : Hp} {p : Addr} {lo : Lo} (h : LoAt G H p lo) (x : Ex G G1) (e : ∀ o, H p = some o → H1 p = some o) : LoAt G1 H1 p lo := by
  cases lo with
  | lst ds => obtain ⟨xs, h1, h2⟩ := h; exact ⟨xs, e _ h1, h2.up x⟩
  | dic ds => obtain ⟨xs, h1, h2⟩ := h; exact ⟨xs, e _ h1, h2.up x⟩
  | whl Lm => obtain ⟨xs, h1, h2⟩ := h; exact ⟨xs, e _ h1, h2⟩
  | ins C dx fs => obtain ⟨xs, h1, h2⟩ := h; exact ⟨xs, e _ h1, h2⟩
theorem LoAt.new {G H : Hp} {p : Addr} {lo : Lo} {o : HO} (h : LoFit lo o G) : LoAt G (upd H p o) p lo := by
  cases lo <;> (obtain ⟨xs, rfl, h2⟩ := h; exact ⟨xs, upd_same, h2⟩)
/-- the state within a def: from (G0, H0) the view has grown to G, the heap to H; the objects Ls are still written; X may change -/
structure St (X : Addr → Prop) (G0 H0 G H : Hp) (Ls : List (Addr × Lo)) : Prop where
  h : ∀ a o, ¬ X a → H0 a = some o → H a = some o
  g : Ex G0 G
  s : Ex G H
  n : ∀ a, H0 a ≠ none → G0 a = none → G a = none
  t : ∀ a o, G a = some o → G0 a = some o ∨ dataO o = true
  x : ∀ a, X a → H a ≠ none
  l : ∀ q ∈ Ls, (X q.1 ∨ H0 q.1 = none) ∧ G q.1 = none ∧ LoAt G H q.1 q.2
  d : (Ls.map Prod.fst).Nodup
abbrev noX : Addr → Prop := fun _ => False
section
variable {X : Addr → Prop} {Lm : List V → Prop} {L p : Addr} {G0 H0 G H G1 H1 : Hp} {Ls B : List (Addr × Lo)} {lo lo2 : Lo} {o : HO} {a b c : Addr × Lo}
theorem St.pure (s : Ex G H) : St noX G H G H [] := ⟨fun _ _ _ h => h, Ex.refl _, s, fun _ _ h => h, fun _ _ h => .inl h, (fun _ h => h.elim), (fun q h => by cases h), List.nodup_nil⟩
theorem St.dr (w : At Lm L G H) : St (fun a => a = L) G H G H [(L, .whl Lm)] := ⟨fun _ _ _ h => h, Ex.refl _, w.s, fun _ _ h => h, fun _ _ h => .inl h, (fun a e => by rw [e]; exact w.some_), (fun q h => by
  cases List.mem_singleton.mp h
  exact ⟨.inl rfl, w.f, w.l⟩), by simp⟩
theorem St.stay (S : St X G0 H0 G H Ls) {a : Addr} (h : H0 a ≠ none) : H a ≠ none := by
  by_cases x : X a
  · exact S.x a x
  · cases e : H0 a with
    | none => exact absurd e h
    | some o => rw [S.h a o x e]; exact fun z => by cases z
/-- something is evaluated -/
theorem St.ev (S : St X G0 H0 G H Ls) (r : Gr G H G1 H1) : St X G0 H0 G1 H1 Ls := by
  refine ⟨fun a o nx h => r.h a o (S.h a o nx h), S.g.trans r.g, r.s, fun a h1 h2 => r.n a (S.stay h1) (S.n a h1 h2), fun a o h => ?_, fun a xa => ?_, fun q hq => ?_, S.d⟩
  · rcases r.t a o h with h | h
    · exact S.t a o h
    · exact .inr h
  · have := S.x a xa
    cases e : H a with
    | none => exact absurd e this
    | some o => rw [r.h a o e]; exact fun z => by cases z
  · obtain ⟨h1, h2, h3⟩ := S.l q hq
    exact ⟨h1, r.n _ h3.some_ h2, h3.up r.g fun o e => r.h _ o e⟩
theorem St.keep (S : St X G0 H0 G H Ls) (x : Ex H H1) : St X G0 H0 G H1 Ls := S.ev (Gr.keep S.s x)
theorem St.at_ (S : St X G0 H0 G H Ls) (m : (L, Lo.whl Lm) ∈ Ls) : At Lm L G H := ⟨S.s, (S.l _ m).2.1, (S.l _ m).2.2⟩
/-- something is drawn -/
theorem St.roll (S : St X G0 H0 G H Ls) (m : (L, Lo.whl Lm) ∈ Ls) (hX : X L) (r : GrB Lm L G H G1 H1) : St X G0 H0 G1 H1 Ls := by
  refine ⟨fun a o nx h => r.h a o (fun e => nx (by rw [e]; exact hX)) (S.h a o nx h), S.g.trans r.g, r.s, fun a h1 h2 => r.n a (S.stay h1) (S.n a h1 h2), fun a o h => ?_, fun a xa => ?_, fun q hq => ?_, S.d⟩
  · rcases r.t a o h with h | h
    · exact S.t a o h
    · exact .inr h
  · by_cases e : a = L
    · rw [e]; exact r.w.some_
    · have := S.x a xa
      cases e2 : H a with
      | none => exact absurd e2 this
      | some o => rw [r.h a o e e2]; exact fun z => by cases z
  · obtain ⟨h1, h2, h3⟩ := S.l q hq
    refine ⟨h1, r.n _ h3.some_ h2, ?_⟩
    by_cases e : q.1 = L
    · have : q = (L, Lo.whl Lm) := by
        have nd := S.d
        obtain ⟨i, hi⟩ := List.getElem?_of_mem hq
        obtain ⟨j, hj⟩ := List.getElem?_of_mem m
        have hi' : (Ls.map Prod.fst)[i]? = some L := by rw [List.getElem?_map, hi, ← e]; rfl
        have hj' : (Ls.map Prod.fst)[j]? = some L := by rw [List.getElem?_map, hj]; rfl
        have ij := (List.getElem?_inj (List.getElem?_eq_some_iff.mp hi').1 nd).mp (hi'.trans hj'.symm)
        rw [ij, hj] at hi
        exact (Option.some.inj hi).symm
      rw [this]
      exact r.w.l
    · exact h3.up r.g fun o h => r.h _ o e h
theorem St.sw (S : St X G0 H0 G H (a :: b :: B)) : St X G0 H0 G H (b :: a :: B) := ⟨S.h, S.g, S.s, S.n, S.t, S.x, fun q hq => S.l q (by simp only [List.mem_cons] at hq ⊢; rcases hq with h | h | h <;> simp [h]), by
  have := S.d
  simp only [List.map_cons, List.nodup_cons, List.mem_cons, not_or] at this ⊢
  exact ⟨⟨fun e => this.1.1 e.symm, this.2.1⟩, this.1.2, this.2.2⟩⟩
theorem St.sw2 (S : St X G0 H0 G H (a :: b :: c :: B)) : St X G0 H0 G H (c :: a :: b :: B) := ⟨S.h, S.g, S.s, S.n, S.t, S.x, fun q hq => S.l q (by simp only [List.mem_cons] at hq ⊢; rcases hq with h | h | h | h <;> simp [h]), by
  have := S.d
  simp only [List.map_cons, List.nodup_cons, List.mem_cons, not_or] at this ⊢
  exact ⟨⟨fun e => this.1.2.1 e.symm, fun e => this.2.1.1 e.symm, this.2.2.1⟩, ⟨this.1.1, this.1.2.2⟩, this.2.1.2, this.2.2.2⟩⟩
theorem St.drop (S : St X G0 H0 G H (a :: B)) : St X G0 H0 G H B := ⟨S.h, S.g, S.s, S.n, S.t, S.x, fun q hq => S.l q (List.mem_cons_of_mem _ hq), by
  have := S.d
  rw [List.map_cons, List.nodup_cons] at this
  exact this.2⟩
/-- a new object to be written -/
theorem St.new (S : St X G0 H0 G H Ls) (hp : H p = none) (h : LoFit lo o G) : St X G0 H0 G (upd H p o) ((p, lo) :: Ls) := by
  have h0 : H0 p = none := by
    cases e : H0 p with
    | none => rfl
    | some u => exact absurd hp (S.stay (by rw [e]; exact fun z => by cases z))
  have gp : G p = none := fresh_back S.s hp
  refine ⟨fun a u nx e => by rw [upd_ne (fun z => by rw [z, h0] at e; cases e)]; exact S.h a u nx e, S.g, S.s.trans (Ex.new hp), S.n, S.t, fun a xa => ?_, fun q hq => ?_, ?_⟩
  · by_cases e : a = p
    · rw [e, upd_same]; exact fun z => by cases z
    · rw [upd_ne e]; exact S.x a xa
  · rcases List.mem_cons.mp hq with rfl | hq
    · exact ⟨.inr h0, gp, LoAt.new h⟩
    · obtain ⟨h1, h2, h3⟩ := S.l q hq
      exact ⟨h1, h2, h3.up (Ex.refl _) fun u e => by rw [upd_ne (fun z => h3.some_ (by rw [z]; exact hp))]; exact e⟩
  · rw [List.map_cons, List.nodup_cons]
    refine ⟨fun m => ?_, S.d⟩
    obtain ⟨q, hq, e⟩ := List.mem_map.mp m
    exact (S.l q hq).2.2.some_ (by rw [e]; exact hp)
/-- the first object is written -/
theorem St.mut (S : St X G0 H0 G H ((p, lo) :: B)) (h : LoFit lo2 o G) : St X G0 H0 G (upd H p o) ((p, lo2) :: B) := by
  obtain ⟨h1, h2, h3⟩ := S.l (p, lo) (.head _)
  have nd := S.d
  rw [List.map_cons, List.nodup_cons] at nd
  refine ⟨fun a u nx e => ?_, S.g, Ex.mut S.s h2, S.n, S.t, fun a xa => ?_, fun q hq => ?_, ?_⟩
  · rw [upd_ne (fun z => by
      rcases h1 with h1 | h1
      · exact nx (by rw [z]; exact h1)
      · rw [z, h1] at e; cases e)]
    exact S.h a u nx e
  · by_cases e : a = p
    · rw [e, upd_same]; exact fun z => by cases z
    · rw [upd_ne e]; exact S.x a xa
  · rcases List.mem_cons.mp hq with rfl | hq
    · exact ⟨h1, h2, LoAt.new h⟩
    · obtain ⟨k1, k2, k3⟩ := S.l q (List.mem_cons_of_mem _ hq)
      exact ⟨k1, k2, k3.up (Ex.refl _) fun u e => by rw [upd_ne (fun z => nd.1 (List.mem_map.mpr ⟨q, hq, z⟩))]; exact e⟩
  · rw [List.map_cons, List.nodup_cons]
    exact nd
/-- the first object is ready: it comes into the view -/
theorem St.put (S : St X G0 H0 G H ((p, lo) :: B)) (nx : ¬ X p) (hp : H p = some o) (ho : dataO o = true) : Ex G (upd G p o) ∧ St X G0 H0 (upd G p o) H B := by
  obtain ⟨h1, h2, h3⟩ := S.l (p, lo) (.head _)
  have h0 : H0 p = none := h1.resolve_left nx
  have x : Ex G (upd G p o) := Ex.new h2
  have nd := S.d
  rw [List.map_cons, List.nodup_cons] at nd
  refine ⟨x, S.h, S.g.trans x, fun a u e => ?_, fun a e1 e2 => ?_, fun a u e => ?_, S.x, fun q hq => ?_, nd.2⟩
  · by_cases z : a = p
    · subst z
      rw [upd_same] at e
      rw [← e]
      exact hp
    · rw [upd_ne z] at e
      exact S.s a u e
  · rw [upd_ne (fun z => e1 (by rw [z]; exact h0))]
    exact S.n a e1 e2
  · by_cases z : a = p
    · subst z
      rw [upd_same] at e
      cases e
      exact .inr ho
    · rw [upd_ne z] at e
      exact S.t a u e
  · obtain ⟨k1, k2, k3⟩ := S.l q (List.mem_cons_of_mem _ hq)
    have ne : q.1 ≠ p := fun z => nd.1 (List.mem_map.mpr ⟨q, hq, z⟩)
    exact ⟨k1, by rw [upd_ne ne]; exact k2, k3.up x fun u e => e⟩
theorem St.putL {ds : List PyData} (S : St X G0 H0 G H ((p, .lst ds) :: B)) (nx : ¬ X p) : ∃ G', Ex G G' ∧ St X G0 H0 G' H B ∧ Da G' (.ref p) (.list ds) := by
  obtain ⟨xs, e, hd⟩ := (S.l (p, .lst ds) (.head _)).2.2
  obtain ⟨x, S2⟩ := S.put nx e rfl
  exact ⟨_, x, S2, .lst upd_same (hd.up x)⟩
theorem St.putD {ds : List (PyData × PyData)} (S : St X G0 H0 G H ((p, .dic ds) :: B)) (nx : ¬ X p) : ∃ G', Ex G G' ∧ St X G0 H0 G' H B ∧ Da G' (.ref p) (.dict ds) := by
  obtain ⟨xs, e, hd⟩ := (S.l (p, .dic ds) (.head _)).2.2
  obtain ⟨x, S2⟩ := S.put nx e rfl
  exact ⟨_, x, S2, .dct upd_same (hd.up x)⟩
theorem St.gr (S : St noX G0 H0 G H Ls) : Gr G0 H0 G H := ⟨fun a o e => S.h a o (fun z => z) e, S.g, S.s, S.n, S.t⟩
theorem St.grB (S : St (fun a => a = L) G0 H0 G H Ls) (m : (L, Lo.whl Lm) ∈ Ls) : GrB Lm L G0 H0 G H := ⟨fun a o ne e => S.h a o ne e, S.g, S.n, S.t, S.at_ m⟩
theorem St.notX (S : St X G0 H0 G H Ls) (hp : H p = none) : ¬ X p := fun z => S.x p z hp
/-! ### statements -/
variable {K : PySem.W.Frag} {σ : L2.St} {te : TE} {tz : TS} {D : Ends} {i : Nat} {d : PyData} {ds : List PyData} {P : PyData → Prop}
theorem q_asgS (S : St X G0 H0 G H Ls) (h : EvD te σ G d) (k : ∀ v G1 H1, St X G0 H0 G1 H1 Ls → Ex G G1 → Da G1 v d → tz D (σ.set i (some v)) H1) : tSeq (tAsg te (gName i)) tz D σ H := h.go S.s fun v G1 H1 r hd => k v G1 H1 (S.ev r) r.g hd
theorem q_rollS (S : St X G0 H0 G H Ls) (m : (L, Lo.whl Lm) ∈ Ls) (hX : X L) (h : Dr Lm L te σ G P) (k : ∀ v d G1 H1, St X G0 H0 G1 H1 Ls → Ex G G1 → P d → Da G1 v d → tz D (σ.set i (some v)) H1) : tSeq (tAsg te (gName i)) tz D σ H := h.go (S.at_ m) fun v d G1 H1 r p hd => k v d G1 H1 (S.roll m hX r) r.g p hd
theorem q_newL (S : St X G0 H0 G H Ls) (k : ∀ p H1, ¬ X p → St X G0 H0 G H1 ((p, .lst []) :: Ls) → tz D (σ.set i (some (.ref p))) H1) : tSeq (tAsg (tLst tNil) (gName i)) tz D σ H :=
  ⟨Nat.zero_le _, fun p hp => k p _ (S.notX hp) (S.new hp ⟨[], rfl, .nil⟩)⟩
theorem q_newD (S : St X G0 H0 G H Ls) (k : ∀ p H1, ¬ X p → St X G0 H0 G H1 ((p, .dic []) :: Ls) → tz D (σ.set i (some (.ref p))) H1) : tSeq (tAsg tDNewK (gName i)) tz D σ H :=
  fun p hp => k p _ (S.notX hp) (S.new hp ⟨[], rfl, .nil⟩)
/-- l.append(e) -/
theorem s_app (S : St X G0 H0 G H ((p, .lst ds) :: B)) (hσ : σ[i]? = some (some (.ref p))) (hl : ds.length ≤ 50000) (h : EvD te σ G d) (k : ∀ G1 H1, St X G0 H0 G1 H1 ((p, .lst (ds ++ [d])) :: B) → Ex G G1 → D.nx σ H1) : tDrop (tBM K "list" rAppend (tVar i) (tCons te tNil)) D σ H := by
  obtain ⟨xs, e, hd⟩ := (S.l (p, .lst ds) (.head _)).2.2
  refine ⟨_, hσ, .inl ⟨rfl, _, SqL.of e⟩, h.go S.s fun v G1 H1 r hv => ?_⟩
  exact ⟨p, xs, v, rfl, rfl, r.h _ _ e, by rw [hd.len]; exact Nat.lt_of_le_of_lt hl (by decide), k G1 _ ((S.ev r).mut ⟨_, rfl, (hd.up r.g).app (.cons hv .nil)⟩) r.g⟩
theorem q_app (S : St X G0 H0 G H ((p, .lst ds) :: B)) (hσ : σ[i]? = some (some (.ref p))) (hl : ds.length ≤ 50000) (h : EvD te σ G d) (k : ∀ G1 H1, St X G0 H0 G1 H1 ((p, .lst (ds ++ [d])) :: B) → Ex G G1 → tz D σ H1) : tSeq (tDrop (tBM K "list" rAppend (tVar i) (tCons te tNil))) tz D σ H :=
  s_app (D := { D with nx := tz D }) S hσ hl h k
/-- l.append(e), e drawn -/
theorem s_appR (S : St X G0 H0 G H ((p, .lst ds) :: B)) (m : (L, Lo.whl Lm) ∈ B) (hX : X L) (hσ : σ[i]? = some (some (.ref p))) (hl : ds.length ≤ 50000) (h : Dr Lm L te σ G P) (k : ∀ d G1 H1, P d → St X G0 H0 G1 H1 ((p, .lst (ds ++ [d])) :: B) → Ex G G1 → D.nx σ H1) : tDrop (tBM K "list" rAppend (tVar i) (tCons te tNil)) D σ H := by
  obtain ⟨xs, e, hd⟩ := (S.l (p, .lst ds) (.head _)).2.2
  refine ⟨_, hσ, .inl ⟨rfl, _, SqL.of e⟩, h.go (S.at_ (.tail _ m)) fun v d G1 H1 r hP hv => ?_⟩
  have S2 := S.roll (.tail _ m) hX r
  obtain ⟨xs2, e2, hd2⟩ := (S2.l (p, .lst ds) (.head _)).2.2
  exact ⟨p, xs2, v, rfl, rfl, e2, by rw [hd2.len]; exact Nat.lt_of_le_of_lt hl (by decide), k d G1 _ hP (S2.mut ⟨_, rfl, hd2.app (.cons hv .nil)⟩) r.g⟩
theorem q_ifS {t : TT} {tu tw : TS} {b : Bool} (S : St X G0 H0 G H Ls) (h : EvT t σ G b) (h1 : b = true → ∀ H1, St X G0 H0 G H1 Ls → tu { D with nx := tz D } σ H1) (h2 : b = false → ∀ H1, St X G0 H0 G H1 Ls → tw { D with nx := tz D } σ H1) : tSeq (tIfS t tu tw) tz D σ H :=
  q_ifD S.s h (fun e H1 x => h1 e H1 (S.keep x)) (fun e H1 x => h2 e H1 (S.keep x))
theorem s_ifS {t : TT} {tu tw : TS} {b : Bool} (S : St X G0 H0 G H Ls) (h : EvT t σ G b) (h1 : b = true → ∀ H1, St X G0 H0 G H1 Ls → tu D σ H1) (h2 : b = false → ∀ H1, St X G0 H0 G H1 Ls → tw D σ H1) : tIfS t tu tw D σ H := h H S.s _ fun H1 x => by
  cases b with
  | true => exact h1 rfl H1 (S.keep x)
  | false => exact h2 rfl H1 (S.keep x)
end
end Lf
set_option maxHeartbeats 4000000
/-! max(l, default=d) of a list of whole numbers -/
namespace Lf
open PySem PySem.F PySem.Spec PyProof.Rows L2 Evl
section
variable {prog : Program} {w : World} {A : Around} {E : Value → Shared → Prop} {s : Shared}
theorem fn_tree_kw {id : String} {b : Builtin} {args : List Value} {kw : List (Str × Value)} {Q : Value → Shared → Prop} (hk : builtinKind id = none) (hp : plainId id = true)
    (hb : entryFor table id = some b) (ha : argsOk id ⟨args, kw⟩)
    (hc : wpAny (model prog w) A.in1 (b ⟨args, kw⟩) (fun fin s' => match fin with
      | .done f => (match (Except.ok f : Result) with | .ok (.ret v) => Q v s' | .ok _ => False | .error e => E e s')
      | .again c' => c'.quiet = true ∧ codeAny (model prog w) A c' (fun r s' => match r with | .ok (.ret v) => Q v s' | .ok _ => False | .error e => E e s') s') E s) :
    wpAny (model prog w) A (call (.builtin id) args kw) Q E s := by
  refine wpAny_call (codeAny_call_builtin hp hb ?_)
  simp only [checkBuiltinCall, hk]
  cases hsig : Manifest.signature? id with
  | none => exact wpAny_pure hc
  | some sig =>
    have ha' : Bind.checkArgs id sig ⟨args, kw⟩ = pure () := by simpa only [argsOk, hsig] using ha
    simp only [ha']
    exact wpAny_pure hc
theorem args_max_df (a d : Value) : argsOk "max" ⟨[a], [("default", d)]⟩ := by unfold argsOk; kernel_rfl
theorem max_nm : (toString "max" ++ toString ".loop" : String) = "max.loop" := by decide
end
section
variable {prog : Program} {w : World} {A : Around} {R : Result → Shared → Prop} {I : Addr} {fp wr : List Addr} {n : Nat} {P : Nat → Value → Prop} {St : Nat → Heap → Prop} {d : Value}
/-- what the loop has found before it takes thing j -/
def BestAt (P : Nat → Value → Prop) (bt : Nat → Nat → Bool) : Nat → List Value → Prop
  | 0, l => l = []
  | j + 1, l => ∃ v, l = [v, v] ∧ P (argBest bt j) v
theorem max_loop_df (W : Walks prog w A.in1 I fp wr n P St) (bt : Nat → Nat → Bool) (hcmp : CmpOf prog w A.in1 .Gt P bt) (S : Addr) (hSf : S ∉ fp) :
    ∀ (k j : Nat) (s : Shared) (l : List Value) (c : Nat), n - j = k → j ≤ n → St j s.heap → BestAt P bt j l →
    s.heap.get? S = some { cls := .type "list", dict := none, data := .seq l.toArray c, slots := #[] } →
    (∀ v h' tk, (n = 0 → v = d) → (0 < n → P (argBest bt (n - 1)) v) → (∀ b o, b ∉ wr → b ≠ S → s.heap.get? b = some o → h'.get? b = some o) → R (.ok (.ret v)) { s with heap := h', toks := tk }) →
    codeAny (model prog w) A (.builtin "max.loop" ⟨[.ref I, .none, .ref S], [("default", d)]⟩) R s := by
  have hSw : S ∉ wr := fun h => hSf (W.sub _ h)
  intro k
  induction k with
  | zero =>
    intro j s l c hk hj hst hB hS hR
    have hin : j = n := by omega
    refine codeAny_builtin F.entry_max_loop ?_
    rw [Around.under_plainId F.plain_max_loop _]
    show wpAny _ A.in1 (seqItems? (.ref S) >>= _) _ _ s
    refine wpAny_bind (wpAny_seqItems hS rfl ?_)
    show wpAny _ A.in1 (tryCatch (pyNext (.ref I)) _ >>= _) _ _ s
    refine wpAny_bind (wpAny_tryCatch (W.done s _ _ (hin ▸ hst) fun h' tk hk' => ?_))
    have hS' := hk' S _ hSw hS
    cases j with
    | zero =>
      obtain rfl : l = [] := hB
      show wpAny _ A.in1 (rule _ >>= _) _ _ _
      refine wpAny_bind (wpAny_rule (wpAny_pure ?_))
      exact hR d _ tk (fun _ => rfl) (fun z => absurd z (by omega)) fun b o hbw hbS e => hk' b o hbw e
    | succ j =>
      obtain ⟨vb, rfl, hPb⟩ := hB
      show wpAny _ A.in1 (updateSeq S (fun _ => #[]) >>= _) _ _ _
      refine wpAny_bind ?_
      refine wpAny_updateSeq hS' rfl (wpAny_bind (wpAny_letGo (wpAny_pure ?_)))
      exact hR vb _ tk (fun z => by omega) (fun _ => by rw [← hin]; exact hPb) fun b o hbw hbS e => (Heap.get?_update_other _ _ (Ne.symm hbS)).trans (hk' b o hbw e)
  | succ k ih =>
    intro j s l c hk hj hst hB hS hR
    have hlt : j < n := by omega
    refine codeAny_builtin F.entry_max_loop ?_
    rw [Around.under_plainId F.plain_max_loop _]
    show wpAny _ A.in1 (seqItems? (.ref S) >>= _) _ _ s
    refine wpAny_bind (wpAny_seqItems hS rfl ?_)
    show wpAny _ A.in1 (tryCatch (pyNext (.ref I)) _ >>= _) _ _ s
    refine wpAny_bind (wpAny_tryCatch (W.item j s _ _ hlt hst fun v h' tk hP hst' hk' => ?_))
    have hS' := hk' S _ hSw hS
    have put : ∀ x : Value, P (argBest bt j) x → codeAny (model prog w) A (.builtin "max.loop" ⟨[.ref I, .none, .ref S], [("default", d)]⟩) R { s with heap := h'.update S (Obj.mapSeq fun _ => #[x, x]), toks := tk } := fun x hx =>
      ih (j + 1) _ [x, x] _ (by omega) hlt (W.frame _ _ _ hst' fun b hbf o e => (Heap.get?_update_other _ _ (fun h : S = b => hSf (by rw [h]; exact hbf))).trans e) ⟨x, rfl, hx⟩ (Heap.get?_update_self _ hS' rfl)
        fun v' h'' tk'' h0 hP' hk'' => hR v' h'' tk'' h0 hP' fun b o hbw hbS e => hk'' b o hbw hbS ((Heap.get?_update_other _ _ (Ne.symm hbS)).trans (hk' b o hbw e))
    cases j with
    | zero =>
      obtain rfl : l = [] := hB
      show wpAny _ A.in1 (updateSeq S (fun _ => #[v, v]) >>= _) _ _ _
      refine wpAny_bind ?_
      refine wpAny_updateSeq hS' rfl ?_
      rw [max_nm]
      exact wpAny_pure ⟨plainId_quiet F.plain_max_loop _, put v hP⟩
    | succ j =>
      obtain ⟨vb, rfl, hPb⟩ := hB
      show wpAny _ A.in1 (tryCatch (holding [v, v] (richCompare .Gt v vb >>= _)) _ >>= _) _ _ _
      refine wpAny_bind (wpAny_tryCatch (wpAny_holding (wpAny_bind (hcmp (j + 1) (argBest bt j) v vb _ _ _ hP hPb ?_))))
      refine wpAny_bind (wpAny_holding (wpAny_truthy_bool ?_))
      refine wpAny_bind (wpAny_letGo (wpAny_pure ?_))
      cases hb : bt (j + 1) (argBest bt j) with
      | true =>
        simp only [if_true]
        refine wpAny_bind ?_
        refine wpAny_updateSeq hS' rfl (wpAny_bind (wpAny_letGo ?_))
        rw [max_nm]
        exact wpAny_pure ⟨plainId_quiet F.plain_max_loop _, put v (by simp only [argBest, hb, if_true]; exact hP)⟩
      | false =>
        simp only [Bool.false_eq_true, if_false]
        refine wpAny_bind (wpAny_letGo ?_)
        rw [max_nm]
        refine wpAny_pure ⟨plainId_quiet F.plain_max_loop _, ih (j + 2) _ [vb, vb] c (by omega) hlt hst' ⟨vb, rfl, by simp only [argBest, hb, Bool.false_eq_true, if_false]; exact hPb⟩ hS' fun v' h'' tk'' h0 hP' hk'' => ?_⟩
        exact hR v' h'' tk'' h0 hP' fun b o hbw hbS e => hk'' b o hbw hbS (hk' b o hbw e)
end
section
variable {prog : Program} {w : World} {A : Around} {E : Value → Shared → Prop} {s : Shared}
theorem max_df_raw {l : Addr} {its : List Value} {ns : List Int} {d : Value} {Q : Value → Shared → Prop} (hh : A.handled = none) (hl : s.heap.IsList l its.toArray) (hi : IntsAre its ns)
    (h : ∀ h' tk v, (∀ b o, s.heap.get? b = some o → h'.get? b = some o) → (ns = [] → v = d) → (0 < ns.length → ∃ M t', v = .int M t' ∧ M ∈ ns ∧ (∀ a, a ∈ ns → a ≤ M)) → Q v { s with heap := h', toks := tk }) : wpAny (model prog w) A (call (.builtin "max") [.ref l] [("default", d)]) Q E s := by
  obtain ⟨xs, e⟩ := hi.allInts.items
  have hn : numsOf (intItems xs).toList = ns := by rw [← e]; exact hi.numsOf
  rw [nums_intItems] at hn
  subst hn
  rw [e] at hl
  refine fn_tree_kw F.kind_max F.plain_max F.entry_max (args_max_df _ _) ?_
  show wpAny _ A.in1 (Builtin.Builtins.bindParams "max" ["key", "default"] 0 ⟨[], [("default", d)]⟩ >>= _) _ _ s
  refine wpAny_bind (wpAny_of_eq (show Builtin.Builtins.bindParams "max" ["key", "default"] 0 ⟨[], [("default", d)]⟩ = pure [none, some d] from rfl) ?_)
  refine wpAny_bind (wpAny_pure ?_)
  refine wpAny_bind (iter_intList hl fun s₂ e st hfp hlI => ?_)
  refine wpAny_bind (wpAny_newObj_type ?_)
  have W := Walks.list (prog := prog) (w := w) (A := A.in1) hh _ l hlI (intItems xs)
  have hSf : s₂.heap.objs.size ∉ [s.heap.objs.size, l] := fun hm => Nat.lt_irrefl _ (hfp _ hm)
  rw [max_nm]
  refine wpAny_pure ⟨plainId_quiet F.plain_max_loop _, max_loop_df W _ (CmpOf.ints_gt (numAt xs) (fun _ _ => intItems_at)) s₂.heap.objs.size hSf _ 0 _ [] _ rfl (Nat.zero_le _) (W.frame _ _ _ st fun b _ o e => Heap.get?_push_of_some _ e) rfl (Heap.get?_push_size _ rfl) fun v h' tk h0 hP hk => ?_⟩
  subst e
  have key := old_kept (h' := h') (fun b o hbw (e : _ = some o) => hk b o hbw (Nat.ne_of_lt (Heap.lt_size e)) (Heap.get?_push_of_some _ e))
  refine h h' tk v key (fun z => h0 ?_) (fun z => ?_)
  · have := congrArg List.length z
    simpa [intItems] using this
  · have hsz : 0 < xs.size := by simpa using z
    have hv := hP (by simpa [intItems] using hsz)
    obtain ⟨t, rfl⟩ := intItems_at hv
    obtain ⟨h1, h2⟩ := argBest_gt (numAt xs) (xs.size - 1)
    have hz' : (intItems xs).size = xs.size := by simp [intItems]
    rw [hz']
    refine ⟨_, t, rfl, ?_, fun a ha => ?_⟩
    · rw [numAt_eq]; exact PySem.getD_mem (by rw [List.length_map, Array.length_toList]; omega)
    · obtain ⟨j, hj, rfl⟩ := mem_getD ha
      rw [List.length_map, Array.length_toList] at hj
      rw [← numAt_eq]; exact h2 j (by omega)
end
section
variable {X : Cx}
def topI (d : Int) (ns : List Int) : Int := match ns with
  | [] => d
  | n :: r => r.foldl max n
def rMaxDf (K : PySem.W.Frag) : List V → List V → Hp → VK → Prop := fun xs zs H Q => ∃ (a : Addr) (ns : List Int) (d : Int), xs = [V.ref a] ∧ zs = [V.int d] ∧ SqL K H a (ns.map V.int) ∧ (ns = [] → Q (.int d) H) ∧ (∀ m, m ∈ ns → (∀ y, y ∈ ns → y ≤ m) → Q (.int m) H)
theorem cr_max_df (hc : X.calm = true) : CallRK X (.builtin "max") ["default"] (rMaxDf X.K) := by
  intro pins s σ H xs zs us ws Q I r rz h
  obtain ⟨a, ns, d, rfl, rfl, hs, q0, q⟩ := h
  obtain ⟨its, rv, hl, _⟩ := I.list hs
  rw [Vals.ref1 r]
  obtain ⟨dv, rfl, t, rfl⟩ : ∃ dv, ws = [dv] ∧ ∃ t, dv = .int d t := by
    cases rz with
    | cons h t => cases t; exact ⟨_, rfl, h⟩
  refine max_df_raw (I.ok.hd hc) hl.isList rv.ints fun h' tk v hk e0 e1 => ?_
  cases ns with
  | nil => exact ⟨.int d, H, I.kept hk, ⟨t, e0 rfl⟩, q0 rfl⟩
  | cons n ns =>
    obtain ⟨M, t', rfl, h1, h2⟩ := e1 (by simp)
    exact ⟨.int M, H, I.kept hk, ⟨_, rfl⟩, q M h1 h2⟩
end
end Lf
set_option maxHeartbeats 4000000
/-! d.update(e) -/
namespace Lf
open PySem PySem.Spec PyProof.Rows L2 Evl
theorem putK_len (kvs : List (Key × V)) (k : Key) (v : V) : (putK kvs k v).length ≤ kvs.length + 1 := by
  unfold putK
  split <;> simp
theorem mergeK_len (more : List (Key × V)) : ∀ kvs : List (Key × V), (mergeK kvs more).length ≤ kvs.length + more.length := by
  induction more with
  | nil => intro kvs; exact Nat.le_refl _
  | cons a t ih =>
    intro kvs
    have := ih (putK kvs a.1 a.2)
    have h2 := putK_len kvs a.1 a.2
    show (mergeK (putK kvs a.1 a.2) t).length ≤ _
    rw [List.length_cons]
    omega
def rDUpd : V → List V → Hp → VK → Prop := fun x vs H Q => ∃ (a b : Addr) (kvs more : List (Key × V)), x = .ref a ∧ vs = [.ref b] ∧ a ≠ b ∧ H a = some (.dK kvs) ∧ H b = some (.dK more) ∧ kvs.length + more.length ≤ sizeLine ∧ Q .non (upd H a (.dK (mergeK kvs more)))
theorem mtd_update {X : Cx} : MtR X "dict.update" rDUpd := by
  intro pins s σ H x vs v us Q I rx rv h
  obtain ⟨a, b, kvs, more, rfl, rfl, hab, ea, eb, hz, q⟩ := h
  obtain rfl : v = Value.ref a := rx
  rw [Vals.ref1 rv]
  obtain ⟨z, hd, vs, rel, dd⟩ := dk_of I.hok ea
  obtain ⟨z2, hd2, vs2, rel2, dd2⟩ := dk_of I.hok eb
  refine call_meetsIn PySem.F.slot_dict_update dd.typeIs PySem.F.entry_dict_update (PySem.F.args_dict_update_2 _ _) (meets_dict_update (mixKind X.prog X.w) a b hab hd2) ⟨vs, vs2, dd, dd2, by rw [← rel.length, ← rel2.length]; exact hz, fun h' dd' _ hs => ?_⟩
  have he : ∃ q, h'.get? a = some q := let ⟨q, _, _, hq, _⟩ := dd'; ⟨q, hq⟩
  exact ⟨.non, _, d_write (t' := s.toks) I (by rw [ea]; exact True.intro) hs he (dk_new (Nat.le_trans (mergeK_len _ _) hz) hd (KV.merge rel2 rel) dd'), rfl, q⟩
section
variable {X : Cx} {o e : Expr} {es : List Expr} {to : TE} {t : TA} {apos cpos : Pos}
theorem pe_dupdate (ho : PE X o to) (ha : PA X (e :: es) t) (hbase : attributeBase o "update" X.env (eval o X.env) = eval o X.env := by rfl)
    (hfew : ((backTo cpos (starEach (e :: es) X.env)).all (fun x => !x.1) && (backToKw cpos (keywordEach [] X.env)).all (fun x => x.1.isSome)
      && decide ((e :: es).length + ([] : List Keyword).length + (if ([] : List Keyword).isEmpty then 0 else 1) < 30)) = true := by rfl)
    (hline : (apos.endLine == cpos.line) = true := by rfl) (hs : starEach (e :: es) X.env = (false, eval e X.env) :: starEach es X.env := by rfl) (hplain : (backTo cpos (starEach es X.env)).any (·.1) = false := by rfl) :
    PE X (.Call (.Attribute o "update" apos) (e :: es) [] cpos) (tBM X.K "dict" rDUpd to t) :=
  pe_bm PySem.F.plainAttrs_dict PySem.F.slot_dict_update PySem.F.type_dict_update mtd_update ho ha hbase hfew hline hs hplain
end
end Lf
set_option maxHeartbeats 4000000
/-! enumerate(tuple) -/
namespace Lf
open PySem PySem.Spec PyProof.Rows L2 Evl
theorem draws_tuple {prog : Program} {w : World} {A : Around} (hh : A.handled = none) (it l : Addr) (hne : l ≠ it) (items : Array Value) :
    Draws prog w A it [it, l] items.size (fun i v => items[i]? = some v) (fun i h => h.IsTupleIter it l i ∧ h.IsTuple l items) where
  live := fun _ _ st => let ⟨o, ho, _⟩ := st.1; ⟨o, ho⟩
  frame := fun _ _ _ st hk => ⟨st.1.at fun o e => hk it (by simp) o e, let ⟨o, ho, r⟩ := st.2; ⟨o, hk l (by simp) o ho, r⟩⟩
  item := fun i s Q E hi st hQ => by
    refine RZ.nextOf_tuple_item st.1 st.2 (x := items[i]) (by simp [hi]) fun h' hit' hs' => ?_
    exact hQ _ h' s.toks (by simp [hi]) ⟨hit', let ⟨o, ho, r⟩ := st.2; ⟨o, (hs'.2 l hne).trans ho, r⟩⟩ hs'
  done := fun s Q E st hE => RZ.nextOf_tuple_end hh st.1 st.2 (by simp) hE
open AutoSeq1 (wpAny_loadPart') in
theorem enum_newT (l : Addr) (items : Array Value) (o : Obj) (hc : o.cls = .type "tuple") (hd : ∃ n, o.data = .seq items n) :
    Meets (Builtin.«enumerate.__new__» ⟨[.type "enumerate", .ref l], []⟩) (fun _ R s => s.heap.get? l = some o ∧
      R (.ok (.ret (.ref (s.heap.push { cls := .type "tuple_iterator", data := .fields #[.ref l, .int 0 0] }).objs.size)))
        { s with heap := (s.heap.push { cls := .type "tuple_iterator", data := .fields #[.ref l, .int 0 0] }).push { cls := .type "enumerate", data := .fields #[.none, .bool false, .ref s.heap.objs.size, rawInt 0, .none, .none] } }) :=
  .of_wp fun prog w A R s h => by
    obtain ⟨hp, g, d, tk, os⟩ := s; obtain ⟨hl, h⟩ := h
    have hsub := sub_enumerate
    have hL : Heap.IsTuple (Shared.heap ⟨hp, g, d, tk, os⟩) l items := ⟨o, hl, hc, hd⟩
    wp_walk using wpAny_loadPart' hl
    refine wpAny_stack_any fun st => wpAny_pure ?_
    split
    · rename_i c _ _ _ _ _
      cases (c == Value.type "enumerate")
      · wp_walk using wpAny_loadPart' hl, wpAny_pyIter_tuple hL
        exact ⟨_, rfl, h⟩
      · wp_walk using wpAny_loadPart' hl, wpAny_pyIter_tuple hL
        exact ⟨_, rfl, h⟩
    · wp_walk using wpAny_loadPart' hl, wpAny_pyIter_tuple hL
      exact ⟨_, rfl, h⟩
section
variable {prog : Program} {w : World} {A : Around} {E : Value → Shared → Prop} {s : Shared}
theorem call_enum_tuple {l : Addr} {items : Array Value} {Q : Value → Shared → Prop} (hL : s.heap.IsTuple l items)
    (h : ∀ h', IsEnum h' (s.heap.objs.size + 1) s.heap.objs.size 0 .none → h'.IsTupleIter s.heap.objs.size l 0 → h'.objs.size = s.heap.objs.size + 2 →
      (∀ b o, s.heap.get? b = some o → h'.get? b = some o) → Q (.ref (s.heap.objs.size + 1)) { s with heap := h' }) :
    wpAny (model prog w) A (call (.type "enumerate") [.ref l]) Q E s := by
  obtain ⟨o, hl, hc, hd⟩ := hL
  refine callType_new F.called_enumerate (by decide) (F.typeCall_enumerate_1 _) (F.newCall_enumerate_1 _) (fun obj => F.args_object_init_2 obj _) F.entry_enumerate_new
    (enum_newT l items o hc hd) ⟨hl, ?_⟩
  have hz : (s.heap.push { cls := .type "tuple_iterator", data := .fields #[.ref l, .int 0 0] }).objs.size = s.heap.objs.size + 1 := Heap.size_push ..
  show _ ∧ _
  rw [hz]
  have he : IsEnum ((s.heap.push { cls := .type "tuple_iterator", data := .fields #[.ref l, .int 0 0] }).push
      { cls := .type "enumerate", data := .fields #[.none, .bool false, .ref s.heap.objs.size, rawInt 0, .none, .none] }) (s.heap.objs.size + 1) s.heap.objs.size 0 .none := by
    have := Heap.get?_push_size (s.heap.push { cls := .type "tuple_iterator", data := .fields #[.ref l, .int 0 0] })
      (o := { cls := .type "enumerate", data := .fields #[.none, .bool false, .ref s.heap.objs.size, rawInt 0, .none, .none] }) rfl
    rw [hz] at this; exact this
  exact ⟨⟨_, he, rfl⟩, h _ he ⟨_, Heap.get?_push_of_some _ (Heap.get?_push_size _ rfl), rfl, rfl⟩ (by rw [Heap.size_push, hz]) fun b o x => Heap.get?_push_of_some _ (Heap.get?_push_of_some _ x)⟩
end
/-- the tuple at a, each item in a new pair -/
def IteT (K : PySem.W.Frag) (a : Addr) : It :=
  ⟨fun i H => ∃ (xs : List V) (x : V), SqT K H a xs ∧ xs[i]? = some x, fun i H v H' => ∃ T x, v = .ref T ∧ H T = none ∧ H' = upd H T (.tup [.int (i : Nat), x]) ∧ ∀ xs, SqT K H a xs → xs[i]? = some x, fun i H => ∃ xs : List V, SqT K H a xs ∧ xs.length = i⟩
theorem tup_apart {h : Heap} {a b : Addr} {items : Array Value} {o : Obj} {c : String} (ha : h.IsTuple a items) (hb : h.get? b = some o) (hc : o.cls = .type c) (hn : c ≠ "tuple") : a ≠ b := fun z => by
  obtain ⟨o', e, hc', _⟩ := ha
  rw [z, hb] at e
  cases e
  rw [hc] at hc'
  cases hc'
  exact hn rfl
theorem turn_enumT {P : Program} {w : World} {K : PySem.W.Frag} {elts : List Expr} {kk : Nat} {tpos : Pos} (a e it : Addr) :
    Turn P w K (.Tuple elts kk tpos) (IteT K a) [e, it] e (fun i h => (∃ old, IsEnum h e it ((i : Nat) : Int) old) ∧ h.IsTupleIter it a i ∧ e ≠ it) where
  mem := by simp
  obj := fun i h st b hb => by
    obtain ⟨⟨old, he⟩, ⟨o, ho, hc, hd⟩, _⟩ := st
    have e' : b = e ∨ b = it := by simpa using hb
    rcases e' with z | z
    · rw [z]; exact ⟨_, he, fun v q => nomatch q⟩
    · rw [z]; exact ⟨o, ho, fun v q => by rw [hd] at q; cases q⟩
  keep := fun i h h' st k => let ⟨⟨old, he⟩, hi, hne⟩ := st; ⟨⟨old, k e (by simp) _ he⟩, hi.at fun o q => k it (by simp) o q, hne⟩
  item := by
    intro X hP hw hK hc i pins s σ H E I hf st hg
    subst hP hw hK
    obtain ⟨⟨old, he⟩, hit, hne⟩ := st
    obtain ⟨xs, x, hq, hx⟩ := hg
    obtain ⟨its, rv, p, hz⟩ := I.tuple hq
    have p : s.heap.IsTuple a its.toArray := p
    obtain ⟨u, hu, ru⟩ := rv.get hx
    have hel : e < s.heap.objs.size := Heap.lt_size he
    have hil : it < s.heap.objs.size := by obtain ⟨_, q, _⟩ := hit; exact Heap.lt_size q
    have hae : a ≠ e := tup_apart p he rfl (by decide)
    have hai : a ≠ it := by obtain ⟨oi, hoi, hci, _⟩ := hit; exact tup_apart p hoi hci (by decide)
    have hlt : i < its.toArray.size := by
      have := (List.getElem?_eq_some_iff.mp hu).1
      simpa using this
    refine wpAny_pyNext_enum_itemD (draws_tuple (A := X.A.in1) (I.ok.hd hc) it a hai its.toArray) he ⟨hit, p⟩ hlt hne (by simp [hne, Ne.symm hae]) fun y h' tk hP ho hst' hT hsz hk => ?_
    obtain rfl : u = y := by
      have : its[i]? = some y := by simpa using hP
      rw [hu] at this
      exact Option.some.inj this
    refine ⟨_, rfl, wpAny_letOwnedTupleGo_enum (s := { s with heap := h', toks := tk + 1 }) ho fun h'' he' sb => ?_⟩
    have hT2 : h''.get? s.heap.objs.size = some { cls := .type "tuple", data := .seq #[.int i tk, u] } := (sb.2 _ (Nat.ne_of_gt hel)).trans hT
    have new : ObjOk X.prog X.w (upd H s.heap.objs.size (.tup [.int (i : Nat), x])) h'' s.heap.objs.size (.tup [.int (i : Nat), x]) :=
      ⟨by show 2 ≤ sizeLine; decide, [.int i tk, u], .cons ⟨_, rfl⟩ (.cons ru .nil), ⟨_, hT2, rfl, _, rfl⟩⟩
    have I1 : Inv X pins σ (upd H s.heap.objs.size (.tup [.int (i : Nat), x])) { s with heap := h'', toks := tk + 1 } :=
      I.turnedNew (ch := [e, it]) (fun b ob hb q => (sb.2 b (fun z => hb (by simp [z]))).trans (hk b ob (fun z => hb (by simp [z])) (fun z => hb (by simp [z])) q)) hf (Nat.le_refl _) new
    refine ⟨.ref s.heap.objs.size, _, I1, rfl, ⟨_, x, rfl, I.hok.fresh (Nat.le_refl _), rfl, fun ys hy => by rw [I.tuple_inj hy hq]; exact hx⟩, ⟨⟨u, ?_⟩, hst'.1.at fun o q => (sb.2 it (Ne.symm hne)).trans q, hne⟩, fun b hb => ?_⟩
    · have e1 : ((i + 1 : Nat) : Int) = (i : Int) + 1 := by omega
      rw [e1]; exact he'
    · have hb' : b < s.heap.objs.size := by
        have e' : b = e ∨ b = it := by simpa using hb
        rcases e' with z | z
        · rw [z]; exact hel
        · rw [z]; exact hil
      rw [upd_ne (Nat.ne_of_lt hb')]
      exact (hf b hb).1
  done := by
    intro X hP hw hK hc i pins s σ H E I hf st hg
    subst hP hw hK
    obtain ⟨⟨old, he⟩, hit, hne⟩ := st
    obtain ⟨xs, hq, hx⟩ := hg
    obtain ⟨its, rv, p, hz⟩ := I.tuple hq
    have p : s.heap.IsTuple a its.toArray := p
    obtain ⟨f0, f1, f2, f3, f4, f5⟩ := hf it (by simp)
    have hl := rv.length
    have hai : a ≠ it := by obtain ⟨oi, hoi, hci, _⟩ := hit; exact tup_apart p hoi hci (by decide)
    have hn : its.toArray.size = i := by simp; omega
    exact wpAny_pyNext_enum_endD (draws_tuple (A := X.A.in1) (I.ok.hd hc) it a hai its.toArray) he ⟨by rw [hn]; exact hit, p⟩ fun h' eb => ⟨rfl, I.turned (t' := s.toks) (fun b o hb q => eb b o hb q) f0 f1 f3 f4 f5⟩
  self := fun A i s Q E st h => let ⟨⟨_, he⟩, _⟩ := st; wpAny_pyIter_enum he h
def iEnumT (K : PySem.W.Frag) (ta : TA) : TI := fun σ H R => ta σ H fun vs H1 => ∃ a xs, vs = [.ref a] ∧ SqT K H1 a xs ∧ R (IteT K a) H1
theorem pi_enumT {X : Cx} {e : Expr} {ta : TA} {p pos tpos : Pos} {elts : List Expr} {kk : Nat} (hg : Gl X "enumerate") (hm : X.mg "enumerate" = none) (ha : PA X [e] ta) (hs : starEach [e] X.env = [(false, eval e X.env)] := by rfl) :
    PI X (.Tuple elts kk tpos) (.Call (.Name "enumerate" p) [e] [] pos) (iEnumT X.K ta) := by
  refine ⟨fun pins s σ H R I h => ?_⟩
  refine Call_ (ld_blt I hg hm boot_enumerate (PyProof.Rows.callWith_type1 (thn (ha.run pos pins s σ H _ I h) fun us s1 ⟨vs, H1, I1, r1, q1⟩ => ?_) hs rfl))
  obtain ⟨a, xs, ex, hq, q⟩ := q1
  subst ex
  cases r1 with
  | cons r rr =>
    cases rr
    cases r
    obtain ⟨its, rv, p', hz⟩ := I1.tuple hq
    refine call_enum_tuple (show s1.heap.IsTuple a its.toArray from p') fun h' he hit hsz hk => wpAny_pyIter_enum he ?_
    have I2 : Inv X pins σ H1 { s1 with heap := h' } := I1.kept (t' := s1.toks) hk
    refine ⟨s1.heap.objs.size + 1, [s1.heap.objs.size + 1, s1.heap.objs.size], _, _, H1, rfl, I2, turn_enumT a (s1.heap.objs.size + 1) s1.heap.objs.size, ⟨⟨.none, he⟩, hit, Nat.succ_ne_self _⟩, fun b hb => ?_, q⟩
    have e' : b = s1.heap.objs.size + 1 ∨ b = s1.heap.objs.size := by simpa using hb
    have hle : s1.heap.objs.size ≤ b := by
      rcases e' with z | z
      · rw [z]; exact Nat.le_add_right _ _
      · rw [z]; exact Nat.le_refl _
    exact I1.fpOk hle (I1.hok.fresh hle)
end Lf
set_option maxHeartbeats 4000000
/-! (*t, ..), [*l, ..] of data; [e for x in t for y in l] -/
namespace Lf
open PySem L2 Evl StX
section
variable {K : PySem.W.Frag} {σ : L2.St} {G : Hp} {ta tb te tl t1 : TE} {tr : TA} {ds es : List PyData}
theorem evd_starT (h : EvD te σ G (.tuple ds)) (hr : EvDs tr σ G es) : EvDs (tStar K te tr) σ G (ds ++ es) := fun G1 H1 x s Q q => h G1 H1 x s _ fun v G2 H2 r hd => by
  obtain ⟨a, xs, rfl, e, hs⟩ := hd.tup_
  exact ⟨a, xs, rfl, .inl (SqT.of (r.s _ _ e)), hr G2 H2 (x.trans r.g) r.s _ fun vs G3 H3 r3 hds => q (xs ++ vs) G3 H3 (r.trans r3) ((hs.up r3.g).app hds)⟩
theorem evd_starL (h : EvD te σ G (.list ds)) (hr : EvDs tr σ G es) : EvDs (tStar K te tr) σ G (ds ++ es) := fun G1 H1 x s Q q => h G1 H1 x s _ fun v G2 H2 r hd => by
  obtain ⟨a, xs, rfl, e, hs⟩ := hd.lst_
  exact ⟨a, xs, rfl, .inr (SqL.of (r.s _ _ e)), hr G2 H2 (x.trans r.g) r.s _ fun vs G3 H3 r3 hds => q (xs ++ vs) G3 H3 (r.trans r3) ((hs.up r3.g).app hds)⟩
/-- what a comprehension of two clauses has made, while the inner one walks a list known in G2 -/
structure LcJ (G1 H1 G2 : Hp) (D : Addr) (H' : Hp) (ds : List PyData) : Prop where
  w : ∃ G' ys, Gr G1 H1 G' H' ∧ Ex G2 G' ∧ G' D = none ∧ H' D = some (.lst ys) ∧ DaAll G' ys ds
theorem evd_lc2 {i j : Nat} {vs vs1 : List Nat} (ess : PyData → List PyData) (f : PyData → PyData → PyData) (h : EvD tl σ G (.tuple ds)) (hz : (ds.flatMap ess).length ≤ 50000) (hw : ∀ x, wipe ((wipe σ vs).set i (some x)) vs = wipe σ vs)
    (h1 : ∀ d ∈ ds, ∀ v G1, Ex G G1 → Da G1 v d → EvD t1 ((wipe σ vs).set i (some v)) G1 (.list (ess d))) (hw1 : ∀ v y, wipe ((wipe ((wipe σ vs).set i (some v)) vs1).set j (some y)) vs1 = wipe ((wipe σ vs).set i (some v)) vs1)
    (he : ∀ d ∈ ds, ∀ e ∈ ess d, ∀ v y G1, Ex G G1 → Da G1 v d → Da G1 y e → EvD te ((wipe ((wipe σ vs).set i (some v)) vs1).set j (some y)) G1 (f d e)) :
    EvD (tLc2 (iTup K tl) (gName i) tYes (iList K t1) (gName j) tYes te vs vs1) σ G (.list (ds.flatMap fun d => (ess d).map (f d))) := fun G0 H0 x0 s0 Q q => h G0 H0 x0 s0 _ fun v0 G1 H1 r1 hd => by
  obtain ⟨a, xs, rfl, ea, hs⟩ := hd.tup_
  refine ⟨a, rfl, ⟨xs, SqT.of (r1.s _ _ ea)⟩, fun D hD => ⟨fun k m H' => m = xs.length - k ∧ k ≤ xs.length ∧ LcI G1 H1 D H' ((ds.take k).flatMap fun d => (ess d).map (f d)), ⟨xs.length, by simp, Nat.zero_le _, LcI.start r1.s hD⟩, ?_⟩⟩
  rintro k m H' ⟨rfl, hk, I⟩
  by_cases hlt : k < xs.length
  · obtain ⟨x, hx⟩ : ∃ x, xs[k]? = some x := ⟨_, List.getElem?_eq_getElem hlt⟩
    obtain ⟨d, hdi, hdv⟩ := hs.at hx
    have mem := List.mem_of_getElem? hdi
    have etake : ds.take (k + 1) = ds.take k ++ [d] := take_da hdi
    have hsum : ((ds.take k).flatMap ess).length + (ess d).length ≤ 50000 := by
      have : (ds.flatMap ess).length = ((ds.take (k + 1)).flatMap ess).length + ((ds.drop (k + 1)).flatMap ess).length := by
        rw [← List.length_append, ← List.flatMap_append, List.take_append_drop]
      rw [etake, List.flatMap_append, List.length_append] at this
      have e1 : ([d].flatMap ess).length = (ess d).length := by simp
      omega
    have lenM : ∀ l : List PyData, (l.flatMap fun d => (ess d).map (f d)).length = (l.flatMap ess).length := fun l => by
      induction l with
      | nil => rfl
      | cons b l ih => rw [List.flatMap_cons, List.flatMap_cons, List.length_append, List.length_append, ih, List.length_map]
    refine .inr ⟨⟨xs, x, SqT.of (I.sub _ _ ea), hx⟩, fun H3 => LcI G1 H1 D H3 ((ds.take (k + 1)).flatMap fun d => (ess d).map (f d)), fun H3 I3 => ⟨xs.length - (k + 1), by omega, rfl, hlt, I3⟩, ?_⟩
    rintro x' H3 ⟨rfl, hx'⟩
    have ex : x' = x := Option.some.inj ((hx' xs (SqT.of (I.sub _ _ ea))).symm.trans hx)
    subst ex
    refine ⟨hw x', ?_⟩
    dsimp only [tYes]
    rw [if_pos rfl]
    obtain ⟨G', ys, r, g1, g2, g3⟩ := I.w
    refine h1 d mem x' G' ((x0.trans r1.g).trans r.g) (hdv.up r.g) G' H3 (Ex.refl _) r.s _ fun v1 G2 H4 r2 hd1 => ?_
    obtain ⟨b, zs, rfl, eb, hzs⟩ := hd1.lst_
    refine ⟨b, rfl, ⟨zs, SqL.of (r2.s _ _ eb)⟩, fun j' m' H5 => m' = zs.length - j' ∧ j' ≤ zs.length ∧ LcJ G1 H1 G2 D H5 (((ds.take k).flatMap fun d => (ess d).map (f d)) ++ ((ess d).take j').map (f d)), ⟨zs.length, by simp, Nat.zero_le _, ⟨G2, ys, r.trans r2, Ex.refl _, r2.n D (by rw [g2]; simp) g1, r2.h _ _ g2, by simpa using g3.up r2.g⟩⟩, ?_⟩
    rintro j' m' H5 ⟨rfl, hj, J⟩
    obtain ⟨G5, ys5, r5, x5, n5, d5, a5⟩ := J.w
    by_cases hlt2 : j' < zs.length
    · obtain ⟨z, hzj⟩ : ∃ z, zs[j']? = some z := ⟨_, List.getElem?_eq_getElem hlt2⟩
      obtain ⟨e, hei, hev⟩ := hzs.at hzj
      refine .inr ⟨⟨zs, z, SqL.of (r5.s _ _ (x5 _ _ eb)), hzj⟩, fun H6 => LcJ G1 H1 G2 D H6 (((ds.take k).flatMap fun d => (ess d).map (f d)) ++ ((ess d).take (j' + 1)).map (f d)), fun H6 J6 => ⟨zs.length - (j' + 1), by omega, rfl, hlt2, J6⟩, ?_⟩
      rintro z' H6 ⟨rfl, hz'⟩
      have ez : z' = z := Option.some.inj ((hz' zs (SqL.of (r5.s _ _ (x5 _ _ eb)))).symm.trans hzj)
      subst ez
      refine ⟨hw1 x' z', ?_⟩
      dsimp only [tYes]
      rw [if_pos rfl]
      refine he d mem e (List.mem_of_getElem? hei) x' z' G5 ((x0.trans r1.g).trans r5.g) (hdv.up r5.g) (hev.up x5) G5 H6 (Ex.refl _) r5.s _ fun v6 G6 H7 r6 hd6 => ⟨ys5, r6.h _ _ d5, ?_, ⟨G6, ys5 ++ [v6], ?_, x5.trans r6.g, r6.n D (by rw [d5]; simp) n5, upd_same, ?_⟩⟩
      · rw [a5.len, List.length_append, lenM, List.length_map, List.length_take]
        have hje : j' < (ess d).length := by rw [← hzs.len]; exact hlt2
        exact Nat.lt_of_le_of_lt (by omega : _ ≤ 50000) (by decide)
      · have nD : G6 D = none := r6.n D (by rw [d5]; simp) n5
        have r7 := r5.trans r6
        exact ⟨Ex.mut r7.h I.fr, r7.g, fun a o h => by rw [upd_ne (fun e => by rw [e, nD] at h; cases h)]; exact r7.s _ _ h, r7.n, r7.t⟩
      · rw [take_da hei, List.map_append, ← List.append_assoc]
        exact (a5.up r6.g).app (.cons hd6 .nil)
    · have ej : j' = zs.length := by omega
      subst ej
      refine .inl ⟨⟨zs, SqL.of (r5.s _ _ (x5 _ _ eb)), Nat.le_refl _⟩, ⟨⟨G5, ys5, r5, n5, d5, ?_⟩, I.fr⟩⟩
      rw [hzs.len, List.take_length] at a5
      rw [etake, List.flatMap_append]
      simpa using a5
  · have ek : k = xs.length := by omega
    subst ek
    rw [hs.len, List.take_length] at I
    obtain ⟨G3, r3, h3⟩ := I.done
    exact .inl ⟨⟨xs, SqT.of (I.sub _ _ ea), Nat.le_refl _⟩, q (.ref D) G3 H' (r1.trans r3) h3⟩
end
end Lf
set_option maxHeartbeats 4000000
/-! {k: v, **e}: e a dict with other keys -/
namespace Lf
open PySem PySem.Spec PyProof.Rows L2 Evl
section
variable {prog : Program} {w : World} {K : Type} [DecidableEq K] {knd : KeyKind prog w K} {A : Around} {E : Value → Shared → Prop} {s : Shared} {d o : Addr} {kvs more : List (K × Value)}
/-- a key that is not there is put at the end -/
theorem put_fresh {k : K} {key v : Value} {Q : Unit → Shared → Prop} (is : knd.is k key = true) (D : s.heap.DictOf knd d kvs) (new : k ∉ kvs.map (·.1)) (few : kvs.length ≤ sizeLine)
    (q : ∀ h', h'.DictOf knd d (kvs ++ [(k, v)]) → Heap.SameBut d s.heap h' → Q () { s with heap := h' }) : wpAny (model prog w) A (dictPut d (knd.hash k) key v) Q E s := by
  obtain ⟨ob, es, ep, e1, e2, e3, e4, e5, e6⟩ := D
  have sz : es.size ≤ sizeLine := by
    have z := e5.length
    rw [← Array.length_toList, z]
    exact few
  have f0 : (es.findIdx? fun e => knd.is k e.key) = none := by
    have z : (es.findIdx? fun e => knd.is k e.key) = kvs.findIdx? fun kv => decide (kv.1 = k) := by
      rw [← e5.findIdx k]
      obtain ⟨l⟩ := es
      simp
    rw [z, List.findIdx?_eq_none_iff]
    exact fun x hx => decide_eq_false fun e => new (List.mem_map.mpr ⟨x, hx, e⟩)
  unfold dictPut
  refine wpAny_bind (wpAny_dictFind_of is e1 e3 e4 ?_)
  rw [f0]
  have app : Pairs knd (es.push ⟨knd.hash k, key, v⟩).toList (kvs ++ [(k, v)]) := by
    have z := e5.append is (knd.hash k) v
    obtain ⟨l⟩ := es
    simpa using z
  have nd : ((kvs ++ [(k, v)]).map (·.1)).Nodup := by
    rw [List.map_append, List.nodup_append]
    exact ⟨e6, by simp, fun a ha b hb => by
      simp only [List.map_cons, List.map_nil, List.mem_singleton] at hb
      rw [hb]
      exact fun z => new (z ▸ ha)⟩
  exact wpAny_updateDictKeys (hz := sz) e1 e3 (q _ ⟨_, _, ep + 1, Heap.get?_update_self _ e1 (Obj.isFreed_of_dict (Obj.data_mapDictKeys e3 _)), e2.mapDictKeys _, Obj.data_mapDictKeys e3 _, e4.push is _, app, nd⟩ (Heap.SameBut.update ..))
/-- d takes over the entries of o, whose keys are other ones -/
theorem merge_fresh {Q : Unit → Shared → Prop} (ne : d ≠ o) (ns : (o == sysModules) = false) (k0 : kvs ≠ []) (D : s.heap.DictOf knd d kvs) (O : s.heap.DictOf knd o more) (nd : ((kvs ++ more).map (·.1)).Nodup) (few : kvs.length + more.length ≤ sizeLine)
    (q : ∀ h', h'.DictOf knd d (kvs ++ more) → Heap.SameBut d s.heap h' → Q () { s with heap := h' }) : wpAny (model prog w) A (mergeMapping d (.ref o) false) Q E s := by
  obtain ⟨oo, eo, po, u1, u2, u3, u4, u5, u6⟩ := id O
  obtain ⟨od, ed, pd, v1, v2, v3, v4, v5, v6⟩ := id D
  have len : more.length = eo.size := by rw [← u5.length, Array.length_toList]
  unfold mergeMapping
  refine wpAny_bind (wpAny_isInstance O.typeIs isSubtype_dict_dict ?_)
  rw [if_pos rfl]
  refine wpAny_bind (wpAny_specialOf O.typeIs F.slot_dict_iter.lookup ?_)
  rw [beq_self_eq_true]
  dsimp only
  refine wpAny_bind (wpAny_pure ?_)
  dsimp only
  rw [if_neg (by rw [ns]; exact Bool.false_ne_true)]
  refine wpAny_bind (wpAny_dictEntries v1 v3 ?_)
  have ne0 : ed.isEmpty = false := by
    have z := v5.length
    cases h : ed.isEmpty with
    | false => rfl
    | true =>
      rw [Array.isEmpty_iff.mp h] at z
      exact absurd (List.length_eq_zero_iff.mp z.symm) k0
  rw [if_neg (by rw [ne0]; exact Bool.false_ne_true)]
  refine wpAny_bind (wpAny_dictEntries u1 u3 ?_)
  refine wpAny_bind (wpAny_dictEpoch u1 u3 ?_)
  refine wpAny_bind (wpAny_forIn_list _ (fun rest _ s' => ∃ h' i, s' = { s with heap := h' } ∧ rest = (List.range eo.size).drop i ∧ i ≤ eo.size ∧ h'.DictOf knd d (kvs ++ more.take i) ∧ h'.get? o = some oo ∧ Heap.SameBut d s.heap h') _ ?_ ?_ _ _
    ⟨s.heap, 0, rfl, rfl, Nat.zero_le _, by rw [List.take_zero, List.append_nil]; exact D, u1, Heap.SameBut.refl _ _⟩)
  · rintro x rest b s' ⟨h', i, rfl, er, hi, Di, uo, sm⟩
    have lt : i < eo.size := by
      apply Nat.lt_of_not_le
      intro z
      rw [List.drop_of_length_le (by rw [List.length_range]; exact z)] at er
      cases er
    have e1 : x :: rest = i :: (List.range eo.size).drop (i + 1) := by
      rw [er, List.drop_eq_getElem_cons (by rw [List.length_range]; exact lt), List.getElem_range]
    obtain ⟨rfl, rfl⟩ : x = i ∧ rest = (List.range eo.size).drop (i + 1) := ⟨(List.cons.inj e1).1, (List.cons.inj e1).2⟩
    refine wpAny_bind (wpAny_dictEntries uo u3 ?_)
    rw [Array.getElem?_eq_getElem lt]
    have mx : more[x]? = some more[x] := List.getElem?_eq_getElem (by rw [len]; exact lt)
    generalize more[x] = kv at mx
    obtain ⟨k, v⟩ := kv
    obtain ⟨y1, y2⟩ := u5.get? (e := eo[x]) (by simp [lt]) mx
    obtain ⟨k', y3, y4⟩ := u4 eo[x] (Array.getElem_mem lt)
    obtain rfl : k' = k := knd.inj _ _ _ y3 y1
    have tk : more.take (x + 1) = more.take x ++ [(k', v)] := by rw [List.take_add_one, mx]; rfl
    have fresh : k' ∉ (kvs ++ more.take x).map (·.1) := fun z => by
      have n2 : ((kvs ++ more.take (x + 1)).map (·.1)).Nodup := by
        refine List.Sublist.nodup (List.Sublist.map _ ?_) nd
        exact List.Sublist.append (List.Sublist.refl _) (List.take_sublist _ _)
      rw [tk, ← List.append_assoc, List.map_append, List.nodup_append] at n2
      exact n2.2.2 k' z k' (by simp) rfl
    dsimp only
    rw [y4, y2, if_neg Bool.false_ne_true]
    refine wpAny_bind (wpAny_holding (put_fresh y3 Di fresh ?_ fun h2 D2 s2 => ?_))
    · rw [List.length_append, List.length_take]
      omega
    · have o2 : h2.get? o = some oo := (s2.2 o (Ne.symm ne)).trans uo
      refine wpAny_bind (wpAny_dictEpoch o2 u3 ?_)
      rw [if_neg (by simp)]
      exact wpAny_pure ⟨h2, x + 1, rfl, rfl, lt, by rw [tk, ← List.append_assoc]; exact D2, o2, sm.trans s2⟩
  · rintro b s' ⟨h', i, rfl, er, hi, Di, uo, sm⟩
    have : i = eo.size := by
      apply Nat.le_antisymm hi
      have z := congrArg List.length er
      rw [List.length_drop, List.length_range, List.length_nil] at z
      omega
    subst this
    rw [← len, List.take_length] at Di
    exact wpAny_pure (q h' Di sm)
end
section
variable {prog : Program} {w : World} {A : Around} {E : Value → Shared → Prop} {s : Shared}
/-- one pair, then a mapping -/
theorem disp_one {tk tv te : Sem Value} {Q : Value → Shared → Prop}
    (h : wpAny (model prog w) A (subDict [(tk, tv)]) (fun d s1 => wpAny (model prog w) A te (fun m s2 => wpAny (model prog w) A (mergeMapping d m false) (fun _ s3 => Q (.ref d) s3) (fun _ _ => False) s2) E s1) E s) :
    wpAny (model prog w) A (dictDisplay [(some tk, tv), (none, te)]) Q E s := by
  unfold dictDisplay
  refine wpAny_bind ?_
  rw [List.forIn_cons]
  dsimp only [List.nil_append, List.length_cons, List.length_nil]
  rw [if_neg (by decide)]
  refine wpAny_bind (wpAny_pure ?_)
  dsimp only
  rw [List.forIn_cons]
  dsimp only
  refine wpAny_bind (wpAny_bind ?_)
  rw [if_neg (by simp)]
  refine wpAny_bind (wpAny_mono h (fun d s1 h1 => ?_) fun _ _ z => z)
  refine wpAny_pure ?_
  dsimp only
  refine wpAny_bind (wpAny_pure (wpAny_bind (wpAny_holding (wpAny_mono h1 (fun m s2 h2 => ?_) fun _ _ z => z))))
  refine wpAny_bind (wpAny_onRaise (wpAny_tryCatch (wpAny_onRaise (wpAny_holding (wpAny_mono h2 (fun _ s3 h3 => ?_) fun _ _ z => z.elim)))))
  refine wpAny_pure (wpAny_pure ?_)
  dsimp only
  exact wpAny_bind (wpAny_pure (wpAny_pure h3))
end
/-- {k: v, **e} -/
def tDisp1 (tk tv te : TE) : TE := fun σ H Q => ∀ p, H p = none → tPairs [(tk, tv)] σ (upd H p (.dK [])) fun ps H2 => ∃ (key : Key) (y : V), ps = [(kV key, y)] ∧ H2 p = some (.dK []) ∧
  te σ (upd H2 p (.dK [(key, y)])) fun z H3 => ∃ (o : Addr) (more : List (Key × V)), z = .ref o ∧ H3 p = some (.dK [(key, y)]) ∧ H3 o = some (.dK more) ∧ (((key, y) :: more).map Prod.fst).Nodup ∧ 1 + more.length ≤ sizeLine ∧ Q (.ref p) (upd H3 p (.dK ((key, y) :: more)))
theorem pe_disp1 {X : Cx} {k v e : Expr} {tk tv te : TE} {pos : Pos} (hk : PE X k tk) (hv : PE X v tv) (he : PE X e te) : PE X (.Dict [some k, none] [v, e] pos) (tDisp1 tk tv te) := by
  refine ⟨fun pins s σ H Q I q => ?_⟩
  have fr := I.hok.fresh (Nat.le_refl s.heap.objs.size)
  have I1 := I.laid (a := s.heap.objs.size) (o := .dK []) (h' := s.heap.push { cls := .type "dict", data := .dict #[] }) (t' := s.toks) (fun _ _ q => Heap.get?_push_of_some _ q) (Nat.le_refl _) (dk_empty s.heap I.big)
  have one : PPs X pos [some k] [v] [(tk, tv)] := pps_cons hk hv pps_nil
  rw [arm_eval_Dict]
  refine wpAny_bind (wpAny_standAt ?_)
  refine disp_one (wpAny_subDict (knd := mixKind X.prog X.w) (by show 1 ≤ 15; decide) ?_)
  refine thn (one.run pins _ σ _ _ I1 (q _ fr)) ?_
  · rintro ws s2 ⟨ps, H2, I2, rel, key, y, rfl, e2, q2⟩
    obtain ⟨rs, c, rk⟩ := carries_of (P := X.prog) (w := X.w) (kvs := [(key, y)]) rel
    obtain ⟨z, hd, vs0, r0, dd⟩ := dk_of I2.hok e2
    cases r0
    refine ⟨rs, c, dd, fun h' dd' hs => ?_⟩
    have hx : ∃ q, h'.get? s.heap.objs.size = some q := let ⟨q, _, _, hq, _⟩ := dd'; ⟨q, hq⟩
    have I3 := d_write (t' := s2.toks + ws.length) I2 (by rw [e2]; exact True.intro) hs hx (dk_new (kvs := [(key, y)]) (show 1 ≤ sizeLine by decide) hd (rk.merge .nil) dd')
    dsimp only
    refine wpAny_bind (thn (he.run pins _ σ _ _ I3 q2) ?_)
    rintro u s4 ⟨zz, H4, I4, rz, o, more, rfl, e3, e4, nd, few, q4⟩
    obtain rfl : u = Value.ref o := rz
    have ne : s.heap.objs.size ≠ o := fun t => by
      rw [← t, e3] at e4
      have e4 : [(key, y)] = more := by cases e4; rfl
      rw [← e4] at nd
      simp at nd
    obtain ⟨z1, hd1, vs1, r1, dd1⟩ := dk_of I4.hok e3
    obtain ⟨z2, hd2, vs2, r2, dd2⟩ := dk_of I4.hok e4
    have rr : KV ((key, y) :: more) (vs1 ++ vs2) := by
      cases r1 with
      | cons h t => cases t; exact .cons h r2
    have len1 := r1.length
    have len2 := r2.length
    have ks : vs1.map (·.1) = [key] := by
      have z := r1.keys
      rw [← z]; rfl
    have ks2 : vs2.map (·.1) = more.map Prod.fst := r2.keys.symm
    refine wpAny_bind (wpAny_standAt (wpAny_pure ?_))
    refine merge_fresh (knd := mixKind X.prog X.w) ne hd2 (fun t => by rw [t] at ks; cases ks) dd1 dd2 (by rw [List.map_append, ks, ks2]; exact nd) (by rw [← len1, ← len2]; exact few) (fun h5 d5 s5 => ?_)
    refine ⟨.ref s.heap.objs.size, _, ?_, rfl, q4⟩
    have h5x : ∃ q, h5.get? s.heap.objs.size = some q := let ⟨q, _, _, hq, _⟩ := d5; ⟨q, hq⟩
    exact d_write (t' := s4.toks) I4 (by rw [e3]; exact True.intro) s5 h5x (dk_new (kvs := (key, y) :: more) (by rw [List.length_cons]; omega) hd1 rr d5)
end Lf
set_option maxHeartbeats 4000000
/-! More of what evaluates to data -/
namespace Lf
open PySem PySem.Spec L2 Evl
section
variable {K : PySem.W.Frag} {Lm : List V → Prop} {L : Addr} {σ : L2.St} {G : Hp} {to ta tb tc te : TE} {t u : TT} {d : PyData} {ds : List PyData} {ws : List Str} {z x0 : Str} {R : List PyData → Prop}
theorem ev_eqI {i j : Int} (ha : Ev ta σ G (.int i)) (hb : Ev tb σ G (.int j)) : Ev (tOp rEq ta tb) σ G (.bl (decide (i = j))) := by
  have h := ev_op ha hb (rv_eq (x := V.int i) (y := V.int j) rfl)
  have : decide (V.int i = V.int j) = decide (i = j) := by rw [decide_eq_decide]; simp
  rwa [this] at h
theorem ev_neI {i j : Int} (ha : Ev ta σ G (.int i)) (hb : Ev tb σ G (.int j)) : Ev (tOp rNe ta tb) σ G (.bl (!decide (i = j))) := by
  have h := ev_op ha hb (rv_ne (x := V.int i) (y := V.int j) rfl)
  have : decide (V.int i = V.int j) = decide (i = j) := by rw [decide_eq_decide]; simp
  rwa [this] at h
theorem et_orT (h1 : EvT t σ G true) : EvT (tOr t u) σ G true := et_or (b := false) h1 fun z => by cases z
theorem et_andF (h1 : EvT t σ G false) : EvT (tAnd t u) σ G false := et_and (b := true) h1 fun z => by cases z
theorem ev_is {v w : V} (h : Ev te σ G v) (e : v = w) : Ev te σ G w := e ▸ h
theorem ev_sumD {is : List Int} (h : EvD te σ G (.list (is.map PyData.int))) : Ev (tCB (rSum K) (tCons te tNil)) σ G (.int is.sum) := fun H1 x Q q => h G H1 (Ex.refl _) x _ fun v G2 H2 r hd => by
  obtain ⟨a, xs, rfl, e, hs⟩ := hd.lst_
  cases da_ints hs
  exact ⟨a, is, rfl, SqL.of (r.s _ _ e), q H2 r.h⟩
theorem ev_eqET (ha : EvD ta σ G (.tuple ds)) : Ev (tOp (rEqE K) ta (tTup tNil)) σ G (.bl ds.isEmpty) := fun H1 x Q q => ha G H1 (Ex.refl _) x _ fun v G2 H2 r hd => ⟨by decide, fun p hp => by
  obtain ⟨a, xs, rfl, e, hs⟩ := hd.tup_
  have x3 : Ex H2 (upd H2 p (.tup [])) := Ex.new hp
  refine ⟨a, p, xs, rfl, rfl, SqT.of (x3 _ _ (r.s _ _ e)), SqT.of upd_same, ?_⟩
  have : xs.isEmpty = ds.isEmpty := by cases hs <;> rfl
  rw [this]
  exact q _ (r.h.trans x3)⟩
theorem ev_intB {b : Bool} (h : Ev te σ G (.bl b)) : Ev (tCB (fun xs H Q => (∃ i, xs = [V.int i] ∧ Q (.int i) H) ∨ ∃ k, xs = [V.bl k] ∧ Q (.int (if k then 1 else 0)) H) (tCons te tNil)) σ G (.int (if b then 1 else 0)) := fun H1 x Q q => h H1 x _ fun H2 x2 => .inr ⟨b, rfl, q H2 x2⟩
theorem ev_eqSS {x y : Str} (ha : Ev ta σ G (.str x)) (hb : Ev tb σ G (.str y)) : Ev (tOp rEq ta tb) σ G (.bl (decide (x = y))) := by
  have h := ev_op ha hb (rv_eq (x := V.str x) (y := V.str y) rfl)
  have : decide (V.str x = V.str y) = decide (x = y) := by rw [decide_eq_decide]; simp
  rwa [this] at h
theorem ev_neSS {x y : Str} (ha : Ev ta σ G (.str x)) (hb : Ev tb σ G (.str y)) : Ev (tOp rNe ta tb) σ G (.bl (!decide (x = y))) := by
  have h := ev_op ha hb (rv_ne (x := V.str x) (y := V.str y) rfl)
  have : decide (V.str x = V.str y) = decide (x = y) := by rw [decide_eq_decide]; simp
  rwa [this] at h
theorem da_strs {H : Hp} {vs : List V} {ws : List Str} (h : DaAll H vs (ws.map PyData.str)) : vs = ws.map V.str ∧ ∀ x ∈ ws, x.length ≤ 1000 := by
  induction ws generalizing vs with
  | nil => cases h; exact ⟨rfl, fun x hx => by cases hx⟩
  | cons b bs ih =>
    cases h with
    | cons h t =>
      obtain ⟨rfl, hl⟩ := h.str_
      obtain ⟨rfl, hb⟩ := ih t
      refine ⟨rfl, fun x hx => ?_⟩
      rcases List.mem_cons.mp hx with rfl | hx
      · exact hl
      · exact hb x hx
theorem sum_lens {ws : List Str} (h : ∀ x ∈ ws, x.length ≤ 1000) : (ws.map (·.length)).sum ≤ ws.length * 1000 := by
  induction ws with
  | nil => exact Nat.zero_le _
  | cons b bs ih =>
    rw [List.map_cons, List.sum_cons, List.length_cons, Nat.succ_mul]
    have := h b (List.mem_cons_self ..)
    have := ih fun x hx => h x (List.mem_cons_of_mem _ hx)
    omega
theorem ev_join (ho : Ev to σ G (.str z)) (h : EvD te σ G (.list (ws.map PyData.str))) (hl : ws.length ≤ 5000) (hz : z.length ≤ 10) :
    Ev (tM1 (fun x xs H Q => ∃ a p, ∃ ys : List Str, x = .str a ∧ xs = [.ref p] ∧ (SqL K H p (ys.map V.str) ∨ SqT K H p (ys.map V.str)) ∧ (ys.map (·.length)).sum + ys.length * a.length ≤ 16777216 ∧ Q (.str (Txt.join a ys)) H) to te) σ G (.str (Txt.join z ws)) := fun H1 x Q q => ho H1 x _ fun H2 x2 => ⟨⟨z, rfl⟩, h G H2 (Ex.refl _) (x.trans x2) _ fun v G2 H3 r hd => by
  obtain ⟨a, xs, rfl, e, hs⟩ := hd.lst_
  obtain ⟨rfl, hb⟩ := da_strs hs
  refine ⟨z, a, ws, rfl, rfl, .inl (SqL.of (r.s _ _ e)), ?_, q H3 (x2.trans r.h)⟩
  have h1 := sum_lens hb
  have h2 : ws.length * 1000 ≤ 5000 * 1000 := Nat.mul_le_mul_right _ hl
  have h3 : ws.length * z.length ≤ 5000 * 10 := Nat.mul_le_mul hl hz
  omega⟩
theorem evd_slL {tl : TE} {tlo thi : TO} {lo hi : Option Int} {ds : List PyData} (h : EvD tl σ G (.list ds)) (h1 : EvO tlo σ G lo) (h2 : EvO thi σ G hi) : EvD (tSl (rSlL K) tl tlo thi) σ G (.list (cutD ds lo hi)) := fun G1 H1 x s Q q =>
  h G1 H1 x s _ fun v G2 H2 r hd => h1 H2 ((x.trans r.g).trans r.s) _ fun H3 x3 => h2 H3 (((x.trans r.g).trans r.s).trans x3) _ fun H4 x4 => by
    obtain ⟨a, xs, rfl, e, hs⟩ := hd.lst_
    have r4 := r.trans (Gr.keep r.s (x3.trans x4))
    refine ⟨a, xs, rfl, SqL.of (r4.s _ _ e), fun p hp => ?_⟩
    have n := Gr.new (o := .lst (cutV xs lo hi)) r4.s hp rfl
    exact q (.ref p) _ _ (r4.trans n) (.lst upd_same ((cut_da hs lo hi).up n.g))
theorem dr_tupleOf (h : Dr Lm L te σ G (fun d => ∃ ds, d = .list ds ∧ R ds)) : Dr Lm L (tCB (fun xs H Q => ∃ p ys, xs = [V.ref p] ∧ ((SqL K H p ys ∧ ∀ l, H l = none → Q (.ref l) (upd H l (.tup ys))) ∨ (SqT K H p ys ∧ Q (.ref p) H))) (tCons te tNil)) σ G (fun d => ∃ ds, d = .tuple ds ∧ R ds) := fun G1 H1 x w Q q => h G1 H1 x w _ fun v d G2 H2 r ⟨ds, e, hR⟩ hd => by
  subst e
  obtain ⟨a, xs, rfl, e, hs⟩ := hd.lst_
  refine ⟨a, xs, rfl, .inl ⟨SqL.of (r.s _ _ e), fun l hl => ?_⟩⟩
  have n := Gr.new (o := .tup xs) r.s hl rfl
  exact q (.ref l) _ _ _ (r.gr n) ⟨ds, rfl, hR⟩ (.tup upd_same (hs.up n.g))
theorem evd_listOf (h : EvD te σ G (.tuple ds)) : EvD (tCB (fun xs H Q => ∃ p ys, xs = [V.ref p] ∧ (SqL K H p ys ∨ SqT K H p ys) ∧ ∀ l, H l = none → Q (.ref l) (upd H l (.lst ys))) (tCons te tNil)) σ G (.list ds) := fun G1 H1 x s Q q => h G1 H1 x s _ fun v G2 H2 r hd => by
  obtain ⟨a, xs, rfl, e, hs⟩ := hd.tup_
  refine ⟨a, xs, rfl, .inr (SqT.of (r.s _ _ e)), fun l hl => ?_⟩
  have n := Gr.new (o := .lst xs) r.s hl rfl
  exact q (.ref l) _ _ (r.trans n) (.lst upd_same (hs.up n.g))
theorem evd_listOfL (h : EvD te σ G (.list ds)) : EvD (tCB (fun xs H Q => ∃ p ys, xs = [V.ref p] ∧ (SqL K H p ys ∨ SqT K H p ys) ∧ ∀ l, H l = none → Q (.ref l) (upd H l (.lst ys))) (tCons te tNil)) σ G (.list ds) := fun G1 H1 x s Q q => h G1 H1 x s _ fun v G2 H2 r hd => by
  obtain ⟨a, xs, rfl, e, hs⟩ := hd.lst_
  refine ⟨a, xs, rfl, .inl (SqL.of (r.s _ _ e)), fun l hl => ?_⟩
  have n := Gr.new (o := .lst xs) r.s hl rfl
  exact q (.ref l) _ _ (r.trans n) (.lst upd_same (hs.up n.g))
theorem ev_neR {x y : Str} (ha : Ev ta σ G (.str x)) (hb : Ev tb σ G (.str y)) (e : x = y) : Ev (tOp rNe ta tb) σ G (.bl false) := by
  have h := ev_op ha hb (rv_ne (x := V.str x) (y := V.str y) rfl)
  rw [e, decide_eq_true rfl] at h
  exact h
theorem evd_catS {A B : List Str} (ha : EvD ta σ G (.list (A.map PyData.str))) (hb : EvD tb σ G (.list (B.map PyData.str))) (hl : A.length + B.length ≤ 100000) : EvD (tOp rCat ta tb) σ G (.list ((A ++ B).map PyData.str)) := by
  rw [List.map_append]
  exact evd_catL ha hb (by rw [List.length_map, List.length_map]; exact hl)
theorem evd_takeS {A : List Str} {n : Nat} (ha : EvD ta σ G (.list (A.map PyData.str))) (hb : Ev tb σ G (.int (n : Int))) : EvD (tSl (rSlL K) ta tNoPart (tPart tb)) σ G (.list ((A.take n).map PyData.str)) := by
  rw [List.map_take, ← cutD_to]
  exact evd_slL ha EvO.none_ (EvO.some_ hb)
theorem evd_dropS {A : List Str} {n : Nat} (ha : EvD ta σ G (.list (A.map PyData.str))) (hb : Ev tb σ G (.int (n : Int))) : EvD (tSl (rSlL K) ta (tPart tb) tNoPart) σ G (.list ((A.drop n).map PyData.str)) := by
  rw [List.map_drop, ← cutD_from]
  exact evd_slL ha (EvO.some_ hb) EvO.none_
end
section
variable {K : PySem.W.Frag} {σ : L2.St} {G : Hp} {to te : TE} {z t : Str}
theorem evd_split (ho : Ev to σ G (.str t)) (h : Ev te σ G (.str z)) (hz : (z.length == 0) = false) (ht : t.length + 2 ≤ sizeLine) (hw : ∀ x ∈ Txt.split t z, x.length ≤ 1000) :
    EvD (tM1 (fun x xs H Q => ∃ a b, x = .str a ∧ xs = [.str b] ∧ (b.length == 0) = false ∧ a.length + 2 ≤ sizeLine ∧ rNewStrs (Txt.split a b) H Q) to te) σ G (.list ((Txt.split t z).map PyData.str)) := fun G1 H1 x s Q q => ho H1 (x.trans s) _ fun H2 x2 => ⟨⟨t, rfl⟩, h H2 ((x.trans s).trans x2) _ fun H3 x3 => ⟨t, z, rfl, rfl, hz, ht, fun p hp => by
  have s3 := s.trans (x2.trans x3)
  have n := Gr.new (o := .lst ((Txt.split t z).map V.str)) s3 hp rfl
  refine q (.ref p) _ _ ((Gr.keep s (x2.trans x3)).trans n) (.lst upd_same ?_)
  have : ∀ l : List Str, (∀ x ∈ l, x.length ≤ 1000) → DaAll (upd G1 p (.lst ((Txt.split t z).map V.str))) (l.map V.str) (l.map PyData.str) := fun l => by
    induction l with
    | nil => intro _; exact .nil
    | cons b l ih => intro hl; exact .cons (.str _ (hl b (List.mem_cons_self ..))) (ih fun x hx => hl x (List.mem_cons_of_mem _ hx))
  exact this _ hw⟩⟩
end
theorem spF_len {F : List PyData → Option PyData} {n : Nat} (hF : ∀ ds d, F ds = some d → ds.length = n) {vs : List V} {H : Hp} {Q : VK} {E : XK} (h : spF F vs H Q E) : vs.length = n := by
  obtain ⟨G, ds, d, _, h2, h3, _⟩ := h
  rw [h2.len, hF ds d h3]
/-! partial promises of one and of two values -/
def spO (f : PyData → Option PyData) : Sp := spF fun ds => match ds with
  | [d] => f d
  | _ => none
theorem spO_len {f : PyData → Option PyData} {vs : List V} {H : Hp} {Q : VK} {E : XK} (h : spO f vs H Q E) : vs.length = 1 := by
  refine spF_len (fun ds d e => ?_) h
  split at e
  · rfl
  · cases e
theorem spO_of {f : PyData → Option PyData} {vs : List V} {H : Hp} {Q : VK} {E : XK} (h : spO f vs H Q E) : ∃ G v d e, vs = [v] ∧ Ex G H ∧ Da G v d ∧ f d = some e ∧ ∀ v' G' H', Gr G H G' H' → Da G' v' e → Q v' H' := by
  obtain ⟨G, ds, d, s, h2, h3, k⟩ := h
  dsimp only at h3
  split at h3
  · cases h2 with
    | cons h t =>
      cases t
      exact ⟨G, _, _, d, rfl, s, h, h3, k⟩
  · cases h3
theorem evd_callO {f : PyData → Option PyData} {σ : L2.St} {G : Hp} {te : TE} {d e : PyData} {E : XK} (h : EvD te σ G d) (hf : f d = some e) : EvD (tCallD (spO f) E (tCons te tNil)) σ G e := evd_call (evd_cons h evd_nil) hf
def sp2 (f : PyData → PyData → Option PyData) : Sp := spF fun ds => match ds with
  | [d, e] => f d e
  | _ => none
theorem sp2_len {f : PyData → PyData → Option PyData} {vs : List V} {H : Hp} {Q : VK} {E : XK} (h : sp2 f vs H Q E) : vs.length = 2 := by
  refine spF_len (fun ds d e => ?_) h
  split at e
  · rfl
  · cases e
theorem sp2_of {f : PyData → PyData → Option PyData} {vs : List V} {H : Hp} {Q : VK} {E : XK} (h : sp2 f vs H Q E) : ∃ G v v2 d d2 e, vs = [v, v2] ∧ Ex G H ∧ Da G v d ∧ Da G v2 d2 ∧ f d d2 = some e ∧ ∀ v' G' H', Gr G H G' H' → Da G' v' e → Q v' H' := by
  obtain ⟨G, ds, d, s, h2, h3, k⟩ := h
  dsimp only at h3
  split at h3
  · cases h2 with
    | cons h t =>
      cases t with
      | cons h' t =>
        cases t
        exact ⟨G, _, _, _, _, d, rfl, s, h, h', h3, k⟩
  · cases h3
theorem evd_call2 {f : PyData → PyData → Option PyData} {σ : L2.St} {G : Hp} {ta tb : TE} {d d2 e : PyData} {E : XK} (h : EvD ta σ G d) (h2 : EvD tb σ G d2) (hf : f d d2 = some e) : EvD (tCallD (sp2 f) E (tCons ta (tCons tb tNil))) σ G e := evd_call (evd_cons h (evd_cons h2 evd_nil)) hf
theorem atI_get {ds : List PyData} {i : Nat} (h : i < ds.length) : atI ds ((i : Nat) : Int) = some (ds.getD i .none) := atI_nat (by rw [List.getD_eq_getElem?_getD, List.getElem?_eq_getElem h]; rfl)
theorem walk_enumT {K : PySem.W.Frag} {a : Addr} {xs : List V} : Walk (IteT K a) xs.length (fun H => SqT K H a xs) (YPair (fun i => some (.int (i : Nat))) (fun i => xs[i]?)) := by
  refine ⟨fun i _ hi q => ⟨xs, xs[i], q, by simp [hi]⟩, fun _ q => ⟨xs, q, rfl⟩, fun i H v H' _ q y => ?_⟩
  obtain ⟨T, x, h1, h2, h3, h4⟩ := y
  exact ⟨T, .int (i : Nat), x, h1, h2, h3, rfl, h4 xs q⟩
theorem none_of_ex {H H' : Hp} {p : Addr} (x : Ex H H') (h : H' p = none) : H p = none := fresh_back x h
theorem gr_add {G H G' H' : Hp} {q : Addr} {o : HO} (r : Gr G H G' H') (hq : H q = none) (hg : G' q = none) (hh : H' q = some o) (ho : dataO o = true) : Gr G H (upd G' q o) H' := by
  refine ⟨r.h, r.g.trans (Ex.new hg), fun a u h => ?_, fun a e1 e2 => ?_, fun a u h => ?_⟩
  · by_cases e : a = q
    · subst e
      rw [upd_same] at h
      cases h
      exact hh
    · rw [upd_ne e] at h
      exact r.s _ _ h
  · rw [upd_ne (fun e => e1 (by rw [e]; exact hq))]
    exact r.n a e1 e2
  · by_cases e : a = q
    · subst e
      rw [upd_same] at h
      cases h
      exact .inr ho
    · rw [upd_ne e] at h
      exact r.t a u h
theorem gr_mut {G H G' H' : Hp} {q : Addr} {o : HO} (r : Gr G H G' H') (hq : H q = none) (hg : G' q = none) : Gr G H G' (upd H' q o) :=
  ⟨Ex.mut r.h hq, r.g, fun c u h => by rw [upd_ne (fun e => by rw [e, hg] at h; cases h)]; exact r.s _ _ h, r.n, r.t⟩
theorem evd_tupleOfL {K : PySem.W.Frag} {σ : L2.St} {G : Hp} {te : TE} {ds : List PyData} (h : EvD te σ G (.list ds)) : EvD (tCB (fun xs H Q => ∃ p ys, xs = [V.ref p] ∧ ((SqL K H p ys ∧ ∀ l, H l = none → Q (.ref l) (upd H l (.tup ys))) ∨ (SqT K H p ys ∧ Q (.ref p) H))) (tCons te tNil)) σ G (.tuple ds) := fun G1 H1 x s Q q => h G1 H1 x s _ fun v G2 H2 r hd => by
  obtain ⟨a, xs, rfl, e, hs⟩ := hd.lst_
  refine ⟨a, xs, rfl, .inl ⟨SqL.of (r.s _ _ e), fun l hl => ?_⟩⟩
  have n := Gr.new (o := .tup xs) r.s hl rfl
  exact q (.ref l) _ _ (r.trans n) (.tup upd_same (hs.up n.g))
theorem log_lt {i : Int} {n : Nat} (h0 : 0 ≤ i) (h : i < 2 ^ n) (hn : 0 < n) : i.natAbs.log2 < n := PySem.Flt.log2_lt_of hn (by
  have : ((i.natAbs : Nat) : Int) < ((2 ^ n : Nat) : Int) := by
    rw [Int.natAbs_of_nonneg h0]
    push_cast
    exact h
  exact_mod_cast this)
theorem log_small {i : Int} (h0 : 0 ≤ i) (h : i < 4294967296) : i.natAbs.log2 < 5000 := by
  by_cases z : i.natAbs = 0
  · rw [z]; decide
  · have h2 : i.natAbs < 2 ^ 5000 := Nat.lt_of_lt_of_le (show i.natAbs < 2 ^ 32 by rw [show (2:Nat) ^ 32 = 4294967296 from rfl]; omega) (Nat.pow_le_pow_right (by decide) (by decide))
    exact (Nat.log2_lt z).mpr h2
theorem ev_in2 {K : PySem.W.Frag} {σ : L2.St} {G : Hp} {te : TE} {x a b : Str} (h : Ev te σ G (.str x)) : Ev (tOp (rIn K false) te (tTup (tCons (tC (.str a)) (tCons (tC (.str b)) tNil)))) σ G (.bl (inV (.str x) [.str a, .str b])) := fun H1 e Q q => h H1 e _ fun H2 x2 =>
  ⟨show 2 ≤ sizeLine by decide, fun p hp => ⟨p, [.str a, .str b], rfl, .inr (SqT.of upd_same), rfl, rfl, q _ (x2.trans (Ex.new hp))⟩⟩
theorem ev_cat2 {σ : L2.St} {G : Hp} {ta tb : TE} {x y : Str} (ha : Ev ta σ G (.str x)) (hb : Ev tb σ G (.str y)) (hl : x.length + y.length ≤ sizeLine) : Ev (tOp (fun x y H Q => ∃ i j, x = V.str i ∧ y = V.str j ∧ i.length + j.length ≤ sizeLine ∧ Q (V.str (i ++ j)) H) ta tb) σ G (.str (x ++ y)) := fun H1 e Q q => ha H1 e _ fun H2 x2 => hb H2 (e.trans x2) _ fun H3 x3 => ⟨x, y, rfl, rfl, hl, q H3 (x2.trans x3)⟩
abbrev rCat2 : R2 := fun x y H Q => ∃ i j, x = V.str i ∧ y = V.str j ∧ i.length + j.length ≤ sizeLine ∧ Q (V.str (i ++ j)) H
theorem ev_strI {σ : L2.St} {G : Hp} {te : TE} {i : Int} (h : Ev te σ G (.int i)) (hl : i.natAbs.log2 < 1920) : Ev (tCB (fun xs H Q => ∃ i, xs = [V.int i] ∧ i.natAbs.log2 < 1920 ∧ Q (V.str (Str.ofString (toString i))) H) (tCons te tNil)) σ G (.str (Str.ofString (toString i))) := fun H1 e Q q => h H1 e _ fun H2 x2 => ⟨i, rfl, hl, q H2 x2⟩
theorem q_asgC {sp : Sp} {E : XK} {tA : TA} {σ : L2.St} {G H : Hp} {ds : List PyData} {tz : TS} {D : Ends} {i : Nat} (s : Ex G H) (h : EvDs tA σ G ds) (k : ∀ vs G1 H1, Gr G H G1 H1 → DaAll G1 vs ds → sp vs H1 (fun v H2 => tz D (σ.set i (some v)) H2) E) : tSeq (tAsg (tCallD sp E tA) (gName i)) tz D σ H := h G H (Ex.refl _) s _ k
theorem dr_catL {Lm : List V → Prop} {L : Addr} {σ : L2.St} {G : Hp} {ta tb : TE} {ds : List PyData} {R : List PyData → Prop} (ha : Dr Lm L ta σ G (fun d => d = .list ds)) (hb : Dr Lm L tb σ G (fun d => ∃ es, d = .list es ∧ R es)) (hl : ∀ es, R es → ds.length + es.length ≤ 100000) : Dr Lm L (tOp rCat ta tb) σ G (fun d => ∃ es, d = .list (ds ++ es) ∧ R es) := fun G1 H1 x w Q q =>
  ha G1 H1 x w _ fun v d G2 H2 r e1 hd => hb G2 H2 (x.trans r.g) r.w _ fun w' d' G3 H3 r2 ⟨es, e2, p2⟩ he => by
    subst e1
    subst e2
    obtain ⟨a, xs, rfl, e1, h1⟩ := (hd.up r2.g).lst_
    obtain ⟨b, ys, rfl, e2, h2⟩ := he.lst_
    have r3 := r.trans r2
    refine ⟨a, b, xs, ys, rfl, rfl, r3.s _ _ e1, r3.s _ _ e2, by rw [h1.len, h2.len]; exact sz_of (hl _ p2), fun p hp => ?_⟩
    have n := Gr.new (o := .lst (xs ++ ys)) r3.s hp rfl
    exact q (.ref p) _ _ _ (r3.gr n) ⟨es, rfl, p2⟩ (.lst upd_same ((h1.app h2).up n.g))
theorem valV_none {kvs : List (Key × V)} {k : Key} (h : k ∉ kvs.map Prod.fst) : valV kvs k = none := by
  cases e : valV kvs k with
  | none => rfl
  | some v => exact absurd (valV_in e) h
theorem nodup_inr {l : List Str} (h : l.Nodup) : (l.map (Sum.inr : Str → Key)).Nodup := by
  refine List.Pairwise.map _ (fun a b hab => ?_) h
  intro z
  cases z
  exact hab rfl
theorem evd_dnew {σ : L2.St} {G : Hp} : EvD tDNewK σ G (.dict []) := fun G1 H1 x s Q q => fun p hp => have n := Gr.new (o := .dK []) s hp rfl; q (.ref p) _ _ n (.dic upd_same)
end Lf
set_option maxHeartbeats 4000000
/-! x < y and x in t, of data: y a tuple of data -/
namespace Lf
open PySem L2 Evl
def rLtD (K : PySem.W.Frag) : R2 := fun x y H Q => ∃ d e, Dp K H x d ∧ Dp K H y e ∧ PySem.W.alike d e = true ∧ d ≠ .none ∧ d.depth ≤ 32 ∧ Q (.bl (PySem.W.dataLt d e)) H
def rInDT (K : PySem.W.Frag) : R2 := fun x y H Q => ∃ d ds, Dp K H x d ∧ Dp K H y (.tuple ds) ∧ SeqAt.shaped d = true ∧ SeqAt.shaped (.tuple ds) = true ∧ Q (.bl (ds.any fun z => PyData.eqv z d)) H
section
variable {X : Cx} {n : Nat}
theorem op_ltD (hr : Room n X.A) : OpR X (compareOp .Lt) (rLtD X.K) := by
  intro pins s σ H x y v u Q I rx ry h
  obtain ⟨d, e, hd, he, al, ne, dep, q⟩ := h
  obtain ⟨as, r1⟩ := Dp.reads I d x v hd rx
  obtain ⟨bs, r2⟩ := Dp.reads I e y u he ry
  have hu := hr.units
  refine PySem.W.lt_data r1 r2 al ne ?_ ⟨.bl _, H, I, rfl, q⟩
  have := Nat.min_le_left d.depth e.depth
  omega
theorem op_inDT (hu : X.A.units + 65 < cLine) : OpR X (compareOp .In) (rInDT X.K) := by
  intro pins s σ H x y v u Q I rx ry h
  obtain ⟨d, ds, hd, he, sd, se, q⟩ := h
  obtain ⟨as, r1⟩ := Dp.reads I d x v hd rx
  obtain ⟨bs, r2⟩ := Dp.reads I (.tuple ds) y u he ry
  exact SeqAt.in_tuple_reads r2 r1 (SeqAt.canLay_of_shaped se) (SeqAt.canLay_of_shaped sd) (PyProof.Rows.room_in_shaped sd hu) ⟨.bl _, H, I, rfl, q⟩
end
section
variable {K : PySem.W.Frag} {σ : L2.St} {G : Hp} {ta tb : TE} {d e : PyData} {ds : List PyData}
theorem ev_ltD (ha : EvD ta σ G d) (hb : EvD tb σ G e) (f : flatD d = true) (f2 : flatD e = true) (al : PySem.W.alike d e = true) (ne : d ≠ .none) (dp : d.depth ≤ 32) : Ev (tOp (rLtD K) ta tb) σ G (.bl (PySem.W.dataLt d e)) := fun H1 x Q q => ha G H1 (Ex.refl _) x _ fun v G2 H2 r hd => hb G2 H2 r.g r.s _ fun w G3 H3 r3 he =>
  ⟨d, e, Da.dp d v (hd.up (r3.g.trans r3.s)) f, Da.dp e w (he.up r3.s) f2, al, ne, dp, q H3 (r.h.trans r3.h)⟩
theorem ev_inDT (ha : EvD ta σ G d) (hb : EvD tb σ G (.tuple ds)) (f : flatD d = true) (f2 : flatD (.tuple ds) = true) (s1 : SeqAt.shaped d = true) (s2 : SeqAt.shaped (.tuple ds) = true) : Ev (tOp (rInDT K) ta tb) σ G (.bl (ds.any fun z => PyData.eqv z d)) := fun H1 x Q q => ha G H1 (Ex.refl _) x _ fun v G2 H2 r hd => hb G2 H2 r.g r.s _ fun w G3 H3 r3 he =>
  ⟨d, ds, Da.dp d v (hd.up (r3.g.trans r3.s)) f, Da.dp _ w (he.up r3.s) f2, s1, s2, q H3 (r.h.trans r3.h)⟩
end
end Lf
set_option maxHeartbeats 4000000
/-! Dicts of data, enumerate, f-strings -/
namespace Lf
open PySem PySem.Spec L2 Evl
theorem keyD_inj {a b : Key} (h : keyD a = keyD b) : a = b := by
  cases a <;> cases b <;> cases h <;> rfl
theorem nodup_back {vs : List (Key × V)} (h : (vs.map fun p => keyD p.1).Nodup) : (vs.map Prod.fst).Nodup := by
  have e : (vs.map fun p => keyD p.1) = (vs.map Prod.fst).map keyD := by rw [List.map_map]; rfl
  rw [e] at h
  exact List.Pairwise.of_map keyD (fun a b hab e => hab (congrArg keyD e)) h
theorem nodup_forth {vs : List (Key × V)} (h : (vs.map Prod.fst).Nodup) : (vs.map fun p => keyD p.1).Nodup := by
  have e : (vs.map fun p => keyD p.1) = (vs.map Prod.fst).map keyD := by rw [List.map_map]; rfl
  rw [e]
  exact List.Pairwise.map _ (fun a b hab z => hab (keyD_inj z)) h
theorem mergeK_new : ∀ (more kvs : List (Key × V)), ((kvs ++ more).map Prod.fst).Nodup → mergeK kvs more = kvs ++ more
  | [], kvs, _ => by rw [List.append_nil]; rfl
  | a :: t, kvs, h => by
    have h2 : ((kvs ++ [a]) ++ t).map Prod.fst = (kvs ++ a :: t).map Prod.fst := by simp
    have fr : a.1 ∉ kvs.map Prod.fst := fun z => by
      rw [List.map_append, List.nodup_append] at h
      exact h.2.2 a.1 z a.1 (by simp) rfl
    show mergeK (putK kvs a.1 a.2) t = _
    rw [putK_new a.2 (valV_none fr)]
    show mergeK (kvs ++ [a]) t = _
    rw [mergeK_new t (kvs ++ [a]) (by rw [h2]; exact h), List.append_assoc]
    rfl
theorem DaKvs.app {H : Hp} {ds es : List (PyData × PyData)} {vs us : List (Key × V)} (h : DaKvs H vs ds) (h2 : DaKvs H us es) : DaKvs H (vs ++ us) (ds ++ es) := by
  induction ds generalizing vs with
  | nil => cases h; exact h2
  | cons d ds ih => cases h with | cons h t => exact .cons h (ih t)
theorem DaKvs.get {H : Hp} {ds : List (PyData × PyData)} {vs : List (Key × V)} (h : DaKvs H vs ds) {k : Key} {d : PyData} (hn : (ds.map Prod.fst).Nodup) (hm : (keyD k, d) ∈ ds) : ∃ v, valV vs k = some v ∧ Da H v d := by
  induction ds generalizing vs with
  | nil => cases hm
  | cons e ds ih =>
    cases h with
    | @cons k' v' vs' d' ds' hv t =>
      rw [List.map_cons, List.nodup_cons] at hn
      rcases List.mem_cons.mp hm with z | z
      · cases keyD_inj (Prod.mk.inj z).1
        cases (Prod.mk.inj z).2
        exact ⟨v', by unfold valV; rw [List.find?_cons_of_pos (by simp)]; rfl, hv⟩
      · obtain ⟨v, h1, h2⟩ := ih t hn.2 z
        refine ⟨v, ?_, h2⟩
        unfold valV at h1 ⊢
        rw [List.find?_cons_of_neg (by
          simp only [decide_eq_true_eq]
          rintro rfl
          exact hn.1 (List.mem_map.mpr ⟨_, z, rfl⟩))]
        exact h1
theorem DaKvs.not {H : Hp} {ds : List (PyData × PyData)} {vs : List (Key × V)} (h : DaKvs H vs ds) {k : Key} (hm : keyD k ∉ ds.map Prod.fst) : valV vs k = none := by
  refine valV_none fun z => hm ?_
  rw [h.keys]
  obtain ⟨p, hp, e⟩ := List.mem_map.mp z
  exact List.mem_map.mpr ⟨p, hp, by rw [← e]⟩
/-- a text is a key -/
def keyIn (k0 : Str) (ds : List (PyData × PyData)) : Bool := ds.any fun p => match p.1 with
  | .str x => decide (x = k0)
  | _ => false
theorem keyIn_iff {k0 : Str} {ds : List (PyData × PyData)} : keyIn k0 ds = true ↔ PyData.str k0 ∈ ds.map Prod.fst := by
  unfold keyIn
  rw [List.any_eq_true, List.mem_map]
  constructor
  · rintro ⟨⟨a, b⟩, hm, e⟩
    refine ⟨(a, b), hm, ?_⟩
    cases a with
    | str x => rw [of_decide_eq_true (show decide (x = k0) = true from e)]
    | _ => cases e
  · rintro ⟨⟨a, b⟩, hm, e⟩
    refine ⟨(a, b), hm, ?_⟩
    cases (show a = PyData.str k0 from e)
    exact decide_eq_true rfl
section
variable {X : Addr → Prop} {L p : Addr} {G0 H0 G H G1 H1 : Hp} {Ls B : List (Addr × Lo)} {K : PySem.W.Frag} {σ : L2.St} {te tk tv : TE} {tz : TS} {D : Ends} {i j : Nat} {d : PyData} {ds es : List (PyData × PyData)} {k0 : Str}
/-- {k: v} as an object that is still written -/
theorem q_newD1 (S : St X G0 H0 G H Ls) (hk : Ev tk σ G (.str k0)) (hv : EvD tv σ G d) (k : ∀ p G1 H1, ¬ X p → St X G0 H0 G1 H1 ((p, .dic [(.str k0, d)]) :: Ls) → Ex G G1 → tz D (σ.set i (some (.ref p))) H1) : tSeq (tAsg (tDisp [(tk, tv)]) (gName i)) tz D σ H := fun p hp => by
  have nx := S.notX hp
  have S1 := S.new (lo := .dic []) hp ⟨[], rfl, .nil⟩
  refine hk _ S1.s _ fun H2 x2 => ?_
  have S2 := S1.keep x2
  refine hv.go S2.s fun v G3 H3 r hd => ?_
  have S3 := S2.ev r
  obtain ⟨kvs, e, hn⟩ := (S3.l (p, .dic []) (.head _)).2.2
  cases hn
  exact ⟨e, [(.inr k0, v)], rfl, (show 1 ≤ 15 by decide), k p G3 _ nx (S3.mut (lo2 := .dic [(.str k0, d)]) ⟨[(.inr k0, v)], rfl, .cons (k := .inr k0) hd .nil⟩) r.g⟩
/-- d.update(e), e a dict with other keys -/
theorem s_updS (S : St X G0 H0 G H ((p, .dic ds) :: B)) (hσ : σ[i]? = some (some (.ref p))) (h : EvD te σ G (.dict es)) (nd : ((ds ++ es).map Prod.fst).Nodup) (hl : ds.length + es.length ≤ 50000) (k : ∀ G1 H1, St X G0 H0 G1 H1 ((p, .dic (ds ++ es)) :: B) → Ex G G1 → D.nx σ H1) : tDrop (tBM K "dict" rDUpd (tVar i) (tCons te tNil)) D σ H := by
  obtain ⟨kvs, e, hd⟩ := (S.l (p, .dic ds) (.head _)).2.2
  refine ⟨_, hσ, .inr (.inr (.inl ⟨rfl, .inl ⟨kvs, e⟩⟩)), h.go S.s fun v G1 H1 r hv => ?_⟩
  have S1 := S.ev r
  cases hv with
  | @dct a more _ ea ha =>
    obtain ⟨kvs1, e1, hd1⟩ := (S1.l (p, .dic ds) (.head _)).2.2
    have gp := (S1.l (p, .dic ds) (.head _)).2.1
    have ne : p ≠ a := fun z => by rw [z, ea] at gp; cases gp
    have n2 : ((kvs1 ++ more).map Prod.fst).Nodup := nodup_back (by rw [← (hd1.app ha).keys]; exact nd)
    refine ⟨p, a, kvs1, more, rfl, rfl, ne, e1, r.s _ _ ea, ?_, ?_⟩
    · rw [hd1.len, ha.len]
      exact Nat.le_trans hl (by decide)
    · rw [mergeK_new _ _ n2]
      exact k G1 _ (S1.mut ⟨_, rfl, hd1.app ha⟩) r.g
/-- {k: v, **e}, e a dict with other keys -/
theorem evd_disp1 (hk : Ev tk σ G (.str k0)) (hv : EvD tv σ G d) (he : EvD te σ G (.dict es)) (nd : (((PyData.str k0, d) :: es).map Prod.fst).Nodup) (hl : es.length ≤ 50000) : EvD (tDisp1 tk tv te) σ G (.dict ((.str k0, d) :: es)) := fun G1 H1 x s Q q p hp => by
  have S0 := St.pure s
  have S1 := S0.new (lo := .dic []) hp ⟨[], rfl, .nil⟩
  refine hk _ (x.trans S1.s) _ fun H2 x2 => ?_
  have S2 := S1.keep x2
  refine hv _ _ x S2.s _ fun v G3 H3 r hd => ?_
  have S3 := S2.ev r
  obtain ⟨kvs, e, hn⟩ := (S3.l (p, .dic []) (.head _)).2.2
  cases hn
  refine ⟨.inr k0, v, rfl, e, ?_⟩
  have S4 := S3.mut (lo2 := .dic [(.str k0, d)]) ⟨[(.inr k0, v)], rfl, .cons (k := .inr k0) hd .nil⟩
  refine he _ _ (x.trans r.g) S4.s _ fun u G5 H5 r5 hu => ?_
  have S5 := S4.ev r5
  cases hu with
  | @dct a more _ ea ha =>
    have n2 : (((Sum.inr k0, v) :: more).map Prod.fst : List Key).Nodup := nodup_back (vs := (.inr k0, v) :: more) (by
      have z := (DaKvs.cons (k := .inr k0) (hd.up r5.g) ha).keys
      rw [← z]
      exact nd)
    have e5 : H5 p = some (.dK [(.inr k0, v)]) := r5.h _ _ upd_same
    refine ⟨a, more, rfl, e5, r5.s _ _ ea, n2, by rw [ha.len]; exact Nat.le_trans (show 1 + es.length ≤ 60000 by omega) (by decide), ?_⟩
    have S6 := S5.mut (lo2 := .dic ((.str k0, d) :: es)) ⟨(.inr k0, v) :: more, rfl, .cons (k := .inr k0) (hd.up r5.g) ha⟩
    obtain ⟨G7, x7, S7, h7⟩ := S6.putD (fun z => z)
    exact q _ G7 _ S7.gr h7
/-- d[k] -/
theorem evd_dget {ti : TE} (h : EvD te σ G (.dict ds)) (hi : Ev ti σ G (.str k0)) (nd : (ds.map Prod.fst).Nodup) (hm : (.str k0, d) ∈ ds) : EvD (tDGet te ti) σ G d := fun G1 H1 x s Q q => h G1 H1 x s _ fun v G2 H2 r hd => hi H2 ((x.trans r.g).trans r.s) _ fun H3 x3 => by
  cases hd with
  | @dct a kvs _ ea ha =>
    obtain ⟨u, e1, e2⟩ := ha.get (k := .inr k0) nd hm
    exact ⟨a, u, rfl, by rw [← e1]; exact DGet.k (k := Sum.inr k0) (x3 _ _ (r.s _ _ ea)), q u G2 H3 (r.trans (Gr.keep r.s x3)) e2⟩
/-- k in d -/
theorem ev_din {ti : TE} (hi : Ev ti σ G (.str k0)) (h : EvD te σ G (.dict ds)) (nd : (ds.map Prod.fst).Nodup) : Ev (tDIn ti te) σ G (.bl (keyIn k0 ds)) := fun H1 x Q q => hi H1 x _ fun H2 x2 => h G H2 (Ex.refl _) (x.trans x2) _ fun v G3 H3 r hd => by
  cases hd with
  | @dct a kvs _ ea ha =>
    refine ⟨a, valV kvs (.inr k0), rfl, DGet.k (k := Sum.inr k0) (r.s _ _ ea), ?_⟩
    have e : (valV kvs (.inr k0)).isSome = keyIn k0 ds := by
      by_cases c : keyIn k0 ds = true
      · rw [c]
        obtain ⟨⟨k', d'⟩, hm, e0⟩ := List.mem_map.mp (keyIn_iff.mp c)
        cases (show k' = PyData.str k0 from e0)
        obtain ⟨u, e1, _⟩ := ha.get (k := .inr k0) nd hm
        rw [e1]
        rfl
      · rw [ha.not (k := .inr k0) (fun z => c (keyIn_iff.mpr z)), Bool.eq_false_iff.mpr c]
        rfl
    rw [e]
    exact q H3 (x2.trans r.h)
/-- for i, x in enumerate(t) -/
theorem q_forET {ti : TE} {dt : List PyData} {tb : TS} (s : Ex G H) (h : EvD ti σ G (.tuple dt)) (k : ∀ G1 H1, Gr G H G1 H1 → ∃ Pv : Nat → L2.St → Hp → Prop, Pv 0 σ H1 ∧ (∀ n σ' H', Pv n σ' H' → Ex G1 H') ∧
    (∀ n e v σ' H' H'', dt[n]? = some e → Da G1 v e → Pv n σ' H' → Ex H' H'' → tb { D with nx := Pv (n + 1), ct := Pv (n + 1), bk := tz D } ((σ'.set i (some (.int (n : Nat)))).set j (some v)) H'') ∧ ∀ σ' H', Pv dt.length σ' H' → tz D σ' H') :
    tSeq (tFor (iEnumT K (tCons ti tNil)) (gTup K 2 (gCons (gName i) (gCons (gName j) gNil))) tb) tz D σ H := h.go s fun v G1 H1 r hd => by
  obtain ⟨a, xs, rfl, ea, hs⟩ := hd.tup_
  obtain ⟨Pv, h0, hl, ht, hz⟩ := k G1 H1 r
  refine ⟨a, xs, rfl, SqT.of (r.s _ _ ea), for_it (walk_enumT (K := K) (a := a) (xs := xs)) Pv h0 (fun n σ' H' _ p => SqT.of (hl n σ' H' p _ _ ea)) ?_ (fun σ' H' p => hz σ' H' (by rw [← hs.len]; exact p))⟩
  rintro n x σ' H' H'' hn p ⟨T0, u1, u2, rfl, hT, rfl, e1, e2⟩
  obtain rfl : V.int (n : Nat) = u1 := Option.some.inj e1
  have e2 : xs[n]? = some u2 := e2
  obtain ⟨t, eti, hdt⟩ := hs.at e2
  exact ⟨T0, _, rfl, SqT.of upd_same, rfl, _, _, rfl, _, _, rfl, rfl, ht n t u2 σ' H' _ eti hdt p (Ex.new hT)⟩
/-- f'{a}.{i}' -/
theorem ev_fmtI {ta ti : TE} {a : Str} {m : Int} {c : Str} (ha : Ev ta σ G (.str a)) (hi : Ev ti σ G (.int m)) (hm : m.natAbs.log2 < 1920) (h1 : a.length ≤ 1000) (hc : c.length ≤ 1000) (h2 : (Str.ofString (toString m)).length ≤ 1000) : Ev (fun σ H Q => tJs [tFmt ta, tC (.str c), tFmt ti] Str.empty σ H fun out H1 => Q (.str out) H1) σ G (.str (((Str.empty ++ a) ++ c) ++ Str.ofString (toString m))) := fun H1 x Q q => ha H1 x _ fun H2 x2 => by
  have big : (4000 : Nat) ≤ sizeLine := by decide
  have e0 : Str.empty.length = 0 := rfl
  have e1 : (Str.empty ++ a).length = Str.empty.length + a.length := strLen_append _ _
  have e2 : ((Str.empty ++ a) ++ c).length = (Str.empty ++ a).length + c.length := strLen_append _ _
  have e3 : (((Str.empty ++ a) ++ c) ++ Str.ofString (toString m)).length = ((Str.empty ++ a) ++ c).length + (Str.ofString (toString m)).length := strLen_append _ _
  refine .inl ⟨a, rfl, by omega, a, rfl, by omega, c, rfl, by omega, hi H2 (x.trans x2) _ fun H3 x3 => .inr ⟨m, rfl, hm, _, rfl, ?_, q H3 (x2.trans x3)⟩⟩
  show (((Str.empty ++ a) ++ c) ++ Str.ofString (toString m)).length ≤ sizeLine
  omega
/-- f'{a}.0' -/
theorem ev_fmtC {ta : TE} {a : Str} {c : Str} (ha : Ev ta σ G (.str a)) (h1 : a.length ≤ 1000) (hc : c.length ≤ 1000) : Ev (fun σ H Q => tJs [tFmt ta, tC (.str c)] Str.empty σ H fun out H1 => Q (.str out) H1) σ G (.str ((Str.empty ++ a) ++ c)) := fun H1 x Q q => ha H1 x _ fun H2 x2 => by
  have big : (4000 : Nat) ≤ sizeLine := by decide
  have e0 : Str.empty.length = 0 := rfl
  have e1 : (Str.empty ++ a).length = Str.empty.length + a.length := strLen_append _ _
  have e2 : ((Str.empty ++ a) ++ c).length = (Str.empty ++ a).length + c.length := strLen_append _ _
  exact .inl ⟨a, rfl, by omega, a, rfl, by omega, c, rfl, by omega, q H2 x2⟩
end
end Lf
set_option maxHeartbeats 4000000
/-! a loop as the last statement of a def or of a loop; a range over a list or tuple of data with objects still written -/
namespace Lf
open PySem L2 Evl
section
variable {K : PySem.W.Frag} {σ : L2.St} {G H : Hp} {tl : TE} {g : TG} {tb : TS} {D : Ends} {ds : List PyData} {i j : Nat}
theorem s_forT (s : Ex G H) (h : EvD tl σ G (.tuple ds)) (k : ∀ G1 H1, Gr G H G1 H1 → LoopOk g tb (fun D => D.nx) D σ ds G1 H1) : tFor (iTup K tl) g tb D σ H := Lf.q_forT (tz := fun D => D.nx) s h k
theorem s_forL (s : Ex G H) (h : EvD tl σ G (.list ds)) (k : ∀ G1 H1, Gr G H G1 H1 → LoopOk g tb (fun D => D.nx) D σ ds G1 H1) : tFor (iList K tl) g tb D σ H := Lf.q_forL (tz := fun D => D.nx) s h k
theorem g1_at {v : V} {Q : L2.St → Hp → Prop} (q : Q (σ.set i (some v)) H) : gName i v σ H Q := q
theorem s_ifD {t : TT} {tu tw : TS} {b : Bool} (s : Ex G H) (h : EvT t σ G b) (h1 : b = true → ∀ H1, Ex H H1 → tu D σ H1) (h2 : b = false → ∀ H1, Ex H H1 → tw D σ H1) : tIfS t tu tw D σ H := h H s _ fun H1 x => by
  cases b with
  | true => exact h1 rfl H1 x
  | false => exact h2 rfl H1 x
/-- a test over the heap itself, with what is still written -/
theorem s_ifH {t : TT} {tu tw : TS} {b : Bool} (h : EvT t σ H b) (h1 : b = true → ∀ H1, Ex H H1 → tu D σ H1) (h2 : b = false → ∀ H1, Ex H H1 → tw D σ H1) : tIfS t tu tw D σ H := h H (Ex.refl _) _ fun H1 x => by
  cases b with
  | true => exact h1 rfl H1 x
  | false => exact h2 rfl H1 x
theorem q_ifH {t : TT} {tu tw tz : TS} {b : Bool} (h : EvT t σ H b) (h1 : b = true → ∀ H1, Ex H H1 → tu { D with nx := tz D } σ H1) (h2 : b = false → ∀ H1, Ex H H1 → tw { D with nx := tz D } σ H1) : tSeq (tIfS t tu tw) tz D σ H := s_ifH (D := { D with nx := tz D }) h h1 h2
theorem walk_enumLs {a : Addr} {xs : List V} : Walk (Ite K a) xs.length (fun H => SqL K H a xs) (YPair (fun i => some (.int (i : Nat))) (fun i => xs[i]?)) := by
  refine ⟨fun i _ hi q => ⟨xs, xs[i], q, by simp [hi]⟩, fun _ q => ⟨xs, q, Nat.le_refl _⟩, fun i H v H' _ q y => ?_⟩
  obtain ⟨T, x, h1, h2, h3, h4⟩ := y
  exact ⟨T, .int (i : Nat), x, h1, h2, h3, rfl, h4 xs q⟩
/-- for i, x in enumerate(l), l a list of data -/
theorem q_forEL {ti : TE} {dt : List PyData} {tb tz : TS} (s : Ex G H) (h : EvD ti σ G (.list dt)) (k : ∀ G1 H1, Gr G H G1 H1 → ∃ Pv : Nat → L2.St → Hp → Prop, Pv 0 σ H1 ∧ (∀ n σ' H', Pv n σ' H' → Ex G1 H') ∧
    (∀ n e v σ' H' H'', dt[n]? = some e → Da G1 v e → Pv n σ' H' → Ex H' H'' → tb { D with nx := Pv (n + 1), ct := Pv (n + 1), bk := tz D } ((σ'.set i (some (.int (n : Nat)))).set j (some v)) H'') ∧ ∀ σ' H', Pv dt.length σ' H' → tz D σ' H') :
    tSeq (tFor (iEnum K (tCons ti tNil)) (gTup K 2 (gCons (gName i) (gCons (gName j) gNil))) tb) tz D σ H := h.go s fun v G1 H1 r hd => by
  obtain ⟨a, xs, rfl, ea, hs⟩ := hd.lst_
  obtain ⟨Pv, h0, hl, ht, hz⟩ := k G1 H1 r
  refine ⟨a, xs, rfl, SqL.of (r.s _ _ ea), for_it (walk_enumLs (K := K) (a := a) (xs := xs)) Pv h0 (fun n σ' H' _ p => SqL.of (hl n σ' H' p _ _ ea)) ?_ (fun σ' H' p => hz σ' H' (by rw [← hs.len]; exact p))⟩
  rintro n x σ' H' H'' hn p ⟨T0, u1, u2, rfl, hT, rfl, e1, e2⟩
  obtain rfl : V.int (n : Nat) = u1 := Option.some.inj e1
  have e2 : xs[n]? = some u2 := e2
  obtain ⟨t, eti, hdt⟩ := hs.at e2
  exact ⟨T0, _, rfl, SqT.of upd_same, rfl, _, _, rfl, _, _, rfl, rfl, ht n t u2 σ' H' _ eti hdt p (Ex.new hT)⟩
theorem s_forEL {ti : TE} {dt : List PyData} {tb : TS} (s : Ex G H) (h : EvD ti σ G (.list dt)) (k : ∀ G1 H1, Gr G H G1 H1 → ∃ Pv : Nat → L2.St → Hp → Prop, Pv 0 σ H1 ∧ (∀ n σ' H', Pv n σ' H' → Ex G1 H') ∧
    (∀ n e v σ' H' H'', dt[n]? = some e → Da G1 v e → Pv n σ' H' → Ex H' H'' → tb { D with nx := Pv (n + 1), ct := Pv (n + 1), bk := D.nx } ((σ'.set i (some (.int (n : Nat)))).set j (some v)) H'') ∧ ∀ σ' H', Pv dt.length σ' H' → D.nx σ' H') :
    tFor (iEnum K (tCons ti tNil)) (gTup K 2 (gCons (gName i) (gCons (gName j) gNil))) tb D σ H := q_forEL (tz := fun D => D.nx) s h k
theorem s_forET {ti : TE} {dt : List PyData} {tb : TS} (s : Ex G H) (h : EvD ti σ G (.tuple dt)) (k : ∀ G1 H1, Gr G H G1 H1 → ∃ Pv : Nat → L2.St → Hp → Prop, Pv 0 σ H1 ∧ (∀ n σ' H', Pv n σ' H' → Ex G1 H') ∧
    (∀ n e v σ' H' H'', dt[n]? = some e → Da G1 v e → Pv n σ' H' → Ex H' H'' → tb { D with nx := Pv (n + 1), ct := Pv (n + 1), bk := D.nx } ((σ'.set i (some (.int (n : Nat)))).set j (some v)) H'') ∧ ∀ σ' H', Pv dt.length σ' H' → D.nx σ' H') :
    tFor (iEnumT K (tCons ti tNil)) (gTup K 2 (gCons (gName i) (gCons (gName j) gNil))) tb D σ H := q_forET (tz := fun D => D.nx) s h k
end
end Lf
set_option maxHeartbeats 400000
/-! l.append(k.pop(draw)): lists that are still written -/
namespace Lf
open PySem L2 Evl
theorem DaAll.erase {H : Hp} {vs : List V} {ds : List PyData} (h : DaAll H vs ds) (k : Nat) : DaAll H (vs.eraseIdx k) (ds.eraseIdx k) := by
  induction ds generalizing vs k with
  | nil => cases h; exact .nil
  | cons d ds ih =>
    cases h with
    | cons h t =>
      cases k with
      | zero => exact t
      | succ k => exact .cons h (ih t k)
section
variable {X : Addr → Prop} {Lm : List V → Prop} {L p q : Addr} {G0 H0 G H : Hp} {B Ls : List (Addr × Lo)} {K : PySem.W.Frag} {σ : L2.St} {te : TE} {tz : TS} {D : Ends} {i j c : Nat} {ds ls fs : List PyData}
/-- a, b = list(l), [] -/
theorem q_parCopy (S : St X G0 H0 G H Ls) (h : EvD te σ G (.list ds)) (k : ∀ p q H1 G1, ¬ X p → ¬ X q → St X G0 H0 G1 H1 ((q, .lst []) :: (p, .lst ds) :: Ls) → Ex G G1 → tz D ((σ.set i (some (.ref p))).set j (some (.ref q))) H1) :
    tSeq (tPar i j (tCons (tCB (fun xs H_1 Q => ∃ p ys, xs = [V.ref p] ∧ (SqL K H_1 p ys ∨ SqT K H_1 p ys) ∧ ∀ l, H_1 l = none → Q (V.ref l) (upd H_1 l (HO.lst ys))) (tCons te tNil)) (tCons (tLst tNil) tNil))) tz D σ H := h.go S.s fun v G1 H1 r hd => by
  obtain ⟨a, xs, rfl, e, hs⟩ := hd.lst_
  have S1 := S.ev r
  refine ⟨a, xs, rfl, .inl (SqL.of (r.s _ _ e)), fun p hp => ?_⟩
  have S2 := S1.new (o := .lst xs) (lo := .lst ds) hp ⟨xs, rfl, hs⟩
  refine ⟨Nat.zero_le _, fun q hq => ⟨_, _, rfl, ?_⟩⟩
  exact k p q _ G1 (S1.notX hp) (S2.notX hq) (S2.new hq ⟨[], rfl, .nil⟩) r.g
/-- a.append(b.pop(draw(wheel, len(b)))) -/
theorem s_appPop {E : XK} {Pre : List PyData → Prop} {Post : List PyData → PyData → Prop} (S : St X G0 H0 G H ((q, .lst fs) :: (p, .lst ls) :: B)) (m : (L, Lo.whl Lm) ∈ B) (hX : X L) (hL : σ[c]? = some (some (.ref L))) (hp : σ[i]? = some (some (.ref p))) (hq : σ[j]? = some (some (.ref q)))
    (hn : 0 < ls.length) (hz : ls.length ≤ 50000) (hf : fs.length ≤ 50000) (pre : Pre [.int (ls.length : Nat)]) (post : ∀ d, Post [.int (ls.length : Nat)] d → ∃ r : Int, d = .int r ∧ 0 ≤ r ∧ r < ls.length)
    (k : ∀ (n : Nat) (h : n < ls.length) G1 H1, St X G0 H0 G1 H1 ((q, .lst (fs ++ [ls[n]])) :: (p, .lst (ls.eraseIdx n)) :: B) → Ex G G1 → D.nx σ H1) :
    tDrop (tBM K "list" rAppend (tVar j) (tCons (tBM K "list" rPopAt (tVar i) (tCons (tCallD (spDr Lm Pre Post) E (tCons (tVar c) (tCons (tCB (fun xs H_1 Q => ∃ p ys, xs = [V.ref p] ∧ (SqL K H_1 p ys ∨ SqT K H_1 p ys) ∧ Q (V.int ys.length) H_1) (tCons (tVar i) tNil)) tNil))) tNil)) tNil)) D σ H := by
  obtain ⟨ys, eq, hfs⟩ := (S.l (q, .lst fs) (.head _)).2.2
  obtain ⟨xs, ep, hls⟩ := (S.l (p, .lst ls) (.tail _ (.head _))).2.2
  refine ⟨_, hq, .inl ⟨rfl, _, SqL.of eq⟩, _, hp, .inl ⟨rfl, _, SqL.of ep⟩, _, hL, _, hp, p, xs, rfl, .inl (SqL.of ep), L, G, [.int (xs.length : Nat)], [.int (ls.length : Nat)], rfl, S.at_ (.tail _ (.tail _ m)), ?_, pre, fun v d G1 H1 r hP hv => ?_⟩
  · rw [hls.len]
    exact .cons (.int _) .nil
  · obtain ⟨z, rfl, z0, z1⟩ := post d hP
    cases hv.int_
    have S1 := S.roll (.tail _ (.tail _ m)) hX r
    obtain ⟨ys1, eq1, hfs1⟩ := (S1.l (q, .lst fs) (.head _)).2.2
    obtain ⟨xs1, ep1, hls1⟩ := (S1.l (p, .lst ls) (.tail _ (.head _))).2.2
    have hlen := hls1.len
    have hk : z.toNat < ls.length := by omega
    obtain ⟨y, ey, hy⟩ : ∃ y, xs1[z.toNat]? = some y ∧ Da G1 y ls[z.toNat] := by
      have hk1 : z.toNat < xs1.length := by omega
      have e1 := List.getElem?_eq_getElem hk1
      obtain ⟨d, hd1, hd2⟩ := hls1.at e1
      rw [List.getElem?_eq_getElem hk] at hd1
      rw [Option.some.inj hd1]
      exact ⟨_, e1, hd2⟩
    have nd := S1.d
    have qp : q ≠ p := fun e => by
      rw [List.map_cons, List.map_cons, List.nodup_cons] at nd
      exact nd.1 (by rw [e]; exact .head _)
    refine ⟨p, xs1, z, z.toNat, y, rfl, rfl, ep1, by omega, by omega, ?_, ey, ?_⟩
    · unfold seqIndex?
      have e : (if z < 0 then z + (xs1.length : Nat) else z) = z := if_neg (by omega)
      simp only [e]
      rw [if_pos (by simp; omega)]
    have S2 := (S1.sw).mut (o := .lst (xs1.eraseIdx z.toNat)) (lo2 := .lst (ls.eraseIdx z.toNat)) ⟨_, rfl, hls1.erase _⟩
    have S3 := S2.sw.mut (o := .lst (ys1 ++ [y])) (lo2 := .lst (fs ++ [ls[z.toNat]])) ⟨_, rfl, hfs1.app (.cons hy .nil)⟩
    refine ⟨q, ys1, y, rfl, rfl, by rw [upd_ne qp]; exact eq1, by rw [hfs1.len]; exact Nat.lt_of_le_of_lt hf (by decide), k z.toNat hk G1 _ S3 r.g⟩
end
end Lf
set_option maxHeartbeats 400000
/-! the state between two statements; [e for i in range(n) if c] -/
namespace Lf
open PySem L2 Evl
theorem q_cut {t tz : TS} {D : Ends} {σ : L2.St} {H : Hp} (M : L2.St → Hp → Prop) (k : ∀ σ' H', M σ' H' → tz D σ' H') (h : ∀ N : L2.St → Hp → Prop, (∀ σ' H', M σ' H' → N σ' H') → t { D with nx := N } σ H) : tSeq t tz D σ H := h (tz D) k
theorem s_ifR {Lm : List V → Prop} {L : Addr} {G H : Hp} {σ : L2.St} {D : Ends} {t : TT} {tu tw : TS} {P : Bool → Prop} (w : At Lm L G H) (h : DrT Lm L t σ G P) (h1 : P true → ∀ G1 H1, GrB Lm L G H G1 H1 → tu D σ H1) (h2 : P false → ∀ G1 H1, GrB Lm L G H G1 H1 → tw D σ H1) : tIfS t tu tw D σ H := q_ifR (tz := fun D => D.nx) w h h1 h2
theorem walk_rng {n : Nat} : Walk (Itr 0 n) n (fun _ => True) (fun i H x H' => H' = H ∧ x = .int (i : Nat)) := by
  refine ⟨fun i H hi _ => hi, fun H _ => Nat.le_refl _, fun i H x H' hi _ y => ?_⟩
  obtain ⟨h1, h2⟩ := y
  exact ⟨h1, by rw [h2]; simp⟩
section
variable {K : PySem.W.Frag} {σ : L2.St} {G : Hp} {te : TE} {t : TT} {ta : TA}
theorem evd_lcRng {j : Nat} {vs : List Nat} {n : Nat} (p : Nat → Bool) (f : Nat → PyData) (h : EvA ta σ G [.int (n : Nat)]) (hz : n ≤ 50000) (hw : ∀ x, wipe ((wipe σ vs).set j (some x)) vs = wipe σ vs)
    (ht : ∀ i, i < n → EvT t ((wipe σ vs).set j (some (.int (i : Nat)))) G (p i)) (he : ∀ i, i < n → p i = true → EvD te ((wipe σ vs).set j (some (.int (i : Nat)))) G (f i)) :
    EvD (tLc (iRng1 ta) (gName j) t te vs) σ G (.list (((List.range n).filter p).map f)) := fun G0 H0 x0 s0 Q q => h H0 (x0.trans s0) _ fun H1 x1 => by
  have s1 := s0.trans x1
  have tg : ∀ i, i < n → EvT t ((wipe σ vs).set j (some (.int (i : Nat)))) G0 (p i) := fun i hi H a Q q => ht i hi H (x0.trans a) Q q
  refine ⟨_, rfl, by omega, by omega, fun D hD => lc_it (walk_rng (n := ((n : Nat) : Int).toNat)) (fun i H' => LcI G0 H1 D H' ((((List.range n).take i).filter p).map f)) (LcI.start s1 hD) (fun _ _ _ _ => trivial) ?_ ?_⟩
  · rintro i x H' H'' hi I ⟨rfl, rfl⟩
    have hi : i < n := by simpa using hi
    exact ⟨hw _, I.turn (by simp [hi]) (by simpa using hz) (tg i hi) (fun hp => (he i hi hp).mono x0) fun H2 I2 => I2⟩
  · rintro H' I
    rw [show (((n : Nat) : Int).toNat) = n from by simp] at I
    rw [show (List.range n).take n = List.range n from by rw [List.take_of_length_le (by simp)]] at I
    obtain ⟨G2, r2, h2⟩ := I.done
    exact q (.ref D) G2 H' ((Gr.keep s0 x1).trans r2) h2
end
end Lf
set_option maxHeartbeats 4000000
/-! an assignment as the last statement of a block; targets of two and three names -/
namespace Lf
open PySem L2 Evl
section
variable {K : PySem.W.Frag} {σ : L2.St} {G H : Hp} {te : TE} {d d1 d2 d3 : PyData} {D : Ends} {v : V} {i j l : Nat} {Q : L2.St → Hp → Prop}
theorem s_asgD (s : Ex G H) (h : EvD te σ G d) (k : ∀ v G1 H1, Gr G H G1 H1 → Da G1 v d → D.nx (σ.set i (some v)) H1) : tAsg te (gName i) D σ H := h.go s k
theorem g2_at {n : Nat} (hn : n = 2) (s : Ex G H) (h : Da G v (.tuple [d1, d2])) (k : ∀ v1 v2, Da G v1 d1 → Da G v2 d2 → Q ((σ.set i (some v1)).set j (some v2)) H) : gTup K n (gCons (gName i) (gCons (gName j) gNil)) v σ H Q := by
  subst hn
  obtain ⟨a, xs, rfl, e, hs⟩ := h.tup_
  cases hs with
  | cons h1 t =>
    cases t with
    | cons h2 t =>
      cases t
      exact ⟨a, _, rfl, SqT.of (s _ _ e), rfl, _, _, rfl, _, _, rfl, rfl, k _ _ h1 h2⟩
theorem q_parD {tA : TA} {tz : TS} (s : Ex G H) (h : EvDs tA σ G [d1, d2]) (k : ∀ v1 v2 G1 H1, Gr G H G1 H1 → Da G1 v1 d1 → Da G1 v2 d2 → tz D ((σ.set i (some v1)).set j (some v2)) H1) : tSeq (tPar i j tA) tz D σ H := h G H (Ex.refl _) s _ fun vs G1 H1 r hds => by
  cases hds with
  | cons h1 t =>
    cases t with
    | cons h2 t =>
      cases t
      exact ⟨_, _, rfl, k _ _ G1 H1 r h1 h2⟩
end
end Lf
set_option maxHeartbeats 4000000
/-! Data that can be shown and compared: no dicts, small leaves, a depth and a weight; plain -/
namespace Tr
open PySem Lf
mutual
def okD : PyData → Bool
  | .none => true
  | .bool _ => true
  | .int i => decide (i.natAbs < 10 ^ 12)
  | .str x => PyData.strOk x && decide (x.length ≤ 1000)
  | .list ds => okDs ds
  | .tuple ds => okDs ds
  | .dict _ => false
def okDs : List PyData → Bool
  | [] => true
  | d :: ds => okD d && okDs ds
end
theorem okDs_iff {ds : List PyData} : okDs ds = true ↔ ∀ d ∈ ds, okD d = true := by
  induction ds with
  | nil => exact ⟨fun _ d h => (by cases h), fun _ => rfl⟩
  | cons d ds ih =>
    rw [okDs, Bool.and_eq_true, ih]
    exact ⟨fun h e he => (List.mem_cons.mp he).elim (fun z => z ▸ h.1) (h.2 e), fun h => ⟨h d List.mem_cons_self, fun e he => h e (List.mem_cons_of_mem _ he)⟩⟩
mutual
theorem okD_flat : ∀ d : PyData, okD d = true → flatD d = true
  | .none, _ => rfl
  | .bool _, _ => rfl
  | .int _, _ => rfl
  | .str _, _ => rfl
  | .list ds, h => okDs_flat ds h
  | .tuple ds, h => okDs_flat ds h
theorem okDs_flat : ∀ ds : List PyData, okDs ds = true → flatDs ds = true
  | [], _ => rfl
  | d :: ds, h => by
    rw [okDs, Bool.and_eq_true] at h
    rw [flatDs, okD_flat d h.1, okDs_flat ds h.2]
    rfl
end
mutual
theorem okD_show : ∀ d : PyData, okD d = true → d.showable = true
  | .none, _ => rfl
  | .bool _, _ => rfl
  | .int i, h => by
    have h : i.natAbs < 10 ^ 12 := of_decide_eq_true h
    show decide (i.natAbs.log2 < 1920) = true
    refine decide_eq_true ?_
    by_cases c : i.natAbs = 0
    · rw [c]; decide
    · exact (Nat.log2_lt c).mpr (Nat.lt_of_lt_of_le h (by decide +kernel))
  | .str _, _ => rfl
  | .list ds, h => okDs_show ds h
  | .tuple ds, h => okDs_show ds h
theorem okDs_show : ∀ ds : List PyData, okDs ds = true → PyData.showableAll ds = true
  | [], _ => rfl
  | d :: ds, h => by
    rw [okDs, Bool.and_eq_true] at h
    rw [PyData.showableAll, okD_show d h.1, okDs_show ds h.2]
    rfl
end
mutual
theorem okD_dict : ∀ d : PyData, okD d = true → d.hasDict = false
  | .none, _ => rfl
  | .bool _, _ => rfl
  | .int _, _ => rfl
  | .str _, _ => rfl
  | .list ds, h => okDs_dict ds h
  | .tuple ds, h => okDs_dict ds h
theorem okDs_dict : ∀ ds : List PyData, okDs ds = true → PyData.hasDictAll ds = false
  | [], _ => rfl
  | d :: ds, h => by
    rw [okDs, Bool.and_eq_true] at h
    rw [PyData.hasDictAll, okD_dict d h.1, okDs_dict ds h.2]
    rfl
end
mutual
theorem okD_lay : ∀ d : PyData, okD d = true → d.canLay0 = true
  | .none, _ => rfl
  | .bool _, _ => rfl
  | .int _, _ => rfl
  | .str x, h => by
    rw [okD, Bool.and_eq_true] at h
    exact h.1
  | .list ds, h => okDs_lay ds h
  | .tuple ds, h => okDs_lay ds h
theorem okDs_lay : ∀ ds : List PyData, okDs ds = true → PyData.canLayAll0 ds = true
  | [], _ => rfl
  | d :: ds, h => by
    rw [okDs, Bool.and_eq_true] at h
    rw [PyData.canLayAll0, okD_lay d h.1, okDs_lay ds h.2]
    rfl
end
mutual
theorem okD_ints : ∀ d : PyData, okD d = true → d.intsShort 13 = true
  | .none, _ => rfl
  | .bool _, _ => rfl
  | .int i, h => decide_eq_true (PyData.shown_int_le (of_decide_eq_true h))
  | .str _, _ => rfl
  | .list ds, h => okDs_ints ds h
  | .tuple ds, h => okDs_ints ds h
theorem okDs_ints : ∀ ds : List PyData, okDs ds = true → PyData.intsShortAll 13 ds = true
  | [], _ => rfl
  | d :: ds, h => by
    rw [okDs, Bool.and_eq_true] at h
    rw [PyData.intsShortAll, okD_ints d h.1, okDs_ints ds h.2]
    rfl
end
mutual
/-- the greatest number of items of a part -/
def wid : PyData → Nat
  | .list ds => max ds.length (wids ds)
  | .tuple ds => max ds.length (wids ds)
  | _ => 0
def wids : List PyData → Nat
  | [] => 0
  | d :: ds => max (wid d) (wids ds)
end
/-- data of small leaves, a depth, a weight and a width -/
structure Nc (k b m : Nat) (d : PyData) : Prop where
  ok : okD d = true
  dep : d.depth ≤ k
  wei : d.weight ≤ b
  wd : wid d ≤ m
theorem Nc.mono {k k' b b' m m' : Nat} {d : PyData} (h : Nc k b m d) (hk : k ≤ k') (hb : b ≤ b') (hm : m ≤ m') : Nc k' b' m' d := ⟨h.ok, Nat.le_trans h.dep hk, Nat.le_trans h.wei hb, Nat.le_trans h.wd hm⟩
theorem Nc.shown {k b m : Nat} {d : PyData} (h : Nc k b m d) (hk : k ≤ 32) (hb : b ≤ 1000000) : d.shown.length ≤ sizeLine := by
  refine PyData.shown_fits_of_layable0 (B := 13) (by decide) (by decide) ?_ (okD_ints d h.ok)
  show (d.canLay0 && decide (d.depth ≤ 64) && decide (d.weight ≤ 2 ^ 20)) = true
  rw [okD_lay d h.ok, decide_eq_true (Nat.le_trans h.dep (Nat.le_trans hk (by decide))), decide_eq_true (Nat.le_trans h.wei (Nat.le_trans hb (by decide)))]
  rfl
theorem Nc.shaped {k b m : Nat} {d : PyData} (h : Nc k b m d) (hk : k ≤ 64) : SeqAt.shaped d = true := by
  show (d.canLay0 && decide (d.depth ≤ 64)) = true
  rw [okD_lay d h.ok, decide_eq_true (Nat.le_trans h.dep hk)]
  rfl
theorem okDs_app {a b : List PyData} : okDs (a ++ b) = (okDs a && okDs b) := by
  induction a with
  | nil => rfl
  | cons d a ih => rw [List.cons_append, okDs, okDs, ih, Bool.and_assoc]
theorem depthAll_app {a b : List PyData} : PyData.depthAll (a ++ b) = max (PyData.depthAll a) (PyData.depthAll b) := by
  induction a with
  | nil => rw [List.nil_append, PyData.depthAll, Nat.zero_max]
  | cons d a ih => rw [List.cons_append, PyData.depthAll, PyData.depthAll, ih, Nat.max_assoc]
theorem weightAll_app {a b : List PyData} : PyData.weightAll (a ++ b) = PyData.weightAll a + PyData.weightAll b := by
  induction a with
  | nil => rw [List.nil_append, PyData.weightAll, Nat.zero_add]
  | cons d a ih => rw [List.cons_append, PyData.weightAll, PyData.weightAll, ih]; omega
theorem depthAll_mem {ds : List PyData} {d : PyData} (h : d ∈ ds) : d.depth ≤ PyData.depthAll ds := by
  induction ds with
  | nil => cases h
  | cons e ds ih =>
    rw [PyData.depthAll]
    rcases List.mem_cons.mp h with rfl | h
    · exact Nat.le_max_left _ _
    · exact Nat.le_trans (ih h) (Nat.le_max_right _ _)
theorem depthAll_le {ds : List PyData} {k : Nat} (h : ∀ d ∈ ds, d.depth ≤ k) : PyData.depthAll ds ≤ k := by
  induction ds with
  | nil => exact Nat.zero_le _
  | cons e ds ih =>
    rw [PyData.depthAll]
    exact Nat.max_le.mpr ⟨h e List.mem_cons_self, ih fun d hd => h d (List.mem_cons_of_mem _ hd)⟩
theorem weightAll_mem {ds : List PyData} {d : PyData} (h : d ∈ ds) : d.weight + 1 ≤ PyData.weightAll ds := by
  induction ds with
  | nil => cases h
  | cons e ds ih =>
    rw [PyData.weightAll]
    rcases List.mem_cons.mp h with rfl | h
    · exact Nat.le_add_right _ _
    · exact Nat.le_trans (ih h) (Nat.le_add_left _ _)
theorem wids_mem {ds : List PyData} {d : PyData} (h : d ∈ ds) : wid d ≤ wids ds := by
  induction ds with
  | nil => cases h
  | cons e ds ih =>
    rw [wids]
    rcases List.mem_cons.mp h with rfl | h
    · exact Nat.le_max_left _ _
    · exact Nat.le_trans (ih h) (Nat.le_max_right _ _)
theorem wids_app {a b : List PyData} : wids (a ++ b) = max (wids a) (wids b) := by
  induction a with
  | nil => rw [List.nil_append, wids, Nat.zero_max]
  | cons d a ih => rw [List.cons_append, wids, wids, ih, Nat.max_assoc]
/-- the parts of a tuple -/
theorem Nc.at {k b m : Nat} {ds : List PyData} (h : Nc (k + 1) b m (.tuple ds)) {d : PyData} (hd : d ∈ ds) : Nc k b m d := by
  have h1 : okDs ds = true := h.ok
  have h2 : PyData.depthAll ds + 1 ≤ k + 1 := h.dep
  have h3 : PyData.weightAll ds ≤ b := h.wei
  have h4 : max ds.length (wids ds) ≤ m := h.wd
  have a1 := depthAll_mem hd
  have a2 := weightAll_mem hd
  have a3 := wids_mem hd
  exact ⟨okDs_iff.mp h1 d hd, by omega, by omega, by omega⟩
/-- the items of a list -/
structure Ncs (k b m : Nat) (ds : List PyData) : Prop where
  ok : okDs ds = true
  dep : PyData.depthAll ds ≤ k
  wei : PyData.weightAll ds ≤ b
  wd : wids ds ≤ m
theorem Ncs.tup {k b m : Nat} {ds : List PyData} (h : Ncs k b m ds) (hl : ds.length ≤ m) : Nc (k + 1) b m (.tuple ds) := ⟨h.ok, Nat.succ_le_succ h.dep, h.wei, Nat.max_le.mpr ⟨hl, h.wd⟩⟩
theorem Ncs.lst {k b m : Nat} {ds : List PyData} (h : Ncs k b m ds) (hl : ds.length ≤ m) : Nc (k + 1) b m (.list ds) := ⟨h.ok, Nat.succ_le_succ h.dep, h.wei, Nat.max_le.mpr ⟨hl, h.wd⟩⟩
theorem Nc.items {k b m : Nat} {ds : List PyData} (h : Nc (k + 1) b m (.tuple ds)) : Ncs k b m ds ∧ ds.length ≤ m := by
  have h2 : PyData.depthAll ds + 1 ≤ k + 1 := h.dep
  have h4 : max ds.length (wids ds) ≤ m := h.wd
  exact ⟨⟨h.ok, by omega, h.wei, by omega⟩, by omega⟩
theorem Ncs.app {k b b' m : Nat} {ds es : List PyData} (h : Ncs k b m ds) (h' : Ncs k b' m es) : Ncs k (b + b') m (ds ++ es) := ⟨by rw [okDs_app, h.ok, h'.ok]; rfl, by rw [depthAll_app]; exact Nat.max_le.mpr ⟨h.dep, h'.dep⟩, by rw [weightAll_app]; exact Nat.add_le_add h.wei h'.wei, by rw [wids_app]; exact Nat.max_le.mpr ⟨h.wd, h'.wd⟩⟩
theorem Ncs.one {k b m : Nat} {d : PyData} (h : Nc k b m d) : Ncs k (b + 1) m [d] := by
  refine ⟨by show (okD d && true) = true; rw [h.ok]; rfl, ?_, ?_, ?_⟩
  · show max d.depth 0 ≤ k
    exact Nat.max_le.mpr ⟨h.dep, Nat.zero_le _⟩
  · show d.weight + 1 + 0 ≤ b + 1
    exact Nat.succ_le_succ h.wei
  · show max (wid d) 0 ≤ m
    exact Nat.max_le.mpr ⟨h.wd, Nat.zero_le _⟩
/-- a part of the items, and what is left of the weight -/
theorem Ncs.cut {k b m : Nat} {ds : List PyData} (h : Ncs k b m ds) (i : Nat) : Ncs k (PyData.weightAll (ds.take i)) m (ds.take i) ∧ Ncs k (PyData.weightAll (ds.drop i)) m (ds.drop i) ∧ PyData.weightAll (ds.take i) + PyData.weightAll (ds.drop i) ≤ b := by
  have e : ds.take i ++ ds.drop i = ds := List.take_append_drop i ds
  have h1 := h.ok
  have h2 := h.dep
  have h3 := h.wei
  have h4 := h.wd
  rw [← e, okDs_app, Bool.and_eq_true] at h1
  rw [← e, depthAll_app] at h2
  rw [← e, weightAll_app] at h3
  rw [← e, wids_app] at h4
  exact ⟨⟨h1.1, by omega, Nat.le_refl _, by omega⟩, ⟨h1.2, by omega, Nat.le_refl _, by omega⟩, h3⟩
theorem Ncs.mono {k k' b b' m m' : Nat} {ds : List PyData} (h : Ncs k b m ds) (hk : k ≤ k') (hb : b ≤ b') (hm : m ≤ m') : Ncs k' b' m' ds := ⟨h.ok, Nat.le_trans h.dep hk, Nat.le_trans h.wei hb, Nat.le_trans h.wd hm⟩
/-- a Bool for it -/
def ncQ (k b m : Nat) (d : PyData) : Bool := okD d && (decide (d.depth ≤ k) && (decide (d.weight ≤ b) && decide (wid d ≤ m)))
theorem ncQ_iff {k b m : Nat} {d : PyData} : ncQ k b m d = true ↔ Nc k b m d := by
  unfold ncQ
  simp only [Bool.and_eq_true, decide_eq_true_eq]
  exact ⟨fun h => ⟨h.1, h.2.1, h.2.2.1, h.2.2.2⟩, fun h => ⟨h.ok, h.dep, h.wei, h.wd⟩⟩
end Tr
set_option maxHeartbeats 4000000
/-! Sets at the model's exactness, told by rows (hash, address): the search and adding, whatever stands at the addresses. HandS.TupSets does this for tuples of ints; here the caller tells when two items are equal. -/
namespace LfK
open PySem PySem.Spec PyProof.Rows L2
def rowV (rs : List (Int × Addr)) : List (Int × Value) := rs.map fun r => (r.1, Value.ref r.2)
/-- the set at a has the rows rs, in the order of the slots -/
structure Rw (w : World) (h : Heap) (a : Addr) (rs : List (Int × Addr)) (es : Array (Int × Value)) (ep : Nat) (t : SetTable) : Prop where
  ob : ∃ o, h.get? a = some o ∧ o.ExactSet ∧ o.data = .set es ep t
  rows : es.toList = rowV rs
  tab : TabOk t (rs.map (·.1))
  led : w.params.followText "set-order" = true ∨ t.led = true
  room : rs.length * 5 < t.mask * 3
  few : rs.length < 64
/-- the k-th step of the way of a hash -/
abbrev stepP (m : Nat) (h : Int) (k : Nat) : SetTable.Probe := nth m (runAt m (SetTable.bits h % (m + 1)) (SetTable.bits h)) k
section
variable {P : Program} {w : World} {A : Around} {E : Value → Shared → Prop} {s : Shared} {a : Addr} {rs : List (Int × Addr)} {es : Array (Int × Value)} {ep : Nat} {t : SetTable}
theorem rowV_len : (rowV rs).length = rs.length := List.length_map ..
theorem size_of (h : es.toList = rowV rs) : es.size = rs.length := by
  rw [← Array.length_toList, h, rowV_len]
theorem entry_of (h : es.toList = rowV rs) {i : Nat} {r : Int × Addr} (e : rs[i]? = some r) : es[i]? = some (r.1, Value.ref r.2) := by
  rw [← Array.getElem?_toList, h]
  show (rs.map _)[i]? = _
  rw [List.getElem?_map, e]
  rfl
theorem fits_of (h : es.toList = rowV rs) (sz : t.place.size = rs.length) (dm : t.dummies = #[]) (hm : rs.length ≤ t.mask) : t.fits es.size = true := by
  have e := size_of h
  unfold SetTable.fits SetTable.fill
  rw [dm, Bool.and_eq_true, beq_iff_eq, decide_eq_true_eq]
  constructor
  · omega
  · show t.place.size + 0 ≤ t.mask
    omega
theorem Rw.size (R : Rw w s.heap a rs es ep t) : es.size = rs.length := size_of R.rows
theorem Rw.sz (R : Rw w s.heap a rs es ep t) : t.place.size = rs.length := by
  rw [R.tab.sz, List.length_map]
theorem Rw.fits (R : Rw w s.heap a rs es ep t) : t.fits es.size = true := by
  have := R.room
  exact fits_of R.rows R.sz R.tab.dm (by omega)
theorem noDummy (m : Nat) : ∀ (n : Nat) (p : SetTable.Probe), p.dummy = none → (nth m p n).dummy = none
  | 0, _, h => h
  | n + 1, p, h => noDummy m n (adv m p) (by unfold adv; split <;> exact h)
/-- the search from the c-th step of the way on; eq tells which entries of the hash are the item -/
theorem look_from (R : Rw w s.heap a rs es ep t) {x : Addr} {h : Int} {eq : Int × Addr → Bool}
    (cmp : ∀ r ∈ rs, r.1 = h → ∀ Q : Bool → Shared → Prop, Q (eq r) s → wpAny (model P w) A (eqBool (.ref r.2) (.ref x)) Q E s)
    (seen : ∀ ys : List Value, (∀ y ∈ ys, ∃ r ∈ rs, y = .ref r.2) → ∀ Q : Bool → Shared → Prop, Q false s → wpAny (model P w) A (searchCouldBeSeen (.ref x) ys) Q E s)
    {K : Nat} (fK : K < 10 * SetTable.turns t.mask) (nK : way t.mask h K ∉ t.place.toList) (bK : ∀ c, c < K → way t.mask h c ∈ t.place.toList) {Q : SetFound → Shared → Prop}
    (yes : (∃ r ∈ rs, r.1 = h ∧ eq r = true) → Q (.there none) s) (no : (∀ r ∈ rs, r.1 = h → eq r = false) → Q (.free (way t.mask h K) false) s) :
    ∀ (f c : Nat) (st : Option SetTable.Probe), st.getD (t.probeStart h) = stepP t.mask h c → c ≤ K → K - c < f →
      (∀ (i : Nat) r, rs[i]? = some r → r.1 = h → eq r = true → ∃ d, c ≤ d ∧ d < K ∧ t.place.toList[i]? = some (way t.mask h d)) →
      wpAny (model P w) A (setSearchFrom a (.ref x) h true f st) Q E s
  | 0, _, _, _, _, hf, _ => absurd hf (Nat.not_lt_zero _)
  | f + 1, c, st, hst, hc, hf, ahead => by
    obtain ⟨o, ho, hex, hd⟩ := R.ob
    rw [setSearchFrom_succ]
    refine wpAny_bind (wpAny_setState_of ho hd R.fits ?_)
    dsimp only
    refine wp_if_neg (by unfold SetTable.gaveWay; rw [mask_odd R.tab.mok]; decide) ?_
    try refine wpAny_bind (wpAny_pure ?_)
    have sh : ∀ q, nth t.mask (stepP t.mask h c) q = stepP t.mask h (c + q) := fun q => (nth_add t.mask c _ q).symm
    have shj : ∀ q, (nth t.mask (stepP t.mask h c) q).j = way t.mask h (c + q) := fun q => congrArg SetTable.Probe.j (sh q)
    have cK : c + (K - c) = K := by omega
    have hashAt : ∀ (i : Nat) r, rs[i]? = some r → (fun i => (es[i]?.map (·.1)).getD 0) i = r.1 := fun i r e => by
      show (es[i]?.map (·.1)).getD 0 = _
      rw [entry_of R.rows e]
      rfl
    have spec := go_spec t R.tab.ris R.tab.dm (fun i => (es[i]?.map (·.1)).getD 0) h (10 * SetTable.turns t.mask) (K - c) (stepP t.mask h c) (noDummy _ _ _ rfl) (by omega)
      (fun q hq => by rw [shj]; exact bK (c + q) (by omega)) (by rw [shj, cK]; exact nK)
    rcases spec with ⟨q, i, hq, hi, hh, none_, hpr⟩ | ⟨none_, hpr⟩
    · rw [shj, sh] at hpr
      rw [← hst] at hpr
      rw [show t.probe (fun i => (es[i]?.map (·.1)).getD 0) h (st.getD (t.probeStart h)) = _ from hpr]
      dsimp only
      rw [shj] at hi
      have il : i < rs.length := by
        have h1 := (List.getElem?_eq_some_iff.mp hi).1
        rw [Array.length_toList, R.sz] at h1
        exact h1
      obtain ⟨r, er⟩ : ∃ r, rs[i]? = some r := ⟨_, List.getElem?_eq_getElem il⟩
      have hr : r ∈ rs := List.mem_of_getElem? er
      have hrh : r.1 = h := (hashAt i r er).symm.trans hh
      have live : t.slot (way t.mask h (c + q)) = .live i := slot_live R.tab.ris hi
      have rest : wpAny (model P w) A (searchRest a (.ref x) h true f es t (way t.mask h (c + q)) i (stepP t.mask h (c + (q + 1)))) Q E s := by
        unfold searchRest
        rw [entry_of R.rows er]
        dsimp only
        refine wpAny_bind (wpAny_holding (cmp r hr hrh _ ?_))
        refine wpAny_bind (wpAny_setState_of ho hd R.fits ?_)
        dsimp only
        cases he : eq r with
        | true =>
          refine wp_if_pos (by simp) ?_
          exact wpAny_pure (yes ⟨r, hr, hrh, he⟩)
        | false =>
          refine wp_if_neg (by simp) ?_
          try refine wpAny_bind (wpAny_pure ?_)
          rw [sameMem]
          dsimp only
          simp only [if_true, live, entry_of R.rows er]
          refine wpAny_bind (wpAny_isSame_ref_self (wpAny_bind (wpAny_pure ?_)))
          simp only [if_true]
          refine wp_if_neg (by simp) ?_
          refine look_from R cmp seen fK nK bK yes no f (c + (q + 1)) _ rfl (by omega) (by omega) fun i0 r0 e0 h0 y0 => ?_
          obtain ⟨d, d1, d2, d3⟩ := ahead i0 r0 e0 h0 y0
          refine ⟨d, ?_, d2, d3⟩
          rcases Nat.lt_trichotomy d (c + q) with z | z | z
          · exact absurd ((hashAt i0 r0 e0).trans h0) (none_ (d - c) i0 (by omega) (by rw [shj, show c + (d - c) = d by omega]; exact d3))
          · rw [z] at d3
            have l0 := slot_live R.tab.ris d3
            rw [live] at l0
            injection l0 with l0
            rw [← l0, er] at e0
            rw [← Option.some.inj e0, he] at y0
            cases y0
          · omega
      by_cases hl : t.led = true
      · refine wp_if_neg (by simp [hl]) ?_
        try refine wpAny_bind (wpAny_pure ?_)
        exact rest
      · refine wp_if_pos (by simp [hl]) ?_
        refine wpAny_bind (seen _ (fun y hy => ?_) _ ?_)
        · obtain ⟨e, he, rfl⟩ := List.mem_map.mp hy
          have h1 : e ∈ es ∧ e.1 = h := by simpa using he
          have h2 : e ∈ es.toList := by simpa using h1.1
          rw [R.rows] at h2
          obtain ⟨r2, hr2, e2⟩ := List.mem_map.mp h2
          exact ⟨r2, hr2, by rw [← e2]⟩
        · refine wp_if_neg (by decide) ?_
          try refine wpAny_bind (wpAny_pure ?_)
          exact rest
    · rw [shj, cK] at hpr
      rw [← hst] at hpr
      rw [show t.probe (fun i => (es[i]?.map (·.1)).getD 0) h (st.getD (t.probeStart h)) = _ from hpr]
      dsimp only
      refine wpAny_pure (no fun r hr hh => ?_)
      cases he : eq r with
      | false => rfl
      | true =>
        exfalso
        obtain ⟨i, il, e⟩ := List.getElem_of_mem hr
        have er : rs[i]? = some r := by rw [List.getElem?_eq_getElem il, e]
        obtain ⟨d, d1, d2, d3⟩ := ahead i r er hh he
        exact none_ (d - c) i (by omega) (by rw [shj, show c + (d - c) = d by omega]; exact d3) ((hashAt i r er).trans hh)
theorem look (R : Rw w s.heap a rs es ep t) {x : Addr} {h : Int} {eq : Int × Addr → Bool}
    (cmp : ∀ r ∈ rs, r.1 = h → ∀ Q : Bool → Shared → Prop, Q (eq r) s → wpAny (model P w) A (eqBool (.ref r.2) (.ref x)) Q E s)
    (seen : ∀ ys : List Value, (∀ y ∈ ys, ∃ r ∈ rs, y = .ref r.2) → ∀ Q : Bool → Shared → Prop, Q false s → wpAny (model P w) A (searchCouldBeSeen (.ref x) ys) Q E s)
    {Q : SetFound → Shared → Prop} (yes : (∃ r ∈ rs, r.1 = h ∧ eq r = true) → Q (.there none) s)
    (no : ∀ K, (∀ r ∈ rs, r.1 = h → eq r = false) → way t.mask h K ∉ t.place.toList → (∀ c, c < K → way t.mask h c ∈ t.place.toList) → Q (.free (way t.mask h K) false) s) :
    wpAny (model P w) A (setSearch a (.ref x) h true) Q E s := by
  have hroom := R.room
  obtain ⟨K, fK, nK, bK⟩ := R.tab.first (by rw [List.length_map]; omega) h
  have big : K < 100000 := by
    have : 10 * SetTable.turns t.mask ≤ 1420 := by
      unfold SetTable.turns
      rcases R.tab.mok with e | e | e <;> omega
    omega
  unfold setSearch
  refine look_from R cmp seen fK nK bK yes (fun z => no K z nK bK) 100000 0 none rfl (Nat.zero_le _) (by omega) fun i r er hh _ => ?_
  have hi : (rs.map (·.1))[i]? = some h := by rw [List.getElem?_map, er, ← hh]; rfl
  have il : i < t.place.toList.length := by
    have h1 := (List.getElem?_eq_some_iff.mp er).1
    rw [Array.length_toList, R.sz]
    exact h1
  have hj := List.getElem?_eq_getElem il
  obtain ⟨d, d1, d2⟩ := R.tab.before nK hi hj
  exact ⟨d, Nat.zero_le _, d1, by rw [hj, d2]⟩
/-- the rows in another order -/
theorem ordered (h : es.toList = rowV rs) {order : Array Nat} (hp : order.toList.Perm (List.range rs.length)) :
    ∃ r2, (order.filterMap (es[·]?)).toList = rowV r2 ∧ r2.Perm rs ∧ r2.map (·.1) = order.toList.map fun i => (es.map (·.1)).getD i 0 := by
  have sz := size_of h
  have key : ∀ l : List Nat, (∀ i ∈ l, i < rs.length) → l.filterMap (fun i => es[i]?) = rowV (l.filterMap (rs[·]?)) ∧ (l.filterMap (rs[·]?)).map (·.1) = l.map fun i => (es.map (·.1)).getD i 0 := by
    intro l
    induction l with
    | nil => intro _; exact ⟨rfl, rfl⟩
    | cons i l ih =>
      intro hl
      have hi := hl i List.mem_cons_self
      obtain ⟨e1, e2⟩ := ih fun j hj => hl j (List.mem_cons_of_mem _ hj)
      obtain ⟨r, er⟩ : ∃ r, rs[i]? = some r := ⟨_, List.getElem?_eq_getElem hi⟩
      have ee := entry_of h er
      rw [List.filterMap_cons_some ee, List.filterMap_cons_some er, e1, List.map_cons, List.map_cons, e2]
      refine ⟨rfl, ?_⟩
      have : (es.map (·.1))[i]? = some r.1 := by rw [Array.getElem?_map, ee]; rfl
      simp [Array.getD_eq_getD_getElem?, this]
  obtain ⟨e1, e2⟩ := key order.toList fun i hi => List.mem_range.mp (hp.mem_iff.mp hi)
  have all : ∀ n, n ≤ rs.length → (List.range n).filterMap (rs[·]?) = rs.take n := by
    intro n
    induction n with
    | zero => intro _; rfl
    | succ n ih =>
      intro hn
      have e : rs[n]? = some rs[n] := List.getElem?_eq_getElem hn
      rw [List.range_succ, List.filterMap_append, ih (Nat.le_of_lt hn), List.take_succ, e, List.filterMap_cons_some e]
      rfl
  refine ⟨_, by first | (rw [Array.toList_filterMap]; exact e1) | simpa using e1, ?_, e2⟩
  have z := hp.filterMap (rs[·]?)
  rw [all _ (Nat.le_refl _), List.take_length] at z
  exact z
/-- the table laid anew -/
theorem relay {o : Obj} (ho : s.heap.get? a = some o) (hex : o.ExactSet) (hd : o.data = .set es ep t) (hr : es.toList = rowV rs) (sz : t.place.size = rs.length) (dm : t.dummies = #[]) (hm : rs.length ≤ t.mask)
    (ld : w.params.followText "set-order" = true ∨ t.led = true) (few : rs.length < 64) {wanted M : Nat} (hw : SetTable.sizeAbove wanted - 1 = M) (hM : MaskOk M) (hw2 : SetTable.sizeAbove wanted ≤ 128) (hn : rs.length * 5 < M * 3)
    {Q : Unit → Shared → Prop} (hQ : ∀ h' r2 es2 ep2 t2, Heap.SameBut a s.heap h' → Rw w h' a r2 es2 ep2 t2 → r2.Perm rs → Q () { s with heap := h' }) : wpAny (model P w) A (setRelay a wanted) Q E s := by
  have hsz := size_of hr
  obtain ⟨t2, order, e, hp, T, em, el, epl, ed⟩ := relaid_ok t (hs := es.map (·.1)) (wanted := wanted) hw hM (by rw [Array.size_map, hsz]; omega)
  rw [Array.size_map, hsz] at hp
  obtain ⟨r2, e1, e2, e3⟩ := ordered hr hp
  rw [← e3] at T
  have hs2 : (order.filterMap (es[·]?)).size = es.size := by rw [size_of e1, e2.length_eq, hsz]
  rw [setRelay_eq]
  refine wpAny_bind (wpAny_setState_of ho hd (fits_of hr sz dm hm) ?_)
  dsimp only
  refine wp_if_neg (by rw [sizeLine_eq]; omega) ?_
  try refine wpAny_bind (wpAny_pure ?_)
  rw [e]
  dsimp only
  refine wpAny_bind ?_
  refine wp_if_neg (by rw [hs2]; simp) ?_
  try refine wpAny_bind (wpAny_pure ?_)
  refine wpAny_pure ?_
  dsimp only
  refine wpAny_storeSet_of ho hd ?_ (by rw [hs2, hsz, sizeLine_eq]; omega)
  refine hQ _ r2 (order.filterMap (es[·]?)) (ep + 1) t2 (Heap.SameBut.update ..) ⟨⟨_, store_at ho hd, ⟨hex.1, hex.2.1, hex.2.2⟩, rfl⟩, e1, T, by rw [el]; exact ld, ?_, by rw [e2.length_eq]; exact few⟩ e2
  rw [e2.length_eq, em]
  exact hn
/-- adding an item -/
theorem add (R : Rw w s.heap a rs es ep t) {x : Addr} {h : Int} {eq : Int × Addr → Bool}
    (cmp : ∀ r ∈ rs, r.1 = h → ∀ Q : Bool → Shared → Prop, Q (eq r) s → wpAny (model P w) A (eqBool (.ref r.2) (.ref x)) Q E s)
    (seen : ∀ ys : List Value, (∀ y ∈ ys, ∃ r ∈ rs, y = .ref r.2) → ∀ Q : Bool → Shared → Prop, Q false s → wpAny (model P w) A (searchCouldBeSeen (.ref x) ys) Q E s)
    (hby : ∀ Q : Bool → Shared → Prop, (∀ b, Q b s) → wpAny (model P w) A (hashByValue 8 (.ref x)) Q E s) (few : rs.length + 1 < 64) {Q : Bool → Shared → Prop}
    (hQ : ∀ b h' r2 es2 ep2 t2, Heap.SameBut a s.heap h' → Rw w h' a r2 es2 ep2 t2 → ((∃ r ∈ rs, r.1 = h ∧ eq r = true) → r2 = rs) → ((∀ r ∈ rs, r.1 = h → eq r = false) → r2.Perm ((h, x) :: rs)) → Q b { s with heap := h' }) :
    wpAny (model P w) A (setAddHashed a (.ref x) h) Q E s := by
  obtain ⟨o, ho, hex, hd⟩ := R.ob
  have hroom := R.room
  unfold setAddHashed
  refine wpAny_holding ?_
  rw [show (100000 : Nat) = 99999 + 1 from rfl, setAddHashedIn_succ]
  refine wpAny_bind (wpAny_setState_of ho hd R.fits ?_)
  dsimp only
  refine wp_if_neg (by simp [byScan, Value.scannable]) ?_
  try refine wpAny_bind (wpAny_pure ?_)
  refine wpAny_bind (look R cmp seen (fun y => ?_) fun K n nK bK => ?_)
  · dsimp only
    refine wpAny_pure (hQ false s.heap rs es ep t (Heap.SameBut.refl a s.heap) R (fun _ => rfl) fun z => ?_)
    obtain ⟨r, h1, h2, h3⟩ := y
    rw [z r h1 h2] at h3
    cases h3
  · have nn : ¬ ∃ r ∈ rs, r.1 = h ∧ eq r = true := fun ⟨r, h1, h2, h3⟩ => by rw [n r h1 h2] at h3; cases h3
    dsimp only
    refine wpAny_bind (wpAny_setState_of ho hd R.fits ?_)
    dsimp only
    obtain ⟨q1, q2, q3, q4, q5, q6, q7, q8, q9⟩ := R.tab.put nK bK
    generalize hpt : t.put (way t.mask h K) = pt at q1 q3 q4 q5 q6 q7 q8 q9 ⊢
    obtain ⟨t1, p⟩ := pt
    dsimp only at q1 q3 q4 q5 q6 q7 q8 q9 ⊢
    subst q1
    generalize SetTable.below t.place (way t.mask h K) = p at q2 q3 ⊢
    have pm : (rs.take p ++ (h, x) :: rs.drop p).Perm ((h, x) :: rs) := by
      have z : (rs.take p ++ (h, x) :: rs.drop p).Perm ((h, x) :: (rs.take p ++ rs.drop p)) := List.perm_middle
      rw [List.take_append_drop] at z
      exact z
    have hin : (SetTable.insertAt es p (h, Value.ref x)).toList = rowV (rs.take p ++ (h, x) :: rs.drop p) := by
      rw [SetTable.toList_insertAt, R.rows]
      unfold rowV
      rw [List.map_append, List.map_cons, List.map_take, List.map_drop]
    have hlen := pm.length_eq
    rw [List.length_cons] at hlen
    have hhs : (rs.take p ++ (h, x) :: rs.drop p).map (·.1) = (rs.map (·.1)).take p ++ h :: (rs.map (·.1)).drop p := by
      rw [List.map_append, List.map_cons, List.map_take, List.map_drop]
    rw [← hhs] at q3
    generalize SetTable.insertAt es p (h, Value.ref x) = es1 at hin ⊢
    generalize rs.take p ++ (h, x) :: rs.drop p = r1 at pm hlen q3 hin
    have hes : es1.size = rs.length + 1 := (size_of hin).trans hlen
    -- the table with or without the word "plain"
    have main : ∀ t2 : SetTable, t2.place = t1.place → t2.dummies = t1.dummies → t2.mask = t1.mask → t2.led = t1.led → t2.fill = t1.fill → wpAny (model P w) A (do
        storeSet a es1 t2
        if !false && t2.tooFull then setRelay a (SetTable.grown (es.size + 1))
        return true) Q E s := fun t2 u1 u2 u3 u4 u5 => by
      have T2 : TabOk t2 (r1.map (·.1)) := ⟨by rw [u1]; exact q3.ris, by rw [u2]; exact q3.dm, by rw [u1]; exact q3.sz, by rw [u3]; exact q3.mok, by rw [u1, u3]; exact q3.bd, by rw [u1, u3]; exact q3.reach⟩
      have mk2 : t2.mask = t.mask := u3.trans q4
      refine wpAny_bind (wpAny_storeSet_of ho hd ?_ (by rw [hes, sizeLine_eq]; omega))
      have sb : Heap.SameBut a s.heap (s.heap.update a (Obj.putSet es1 t2)) := Heap.SameBut.update ..
      have ho1 := store_at (es' := es1) (t' := t2) ho hd
      generalize s.heap.update a (Obj.putSet es1 t2) = h1 at sb ho1 ⊢
      have ld1 : w.params.followText "set-order" = true ∨ t2.led = true := by rw [u4, q5]; exact R.led
      have full : t2.tooFull = true ↔ (rs.length + 1) * 5 ≥ t2.mask * 3 := by
        unfold SetTable.tooFull
        rw [decide_eq_true_eq, u5, q9, List.length_map]
      by_cases hf : t2.tooFull = true
      · first
          | (refine wpAny_bind ?_; refine wp_if_pos (by simp [hf]) ?_)
          | (refine wp_if_pos (by simp [hf]) ?_; refine wpAny_bind ?_)
        have hfull := full.mp hf
        rw [R.size]
        have sz1 : t2.place.size = r1.length := by rw [T2.sz, List.length_map]
        have two : (t.mask = 7 ∧ rs.length = 4) ∨ (t.mask = 31 ∧ rs.length = 18) := by
          rw [mk2] at hfull
          rcases R.tab.mok with e | e | e <;> rw [e] at hfull hroom
          · exact .inl ⟨e, by omega⟩
          · exact .inr ⟨e, by omega⟩
          · omega
        have go : ∀ M, SetTable.sizeAbove (SetTable.grown (rs.length + 1)) - 1 = M → MaskOk M → SetTable.sizeAbove (SetTable.grown (rs.length + 1)) ≤ 128 → (rs.length + 1) * 5 < M * 3 →
            wpAny (model P w) A (setRelay a (SetTable.grown (rs.length + 1))) (fun _ s' => wpAny (model P w) A (pure true) Q E s') E { s with heap := h1 } := fun M m1 m2 m3 m4 => by
          refine relay (s := { s with heap := h1 }) ho1 ⟨hex.1, hex.2.1, hex.2.2⟩ rfl hin sz1 T2.dm (by rw [hlen, mk2]; rcases two with ⟨e, e2⟩ | ⟨e, e2⟩ <;> omega) ld1 (by rw [hlen]; exact few) m1 m2 m3 (by rw [hlen]; exact m4) ?_
          intro h2 r2 es2 ep2 t3 sb2 R2 pm2
          exact wpAny_pure (hQ true h2 r2 es2 ep2 t3 (sb.trans sb2) R2 (fun z => absurd z nn) fun _ => pm2.trans pm)
        rcases two with ⟨_, e2⟩ | ⟨_, e2⟩
        · exact go 31 (by rw [e2, size_20]) (.inr (.inl rfl)) (by rw [e2, size_20]; decide) (by omega)
        · exact go 127 (by rw [e2, size_76]) (.inr (.inr rfl)) (by rw [e2, size_76]; decide) (by omega)
      · first
          | refine wp_if_neg (by simp [hf]) ?_
          | (refine wpAny_bind ?_; refine wp_if_neg (by simp [hf]) ?_; refine wpAny_pure ?_)
        refine wpAny_pure (hQ true h1 r1 es1 (ep + 1) t2 sb ⟨⟨_, ho1, ⟨hex.1, hex.2.1, hex.2.2⟩, rfl⟩, hin, T2, ld1, ?_, by rw [hlen]; exact few⟩ (fun z => absurd z nn) fun _ => pm)
        have : ¬ (rs.length + 1) * 5 ≥ t2.mask * 3 := fun z => hf (full.mpr z)
        rw [hlen]
        omega
    by_cases pl : t1.plain = true
    · first
        | (refine wpAny_bind ?_; refine wp_if_pos pl ?_; refine hby _ fun b => ?_)
        | refine wp_if_pos pl (wpAny_bind (hby _ fun b => ?_))
      cases b with
      | true => exact main t1 rfl rfl rfl rfl rfl
      | false => exact main { t1 with plain := false } rfl rfl rfl rfl rfl
    · first
        | (refine wpAny_bind ?_; refine wp_if_neg pl ?_; refine wpAny_pure ?_)
        | refine wp_if_neg pl (wpAny_bind (wpAny_pure ?_))
      exact main t1 rfl rfl rfl rfl rfl
/-- a new set -/
theorem Rw.new {h : Heap} (ho : h.get? a = some { cls := .type "set", dict := none, data := .set #[] 0 (.fresh 0 0 (!w.params.followText "set-order")) }) : Rw w h a [] #[] 0 (.fresh 0 0 (!w.params.followText "set-order")) where
  ob := ⟨_, ho, ⟨rfl, rfl, rfl⟩, rfl⟩
  rows := rfl
  tab := ⟨List.Pairwise.nil, rfl, rfl, .inl rfl, fun x hx => (by cases hx), fun i h j hi => (by simp at hi)⟩
  led := by
    show _ ∨ (!w.params.followText "set-order") = true
    cases w.params.followText "set-order"
    · exact .inr rfl
    · exact .inl rfl
  room := by
    show 0 * 5 < 7 * 3
    decide
  few := by
    show 0 < 64
    decide
theorem Rw.keep {h h' : Heap} (R : Rw w h a rs es ep t) (ha : ∀ o, h.get? a = some o → h'.get? a = some o) : Rw w h' a rs es ep t := by
  obtain ⟨o, ho, r⟩ := R.ob
  exact ⟨⟨o, ha o ho, r⟩, R.rows, R.tab, R.led, R.room, R.few⟩
end
end LfK
set_option maxHeartbeats 4000000
/-! {e for x in l}: a set comprehension, for any reading O of the new set; sets of ints and texts; len of them -/
namespace Lf
open PySem PySem.Spec PyProof.Rows L2 Evl PpSet
section
variable {X : Cx} {τ : Type}
/-- an empty set as it is made -/
abbrev set0 (w : World) : Obj := { cls := .type "set", dict := none, data := .set #[] 0 (.fresh 0 0 (!w.params.followText "set-order")) }
/-- how a set is read: O, from z on; A says what an element makes of it -/
structure Fam (P : Program) (w : World) (τ : Type) where
  O : Addr → τ → HO
  z : τ
  A : V → τ → τ → Prop
  new : ∀ (H : Hp) (h : Heap), ObjOk P w H (h.push (set0 w)) h.objs.size (O h.objs.size z)
  add : ∀ {Y : Cx} {pins : List (Addr × Obj)} {σ : L2.St} {H : Hp} {s : Shared} {a : Addr} {y : V} {u : Value} {t t' : τ} {E : Value → Shared → Prop} {Q : Value → Shared → Prop}, Y.prog = P → Y.w = w → Inv Y pins σ H s → H a = some (O a t) → A y t t' → RelV y u →
    (∀ s', Inv Y pins σ (upd H a (O a t')) s' → Q .none s') → wpAny (model Y.prog Y.w) Y.A (call (.builtin "set.add") [.ref a, u]) Q E s
def tScF (F : Fam X.prog X.w τ) (wi : TI) (g : TG) (tt : TT) (te : TE) (vs : List Nat) : TE := fun σ H Q => wi σ H fun J H1 => ∀ D, H1 D = none → ∃ W : Nat → Nat → Hp → Prop, (∃ m, W 0 m (upd H1 D (F.O D F.z))) ∧ ∀ i m H, W i m H →
  (J.stop i H ∧ Q (.ref D) H) ∨ (J.go i H ∧ ∃ Nx : Hp → Prop, (∀ H', Nx H' → ∃ m', m' < m ∧ W (i + 1) m' H') ∧ ∀ x H', J.yld i H x H' → g x (wipe σ vs) H' fun σ2 H2 => wipe σ2 vs = wipe σ vs ∧ tt σ2 H2 fun b H3 =>
    if b = true then te σ2 H3 fun y H4 => ∃ t t', H4 D = some (F.O D t) ∧ F.A y t t' ∧ Nx (upd H4 D (F.O D t')) else Nx H3)
abbrev ceAt (X : Cx) (scope : Scope) (n : Nat) : Env := compEnvC scope (cellsFrom (n + 1) scope.names (cloFrom X.env.cells scope.names [])) n X.env
theorem pe_scF (F : Fam X.prog X.w τ) {elt tg iter : Expr} {ifs : List Expr} {scope : Scope} {own : List (Str × Nat)} {pos : Pos} {wi : TI} {g : TG} {tt : TT} {te : TE} (calm : X.calm = true) (nd : X.N.Nodup) (pi : PI X tg iter wi) (ok : BlkOk X.N X.env.scope scope own)
    (pg : ∀ (s : Shared) (H : Hp) (C : Addr) (cl : List (Str × Addr)) (fp : List Addr), PG (X.blk s H scope (compEnvC scope cl C X.env) fp) tg g) (pt : ∀ (s : Shared) (H : Hp) (C : Addr) (cl : List (Str × Addr)) (fp : List Addr), PTs (X.blk s H scope (compEnvC scope cl C X.env) fp) ifs tt)
    (pe : ∀ (s : Shared) (H : Hp) (C : Addr) (cl : List (Str × Addr)) (fp : List Addr), PE (X.blk s H scope (compEnvC scope cl C X.env) fp) elt te) (fo : ∀ x, foldedSetIterable iter X.env x = pure x := by intro _; rfl) :
    PE X (.SetComp elt [⟨tg, iter, ifs, 0⟩] scope pos) (tScF F wi g tt te (own.map (·.2))) := by
  refine ⟨fun pins s σ H Q I h => ?_⟩
  rw [eval_SetComp]
  have cells : ∀ y ∈ scope.names, y.2 = .free → ∃ c, X.env.cells.lookup y.1 = some c := fun y hy e => (ok.free y hy e).elim (fun k => I.ok.has _ (.inl k)) fun k => I.ok.has _ (.inr k)
  refine wpAny_comprehension_free rfl fo (closure_ok cells) ok.kind (fun y hy e => by rw [ok.uniq y hy, e]) ?_
  refine thn (pi.run pins s σ H _ I h) fun xv s1 hx => thn hx fun itv s2 ⟨it, fp, tn, J, H2, e, I2, T, st2, f2, q⟩ => ?_
  subst e
  refine newSet_ok (newEnv_comp ?_)
  obtain ⟨W, ⟨m0, w0⟩, turn⟩ := q s2.heap.objs.size (I2.hok.fresh (Nat.le_refl _))
  generalize eD : s2.heap.objs.size = D at w0 turn ⊢
  -- the set is there
  generalize e3 : ({ s2 with heap := s2.heap.push (set0 X.w) } : Shared) = s3
  have hp3 : s3.heap = s2.heap.push (set0 X.w) := by rw [← e3]
  generalize eH : upd H2 D (F.O D F.z) = H3 at w0
  have I3 : Inv X pins σ H3 s3 := by
    rw [← e3, ← eH, ← eD]
    exact I2.laid (t' := s2.toks) (fun b o z => Heap.get?_push_of_some _ z) (Nat.le_refl _) (F.new _ _)
  have lt2 : ∀ b ∈ fp, b < s2.heap.objs.size := fun b hb => by
    obtain ⟨o, z, _⟩ := T.obj _ _ st2 b hb
    exact Heap.lt_size z
  have f3 : ∀ b ∈ fp, FpOk X pins H3 b ∧ b < s3.heap.objs.size := fun b hb => by
    have lt := lt2 b hb
    refine ⟨⟨?_, (f2 b hb).2⟩, by rw [hp3, Heap.size_push]; exact Nat.lt_succ_of_lt lt⟩
    rw [← eH, upd_ne (by rw [← eD]; exact Nat.ne_of_lt lt)]
    exact (f2 b hb).1
  have st3 : tn 0 s3.heap := T.keep _ _ _ st2 fun b _ o z => by
    rw [hp3]
    exact Heap.get?_push_of_some _ z
  have I4 := block_start I3 ok nd f3
  generalize eN : s3.heap.objs.size = n3 at I4
  have pg := pg s3 H3 n3 (cellsFrom (n3 + 1) scope.names (cloFrom X.env.cells scope.names [])) fp
  have pt := pt s3 H3 n3 (cellsFrom (n3 + 1) scope.names (cloFrom X.env.cells scope.names [])) fp
  have pe := pe s3 H3 n3 (cellsFrom (n3 + 1) scope.names (cloFrom X.env.cells scope.names [])) fp
  have cL : (ceAt X scope n3).locals = n3 := rfl
  change PG (X.blk s3 H3 scope (ceAt X scope n3) fp) tg g at pg
  change PTs (X.blk s3 H3 scope (ceAt X scope n3) fp) ifs tt at pt
  change PE (X.blk s3 H3 scope (ceAt X scope n3) fp) elt te at pe
  have none3 : ∀ b ∈ fp, H3 b = none := fun b hb => (f3 b hb).1.1
  generalize ec : ceAt X scope n3 = ce at cL pg pt pe
  have I4' : Inv (X.blk s3 H3 scope ce fp) [] (wipe σ (own.map (·.2))) H3 { s3 with heap := pushCells (s3.heap.push { cls := .type "dict", data := .dict #[] }) scope.names } := by
    rw [← ec]
    exact I4
  clear I4
  have goal4 : ∀ s4 : Shared, s4 = { s3 with heap := pushCells (s3.heap.push { cls := .type "dict", data := .dict #[] }) scope.names } → Inv (X.blk s3 H3 scope ce fp) [] (wipe σ (own.map (·.2))) H3 s4 →
      codeAny (model X.prog X.w) X.A (.compStart (.SetComp elt [⟨tg, iter, ifs, 0⟩] scope pos) 0 (.ref it) (.ref D) ce) (compPost (model X.prog X.w) X.A X.xe none (EP X pins σ Q) (.ref D) n3) s4 := fun s4 e4 I4 => by
    have st4 : tn 0 s4.heap := T.keep _ _ _ st3 fun b _ o z => by
      rw [e4]
      exact pushCells_keeps _ _ _ _ (Heap.get?_push_of_some _ z)
    have fpk : ∀ {σ' : L2.St} {H' : Hp} {s' : Shared}, Inv (X.blk s3 H3 scope ce fp) [] σ' H' s' → (∀ b ∈ fp, H' b = none) → ∀ b ∈ fp, FpOk (X.blk s3 H3 scope ce fp) [] H' b := fun {σ' H' s'} I' z b hb =>
      ⟨z b hb, (I'.ok.exf b hb).1, I'.ok.exfs b hb, .inl hb, fun x c e => (I'.ok.exf b hb).2 x c e, fun p hp => absurd (show p ∈ ([] : List (Addr × Obj)) ++ [] from hp) (by simp)⟩
    refine codeAny_compStart_set ?loop (T.self X.A 0 _ _ _ st4 ?loop)
    refine compLoopS_any (fun n s' => ∃ i H', Inv (X.blk s3 H3 scope ce fp) [] (wipe σ (own.map (·.2))) H' s' ∧ tn i s'.heap ∧ (∀ b ∈ fp, H' b = none) ∧ W i n H') ?_ m0 ⟨0, H3, I4, st4, none3, w0⟩
    rintro n s5 ⟨i, H5, I5, st5, n5, w5⟩
    rcases turn i n H5 w5 with ⟨stop, done⟩ | ⟨go, Nx, less, step⟩
    · refine thnF (T.done (X.blk s3 H3 scope ce fp) rfl rfl rfl calm i [] s5 _ H5 (fun _ _ => False) I5 (fpk I5 n5) st5 stop) fun r s6 ⟨er, I6⟩ => ?_
      subst er
      have I7 : Inv X pins σ H5 s6 := I3.call' (ch := fp) I6.os I6.base I6.hok I6.bare fun b hb => ⟨(f3 b hb).1.2.2.2.1, (f3 b hb).1.2.1, (f3 b hb).1.2.2.2.2.1, (f3 b hb).1.2.2.2.2.2⟩
      have free : H5 n3 = none := by
        have z : H5 ce.locals = none := I6.free
        rwa [cL] at z
      obtain ⟨m, nsm, _⟩ := I6.loc
      have nsm : s6.heap.Ns ce.locals m := nsm
      rw [cL] at nsm
      refine ⟨m, nsm, fun h'' sb => ?_⟩
      have fk := I3.fpOk (b := n3) (by rw [eN]; exact Nat.le_refl _) free
      obtain ⟨g0, g1, g2, g3, g4, g5⟩ := fk
      exact ⟨.ref D, H5, I7.turned (t' := s6.toks) (fun b o hb z => (sb.2 b hb).trans z) g0 g1 g3 g4 g5, rfl, done⟩
    · refine thnF (T.item (X.blk s3 H3 scope ce fp) rfl rfl rfl calm i [] s5 _ H5 (fun _ _ => False) I5 (fpk I5 n5) st5 go) fun r s6 ⟨u, er, h6⟩ => ?_
      subst er
      refine thnF h6 fun _ s7 ⟨x, H7, I7, r7, y7, st7, n7⟩ => ?_
      refine thnF (pg.run _ s7 _ H7 x u _ (I7.pinned (fpk I7 n7) (T.obj _ _ st7)) r7 (step x H7 y7)) fun _ s8 ⟨σ8, H8, I8, ew, q8⟩ => ?_
      refine thnF (pt.run _ s8 σ8 H8 _ I8 q8) fun b s9 ⟨H9, I9, q9⟩ => ?_
      have close : ∀ {s' : Shared} {H' : Hp}, Inv (X.blk s3 H3 scope ce fp) ([] ++ pinsAt fp s7.heap) σ8 H' s' → Nx H' → ∃ m, m < n ∧ ∃ i H', Inv (X.blk s3 H3 scope ce fp) [] (wipe σ (own.map (·.2))) H' s' ∧ tn i s'.heap ∧ (∀ b ∈ fp, H' b = none) ∧ W i m H' := fun {s' H'} I' nx => by
        obtain ⟨m', lt, w'⟩ := less H' nx
        have pinned : ∀ b ∈ fp, ∀ o, s7.heap.get? b = some o → s'.heap.get? b = some o ∧ H' b = none := fun b hb o z =>
          have y := I'.pin (b, o) (List.mem_append_right _ (List.mem_append_right _ (mem_pinsAt hb z)))
          ⟨y.1, y.2.1⟩
        refine ⟨m', lt, i + 1, H', (I'.unpinned (pins := [])).weak (by rw [← ew, wipe_length]) (fun j v z => ?_), T.keep _ _ _ st7 fun b hb o z => (pinned b hb o z).1, fun b hb => ?_, w'⟩
        · rw [← ew] at z
          exact (wipe_some z).1
        · obtain ⟨o, z, _⟩ := T.obj _ _ st7 b hb
          exact (pinned b hb o z).2
      cases b with
      | false =>
        rw [if_neg Bool.false_ne_true] at q9 ⊢
        exact close I9 q9
      | true =>
        rw [if_pos rfl] at q9 ⊢
        refine thnF (pe.run _ s9 σ8 H9 _ I9 q9) fun v s10 ⟨y, H10, I10, r10, t, t', hD, ha, nx⟩ => ?_
        exact F.add (Y := X.blk s3 H3 scope ce fp) rfl rfl I10 hD ha r10 fun s11 I11 => close I11 nx
  have fin := goal4 _ rfl I4'
  rw [← ec] at fin
  subst eN
  exact fin
end
/-! ### sets of ints and texts -/
/-- a set of keys: what is in it, how many -/
def famK (P : Program) (w : World) : Fam P w ((Key → Bool) × Nat) where
  O := fun a t => SetK P w a t.1 t.2
  z := (fun _ => false, 0)
  A := fun y t t' => ∃ k : Key, y = kV k ∧ t.2 + 1 < scanBound ∧ t' = (fun j => t.1 j || decide (j = k), if t.1 k = true then t.2 else t.2 + 1)
  new := fun H h => by
    have R : (h.push (set0 w)).SetOf (mixKind P w) h.objs.size (fun _ => false) 0 := ⟨_, #[], 0, _, Heap.get?_push_size _ rfl, ⟨rfl, rfl, rfl⟩, rfl, (fun e he => by simp at he), (fun k => by simp), (by decide), (by rfl), rfl⟩
    exact setK_new R
  add := fun {Y pins σ H s a y u t t' E Q} e1 e2 I ha hA r k => by
    subst e1
    subst e2
    obtain ⟨key, rfl, room, rfl⟩ := hA
    refine call_set_add (kV_is r) (key_scan r) (setK_get I ha) room fun h' sb R => ?_
    have there : ∃ u, h'.get? a = some u := by
      have ⟨o, _, _, _, ho, _⟩ := R
      exact ⟨o, ho⟩
    exact k _ (I.write (e := a) (t' := s.toks + 1) (by rw [ha]; trivial) (.inl rfl) (fun b u hb hu => (sb.2 b hb).trans hu) there (setK_new R))
/-- len of such a set -/
def rLenK (P : Program) (w : World) : List V → Hp → VK → Prop := fun xs H Q => ∃ (a : Addr) (S : Key → Bool) (n : Nat), xs = [.ref a] ∧ H a = some (SetK P w a S n) ∧ Q (.int (n : Nat)) H
theorem cr_lenK {X : Cx} : CallR X (.builtin "len") (rLenK X.prog X.w) := by
  intro pins s σ H xs us Q I r h
  obtain ⟨a, S, n, rfl, ha, q⟩ := h
  obtain ⟨u, rfl, ru⟩ := r.one
  cases ru
  obtain ⟨o, es, ep, t, ho, ex, hd, _, _, small, fits, hn⟩ := setK_get I ha
  have hs : (es.size : Int) < 2 ^ 63 := by unfold scanBound at small; omega
  exact call_len_set ho ex hd fits hs ⟨.int (n : Nat), H, I.tok _, ⟨_, by rw [hn]⟩, q⟩
/-- the texts of a list, each once -/
def uniq (l : List Str) : List Str := l.foldl (fun acc x => if x ∈ acc then acc else acc ++ [x]) []
theorem uniq_snoc (l : List Str) (x : Str) : uniq (l ++ [x]) = if x ∈ uniq l then uniq l else uniq l ++ [x] := by
  unfold uniq
  rw [List.foldl_append]
  rfl
theorem snoc_ind {α : Type} {p : List α → Prop} (h0 : p []) (h1 : ∀ l x, p l → p (l ++ [x])) (l : List α) : p l := by
  have key : ∀ n (l : List α), l.length = n → p l := fun n => by
    induction n with
    | zero => intro l e; rw [List.length_eq_zero_iff.mp e]; exact h0
    | succ n ih =>
      intro l e
      have ne : l ≠ [] := fun z => by rw [z] at e; cases e
      rw [← List.dropLast_concat_getLast ne]
      exact h1 _ _ (ih _ (by rw [List.length_dropLast, e]; rfl))
  exact key _ l rfl
def inS (l : List Str) : Key → Bool
  | .inr x => decide (x ∈ l)
  | .inl _ => false
theorem inS_snoc (l : List Str) (y : Str) : inS (l ++ [y]) = fun j => inS l j || decide (j = Sum.inr y) := by
  funext k
  cases k with
  | inl i => rfl
  | inr x =>
    show decide _ = (decide _ || decide _)
    rw [← Bool.decide_or, decide_eq_decide, List.mem_append, List.mem_singleton]
    simp
theorem inS_same {l : List Str} {y : Str} (h : y ∈ l) : inS l = fun j => inS l j || decide (j = Sum.inr y) := by
  funext k
  cases k with
  | inl i => rfl
  | inr x =>
    show decide _ = (decide _ || decide _)
    rw [← Bool.decide_or, decide_eq_decide]
    constructor
    · exact .inl
    · rintro (z | z)
      · exact z
      · cases z
        exact h
theorem uniq_le : ∀ (l : List Str), (uniq l).length ≤ l.length := by
  refine snoc_ind (Nat.le_refl _) fun l x ih => ?_
  rw [uniq_snoc, List.length_append]
  split
  · omega
  · rw [List.length_append]
    omega
theorem mem_uniq {l : List Str} {x : Str} : x ∈ uniq l ↔ x ∈ l := by
  refine snoc_ind (p := fun l => x ∈ uniq l ↔ x ∈ l) Iff.rfl (fun l y ih => ?_) l
  rw [uniq_snoc, List.mem_append, List.mem_singleton]
  by_cases c : y ∈ uniq l
  · rw [if_pos c]
    constructor
    · exact fun h => .inl (ih.mp h)
    · rintro (h | rfl)
      · exact ih.mpr h
      · exact c
  · rw [if_neg c, List.mem_append, List.mem_singleton, ih]
/-- as many as there are: no text stands twice -/
theorem uniq_all {l : List Str} : (uniq l).length = l.length ↔ l.Nodup := by
  refine snoc_ind (p := fun l => (uniq l).length = l.length ↔ l.Nodup) ⟨fun _ => List.nodup_nil, fun _ => rfl⟩ (fun l x ih => ?_) l
  rw [uniq_snoc, List.length_append, List.nodup_append]
  have le := uniq_le l
  by_cases c : x ∈ uniq l
  · rw [if_pos c]
    constructor
    · intro h
      simp only [List.length_cons, List.length_nil] at h
      omega
    · rintro ⟨_, _, h⟩
      exact absurd rfl (h x (mem_uniq.mp c) x (by simp))
  · rw [if_neg c, List.length_append]
    constructor
    · intro h
      refine ⟨ih.mp (by simp only [List.length_cons, List.length_nil] at h; omega), by simp, fun a ha b hb => ?_⟩
      rw [List.mem_singleton.mp hb]
      rintro rfl
      exact c (mem_uniq.mpr ha)
    · rintro ⟨h, _, _⟩
      rw [ih.mpr h]
section
variable {P : Program} {w : World} {K : PySem.W.Frag} {σ : L2.St} {G : Hp} {tl te : TE} {ds : List PyData}
/-- len({e for x in t}), e a text -/
theorem ev_lenScT {j : Nat} {vs : List Nat} {X : Cx} (f : PyData → Str) (h : EvD tl σ G (.tuple ds)) (hz : ds.length ≤ 1000) (hw : ∀ x, wipe ((wipe σ vs).set j (some x)) vs = wipe σ vs)
    (he : ∀ d ∈ ds, ∀ v G1, Ex G G1 → Da G1 v d → Ev te ((wipe σ vs).set j (some v)) G1 (.str (f d))) :
    Ev (tCB (rLenK X.prog X.w) (tCons (tScF (famK X.prog X.w) (iTup K tl) (gName j) tYes te vs) tNil)) σ G (.int ((uniq (ds.map f)).length : Nat)) := fun H0 x0 Q q => h G H0 (Ex.refl _) x0 _ fun v G1 H1 r hd => by
  obtain ⟨a, xs, rfl, ea, hs⟩ := hd.tup_
  let T := fun (i : Nat) => (inS (uniq ((ds.take i).map f)), (uniq ((ds.take i).map f)).length)
  refine ⟨a, rfl, ⟨xs, SqT.of (r.s _ _ ea)⟩, fun D hD => ⟨fun i m H' => m = xs.length - i ∧ i ≤ xs.length ∧ Ex H1 H' ∧ H' D = some ((famK X.prog X.w).O D (T i)), ⟨xs.length, by simp, Nat.zero_le _, Ex.new hD, by rw [upd_same, show (famK X.prog X.w).z = T 0 from Prod.ext (funext fun k => by cases k <;> rfl) rfl]⟩, ?_⟩⟩
  rintro i m H' ⟨rfl, hi, e1, e2⟩
  have sq : SqT K H' a xs := SqT.of (e1 _ _ (r.s _ _ ea))
  by_cases lt : i < xs.length
  · refine .inr ⟨⟨xs, xs[i], sq, by simp [lt]⟩, fun H3 => Ex H1 H3 ∧ H3 D = some ((famK X.prog X.w).O D (T (i + 1))), fun H3 ⟨y1, y2⟩ => ⟨xs.length - (i + 1), by omega, rfl, lt, y1, y2⟩, fun x H3 y => ?_⟩
    obtain ⟨rfl, y⟩ := y
    have ex : xs[i]? = some x := y xs sq
    obtain ⟨d, hdi, hdv⟩ := hs.at ex
    refine ⟨hw x, ?_⟩
    change te _ _ _
    have g1 : Ex G1 _ := r.s.trans e1
    refine he d (List.mem_of_getElem? hdi) x G1 r.g hdv _ g1 _ fun H4 x4 => ⟨T i, T (i + 1), x4 _ _ e2, ⟨Sum.inr (f d), rfl, ?_, ?_⟩, Ex.mut (e1.trans x4) hD, upd_same⟩
    · have := uniq_le ((ds.take i).map f)
      rw [List.length_map, List.length_take] at this
      show (uniq ((ds.take i).map f)).length + 1 < scanBound
      unfold scanBound
      omega
    · have tk : (ds.take (i + 1)).map f = (ds.take i).map f ++ [f d] := by rw [take_da hdi, List.map_append]; rfl
      show (inS (uniq ((ds.take (i + 1)).map f)), (uniq ((ds.take (i + 1)).map f)).length) = (fun j => inS (uniq ((ds.take i).map f)) j || decide (j = Sum.inr (f d)), if inS (uniq ((ds.take i).map f)) (Sum.inr (f d)) = true then (uniq ((ds.take i).map f)).length else (uniq ((ds.take i).map f)).length + 1)
      rw [tk, uniq_snoc]
      by_cases c : f d ∈ uniq ((ds.take i).map f)
      · rw [if_pos c, ← inS_same c, if_pos (show inS (uniq ((ds.take i).map f)) (Sum.inr (f d)) = true from decide_eq_true c)]
      · rw [if_neg c, inS_snoc, if_neg (show ¬ inS (uniq ((ds.take i).map f)) (Sum.inr (f d)) = true from fun z => c (of_decide_eq_true z)), List.length_append]
        rfl
  · have e : i = xs.length := by omega
    subst e
    refine .inl ⟨⟨xs, sq, Nat.le_refl _⟩, D, _, _, rfl, e2, ?_⟩
    have : (uniq ((ds.take xs.length).map f)).length = (uniq (ds.map f)).length := by rw [hs.len, List.take_length]
    show Q (.int ((uniq ((ds.take xs.length).map f)).length : Nat)) H'
    rw [this]
    exact q H' (r.h.trans e1)
end
end Lf
set_option maxHeartbeats 4000000
/-! set(l), l a list: told by what one further item makes of the set; len(set(l)) of texts -/
namespace Lf
open PySem PySem.Spec PyProof.Rows L2 Evl PpSet
section
variable {prog : Program} {w : World} {A : Around} {R : Result → Shared → Prop} {I : Addr} {fp wr : List Addr} {G : Array GenState → Array GenState → Prop} {n : Nat} {P : Nat → Value → Prop} {St : Nat → Shared → Prop}
/-- an item more: Z i tells the set behind i items -/
def Adds (prog : Program) (w : World) (A : Around) (S : Addr) (P : Nat → Value → Prop) (Z : Nat → Heap → Prop) : Prop := ∀ (i : Nat) (v : Value) (s : Shared) (Q : Bool → Shared → Prop) (E : Value → Shared → Prop), P i v → Z i s.heap →
  (∀ b h' tk, s.toks ≤ tk → Heap.SameBut S s.heap h' → Z (i + 1) h' → Q b { s with heap := h', toks := tk }) → wpAny (model prog w) A (setAdd S v) Q E s
theorem set_loop (W : WalksS prog w A.in1 I fp wr G n P St) (S : Addr) (hSf : S ∉ fp) (Z : Nat → Heap → Prop) (zk : ∀ i h h', Z i h → (∀ b o, b ∉ wr → h.get? b = some o → h'.get? b = some o) → Z i h') (zs : Adds prog w A.in1 S P Z) :
    ∀ (k i : Nat) (s : Shared), n - i = k → i ≤ n → St i s → Z i s.heap → (∀ s', Moved (S :: wr) G s s' → Z n s'.heap → R (.ok (.ret .none)) s') → codeAny (model prog w) A (.builtin "set.update.loop" ⟨[.ref S, .ref I], []⟩) R s := by
  have sub : ∀ b ∈ wr, b ∈ S :: wr := fun b hb => List.mem_cons_of_mem _ hb
  intro k
  induction k with
  | zero =>
    intro i s hk hi hst hZ hR
    obtain rfl : i = n := by omega
    refine codeAny_builtin F.entry_set_update_loop ?_
    rw [Around.under_plainId F.plain_set_update_loop _]
    show wpAny _ A.in1 (pyNext (.ref I) >>= _) _ _ s
    refine wpAny_bind (W.done s _ _ hst fun s' hm => ?_)
    show wpAny _ A.in1 (ret Value.none) _ _ s'
    exact wpAny_pure (hR s' (hm.mono sub) (zk _ _ _ hZ fun b o hb e => hm.heap b o hb e))
  | succ k ih =>
    intro i s hk hi hst hZ hR
    have hlt : i < n := by omega
    refine codeAny_builtin F.entry_set_update_loop ?_
    rw [Around.under_plainId F.plain_set_update_loop _]
    show wpAny _ A.in1 (pyNext (.ref I) >>= _) _ _ s
    refine wpAny_bind (W.item i s _ _ hlt hst fun v s' hP hst' hm => ?_)
    show wpAny _ A.in1 (holding [v] (setAdd S v) >>= _) _ _ s'
    refine wpAny_bind (wpAny_holding (zs i v s' _ _ hP (zk _ _ _ hZ fun b o hb e => hm.heap b o hb e) fun b h' tk le sb hZ' => ?_))
    refine wpAny_pure ⟨plainId_quiet F.plain_set_update_loop _, ih (i + 1) _ (by omega) hlt (W.frame _ s' _ _ hst' le fun c hc o e => ?_) hZ' fun s'' hm'' hZ'' => ?_⟩
    · rw [sb.2 c (fun h : c = S => hSf (by rw [← h]; exact hc))]
      exact e
    · refine hR s'' (Moved.trans W.gtrans ((hm.mono sub).then_heap le fun c o hc e => ?_) hm'') hZ''
      rw [sb.2 c (fun h : c = S => hc (by rw [h]; exact List.mem_cons_self))]
      exact e
end
section
variable {prog : Program} {w : World} {A : Around} {E : Value → Shared → Prop} {s : Shared}
/-- set(l) -/
theorem call_set_run {l : Addr} {items : Array Value} {Q : Value → Shared → Prop} (Z : Nat → Heap → Prop) (hh : A.handled = none) (hl : s.heap.IsList l items)
    (z0 : ∀ led h, (∀ b o, s.heap.get? b = some o → h.get? b = some o) → h.get? s.heap.objs.size = some { cls := .type "set", dict := none, data := .set #[] 0 (.fresh 0 0 led) } → Z 0 h)
    (zk : ∀ i h h', Z i h → (∀ b o, b ≠ s.heap.objs.size + 1 → h.get? b = some o → h'.get? b = some o) → Z i h') (zs : ∀ B : Around, B.handled = none → B.units ≤ A.units + 10 → Adds prog w B s.heap.objs.size (fun i v => items[i]? = some v) Z)
    (h : ∀ (h' : Heap) (tk : Nat), Z items.size h' → (∀ b o, b < s.heap.objs.size → s.heap.get? b = some o → h'.get? b = some o) → Q (.ref s.heap.objs.size) { s with heap := h', toks := tk }) :
    wpAny (model prog w) A (call (.type "set") [.ref l]) Q E s := by
  obtain ⟨c, tl, hmro⟩ := PySem.F.called_set.mro
  have hmade := PySem.F.called_set.made
  have hsub := PySem.F.called_set.sub
  refine wpAny_call (codeAny_of_tree ?_)
  show wpAny _ _ (callAny (.type "set") _) _ _ _
  refine wpAny_pure ⟨Code.quiet_builtin _ (by decide +kernel), codeAny_builtin PySem.F.entry_type_call ?_⟩
  rw [Around.under_plain (weight_type_call_type "set" [.ref l] []) rfl]
  have h1 := PySem.F.called_set.notType
  have h2 := PySem.F.called_set.canCreate
  have hct := PySem.F.typeCall_set_1 (.ref l)
  repeat (any_goals (first | assumption | wp_step))

  refine codeAny_mono (code_set_new_1 (.ref l) (E := E) (Q₁ := fun obj s₁ => ∃ led : Bool, obj = .ref s.heap.objs.size ∧ s₁ = { s with heap := s.heap.push { cls := .type "set", dict := none, data := .set #[] 0 (.fresh 0 0 led) } }) fun led => ⟨led, rfl, rfl⟩) fun r s₁ hr => ?_
  cases r with
  | error e => exact hr
  | ok fl =>
    cases fl with
    | ret obj =>
      obtain ⟨led, rfl, rfl⟩ := hr
      have hS : (s.heap.push { cls := .type "set", dict := none, data := .set #[] 0 (.fresh 0 0 led) }).get? s.heap.objs.size = some { cls := .type "set", dict := none, data := .set #[] 0 (.fresh 0 0 led) } := Heap.get?_push_size _ rfl
      have hT : Shared.TypeIs { s with heap := s.heap.push { cls := .type "set", dict := none, data := .set #[] 0 (.fresh 0 0 led) } } (.ref s.heap.objs.size) "set" := ⟨_, hS, rfl⟩
      have hli := PySem.F.called_set.init.lookup
      have hbi := PySem.F.called_set.init.bind (.ref s.heap.objs.size)
      repeat (any_goals (first | assumption | wp_step))

      refine codeAny_mono (codeAny_call_builtin (R := wants (fun r s₂ => r = .none ∧ ∃ h' tk, s₂ = { s with heap := h', toks := tk } ∧ Z items.size h' ∧
          (∀ b o, b < s.heap.objs.size → s.heap.get? b = some o → h'.get? b = some o)) E) PySem.F.called_set.init.plain PySem.F.entry_set_init (check_set_init_1 hT ?_)) fun r₂ s₂ hr₂ => ?_
      · obtain ⟨ol, hol, hcl, nl, hdl⟩ := hl
        obtain ⟨ocls, odict, odata, oslots⟩ := ol
        simp only at hcl hdl
        subst hcl; subst hdl
        have hol' : (s.heap.push { cls := .type "set", dict := none, data := .set #[] 0 (.fresh 0 0 led) }).get? l = some { cls := .type "list", dict := odict, data := .seq items nl, slots := oslots } := Heap.get?_push_of_some _ hol
        have hsls := PySem.F.sub_list_set
        have hslf := PySem.F.sub_list_frozenset
        have hne : (Value.type "list" == Value.type "dict") = false := by decide
        have hl1 : (s.heap.push { cls := .type "set", dict := none, data := .set #[] 0 (.fresh 0 0 led) }).IsList l items := ⟨_, hol', rfl, nl, rfl⟩
        unfold Builtin.«set.__init__» noKeywords Builtin.Frozenset.updateFrom
        generalize hPI : pyIter = PI
        wp_walk
        subst hPI
        refine wpAny_pyIter_list hl1 ?_
        refine wpAny_bind (wpAny_runValue ?_)
        have hlS : l < s.heap.objs.size := Heap.lt_size hol
        have hh3 : A.in1.in1.in1.handled = none := by simp [hh]
        have sz1 : (s.heap.push { cls := .type "set", dict := none, data := .set #[] 0 (.fresh 0 0 led) }).objs.size = s.heap.objs.size + 1 := Heap.size_push ..
        have hneI : l ≠ (s.heap.push { cls := .type "set", dict := none, data := .set #[] 0 (.fresh 0 0 led) }).objs.size := by
          rw [sz1]; exact Nat.ne_of_lt (Nat.lt_succ_of_lt hlS)
        have hSf : s.heap.objs.size ∉ [(s.heap.push { cls := .type "set", dict := none, data := .set #[] 0 (.fresh 0 0 led) }).objs.size, l] := by
          rw [sz1]; simp only [List.mem_cons, List.mem_singleton, List.not_mem_nil, or_false, not_or]
          exact ⟨Nat.ne_of_lt (Nat.lt_succ_self _), Nat.ne_of_gt hlS⟩
        refine set_loop ((Walks.list hh3 _ l hneI items).toS) s.heap.objs.size hSf Z (fun i g g' z k => zk i g g' z fun b o ne e => k b o (fun hm => ne (by rw [List.mem_singleton.mp hm, sz1])) e) (zs _ ?hB ?hU) (items.size - 0) 0 _ (by omega) (Nat.zero_le _)
          ⟨⟨_, Heap.get?_push_size _ rfl, rfl, rfl⟩, (hl1.push _)⟩ ?hS0 ?hR
        case hB => simp [hh]
        case hU =>
          show A.units + 1 + 1 + 1 ≤ A.units + 10
          omega
        case hS0 => exact z0 led _ (fun b o e => Heap.get?_push_of_some _ (Heap.get?_push_of_some _ e)) (Heap.get?_push_of_some _ hS)
        case hR =>
          intro s' hm hZ'
          obtain ⟨h', g', d', tk', os'⟩ := s'
          have eg : g' = s.gens := hm.gens
          have ed : d' = s.drawn := hm.drawn
          have eo : os' = s.os := hm.os
          subst eg; subst ed; subst eo
          show wpAny _ _ _ _ _ _
          refine wpAny_pure ?_
          show wpAny _ _ (ret Value.none) _ _ _
          refine wpAny_pure ⟨rfl, h', tk', rfl, hZ', fun b o hb e => ?_⟩
          have hb1 : b ≠ s.heap.objs.size := Nat.ne_of_lt hb
          have hb2 : b ≠ (s.heap.push { cls := .type "set", dict := none, data := .set #[] 0 (.fresh 0 0 led) }).objs.size := by
            rw [sz1]; exact Nat.ne_of_lt (Nat.lt_succ_of_lt hb)
          exact hm.heap b o (by simp only [List.mem_cons, List.mem_singleton, List.not_mem_nil, or_false, not_or]; exact ⟨hb1, hb2⟩) (Heap.get?_push_of_some _ (Heap.get?_push_of_some _ e))
      · cases r₂ with
        | error e => exact hr₂
        | ok fl₂ =>
          cases fl₂ with
          | ret r =>
            obtain ⟨rfl, h', tk, rfl, hZ', hk'⟩ := hr₂
            repeat (any_goals (first | assumption | wp_step))
            exact h _ _ hZ' hk'
          | _ => exact hr₂.elim
    | _ => exact hr.elim
end
end Lf
set_option maxHeartbeats 4000000
/-! set(l) and set(t), as LfSetL tells it, with the word whether the order is led -/
namespace Lf
open PySem PySem.Spec PyProof.Rows L2 Evl PpSet
section
variable {prog : Program} {w : World} {A : Around} {E : Value → Shared → Prop} {s : Shared}
/-- set(l) -/
theorem call_setL {l : Addr} {items : Array Value} {Q : Value → Shared → Prop} (Z : Nat → Heap → Prop) (hh : A.handled = none) (hl : s.heap.IsList l items)
    (z0 : ∀ h, (∀ b o, s.heap.get? b = some o → h.get? b = some o) → h.get? s.heap.objs.size = some { cls := .type "set", dict := none, data := .set #[] 0 (.fresh 0 0 (!w.params.followText "set-order")) } → Z 0 h)
    (zk : ∀ i h h', Z i h → (∀ b o, b ≠ s.heap.objs.size + 1 → h.get? b = some o → h'.get? b = some o) → Z i h') (zs : ∀ B : Around, B.handled = none → B.units ≤ A.units + 10 → Adds prog w B s.heap.objs.size (fun i v => items[i]? = some v) Z)
    (h : ∀ (h' : Heap) (tk : Nat), Z items.size h' → (∀ b o, b < s.heap.objs.size → s.heap.get? b = some o → h'.get? b = some o) → Q (.ref s.heap.objs.size) { s with heap := h', toks := tk }) :
    wpAny (model prog w) A (call (.type "set") [.ref l]) Q E s := by
  obtain ⟨c, tl, hmro⟩ := PySem.F.called_set.mro
  have hmade := PySem.F.called_set.made
  have hsub := PySem.F.called_set.sub
  refine wpAny_call (codeAny_of_tree ?_)
  show wpAny _ _ (callAny (.type "set") _) _ _ _
  refine wpAny_pure ⟨Code.quiet_builtin _ (by decide +kernel), codeAny_builtin PySem.F.entry_type_call ?_⟩
  rw [Around.under_plain (weight_type_call_type "set" [.ref l] []) rfl]
  have h1 := PySem.F.called_set.notType
  have h2 := PySem.F.called_set.canCreate
  have hct := PySem.F.typeCall_set_1 (.ref l)
  repeat (any_goals (first | assumption | wp_step))

  refine codeAny_mono (code_set_led1 (.ref l) (E := E) (Q₁ := fun obj s₁ => obj = .ref s.heap.objs.size ∧ s₁ = { s with heap := s.heap.push { cls := .type "set", dict := none, data := .set #[] 0 (.fresh 0 0 (!w.params.followText "set-order")) } }) ⟨rfl, rfl⟩) fun r s₁ hr => ?_
  cases r with
  | error e => exact hr
  | ok fl =>
    cases fl with
    | ret obj =>
      obtain ⟨rfl, rfl⟩ := hr
      have hS : (s.heap.push { cls := .type "set", dict := none, data := .set #[] 0 (.fresh 0 0 (!w.params.followText "set-order")) }).get? s.heap.objs.size = some { cls := .type "set", dict := none, data := .set #[] 0 (.fresh 0 0 (!w.params.followText "set-order")) } := Heap.get?_push_size _ rfl
      have hT : Shared.TypeIs { s with heap := s.heap.push { cls := .type "set", dict := none, data := .set #[] 0 (.fresh 0 0 (!w.params.followText "set-order")) } } (.ref s.heap.objs.size) "set" := ⟨_, hS, rfl⟩
      have hli := PySem.F.called_set.init.lookup
      have hbi := PySem.F.called_set.init.bind (.ref s.heap.objs.size)
      repeat (any_goals (first | assumption | wp_step))

      refine codeAny_mono (codeAny_call_builtin (R := wants (fun r s₂ => r = .none ∧ ∃ h' tk, s₂ = { s with heap := h', toks := tk } ∧ Z items.size h' ∧
          (∀ b o, b < s.heap.objs.size → s.heap.get? b = some o → h'.get? b = some o)) E) PySem.F.called_set.init.plain PySem.F.entry_set_init (check_set_init_1 hT ?_)) fun r₂ s₂ hr₂ => ?_
      · obtain ⟨ol, hol, hcl, nl, hdl⟩ := hl
        obtain ⟨ocls, odict, odata, oslots⟩ := ol
        simp only at hcl hdl
        subst hcl; subst hdl
        have hol' : (s.heap.push { cls := .type "set", dict := none, data := .set #[] 0 (.fresh 0 0 (!w.params.followText "set-order")) }).get? l = some { cls := .type "list", dict := odict, data := .seq items nl, slots := oslots } := Heap.get?_push_of_some _ hol
        have hsls := PySem.F.sub_list_set
        have hslf := PySem.F.sub_list_frozenset
        have hne : (Value.type "list" == Value.type "dict") = false := by decide
        have hl1 : (s.heap.push { cls := .type "set", dict := none, data := .set #[] 0 (.fresh 0 0 (!w.params.followText "set-order")) }).IsList l items := ⟨_, hol', rfl, nl, rfl⟩
        unfold Builtin.«set.__init__» noKeywords Builtin.Frozenset.updateFrom
        generalize hPI : pyIter = PI
        wp_walk
        subst hPI
        refine wpAny_pyIter_list hl1 ?_
        refine wpAny_bind (wpAny_runValue ?_)
        have hlS : l < s.heap.objs.size := Heap.lt_size hol
        have hh3 : A.in1.in1.in1.handled = none := by simp [hh]
        have sz1 : (s.heap.push { cls := .type "set", dict := none, data := .set #[] 0 (.fresh 0 0 (!w.params.followText "set-order")) }).objs.size = s.heap.objs.size + 1 := Heap.size_push ..
        have hneI : l ≠ (s.heap.push { cls := .type "set", dict := none, data := .set #[] 0 (.fresh 0 0 (!w.params.followText "set-order")) }).objs.size := by
          rw [sz1]; exact Nat.ne_of_lt (Nat.lt_succ_of_lt hlS)
        have hSf : s.heap.objs.size ∉ [(s.heap.push { cls := .type "set", dict := none, data := .set #[] 0 (.fresh 0 0 (!w.params.followText "set-order")) }).objs.size, l] := by
          rw [sz1]; simp only [List.mem_cons, List.mem_singleton, List.not_mem_nil, or_false, not_or]
          exact ⟨Nat.ne_of_lt (Nat.lt_succ_self _), Nat.ne_of_gt hlS⟩
        refine set_loop ((Walks.list hh3 _ l hneI items).toS) s.heap.objs.size hSf Z (fun i g g' z k => zk i g g' z fun b o ne e => k b o (fun hm => ne (by rw [List.mem_singleton.mp hm, sz1])) e) (zs _ ?hB ?hU) (items.size - 0) 0 _ (by omega) (Nat.zero_le _)
          ⟨⟨_, Heap.get?_push_size _ rfl, rfl, rfl⟩, (hl1.push _)⟩ ?hS0 ?hR
        case hB => simp [hh]
        case hU =>
          show A.units + 1 + 1 + 1 ≤ A.units + 10
          omega
        case hS0 => exact z0 _ (fun b o e => Heap.get?_push_of_some _ (Heap.get?_push_of_some _ e)) (Heap.get?_push_of_some _ hS)
        case hR =>
          intro s' hm hZ'
          obtain ⟨h', g', d', tk', os'⟩ := s'
          have eg : g' = s.gens := hm.gens
          have ed : d' = s.drawn := hm.drawn
          have eo : os' = s.os := hm.os
          subst eg; subst ed; subst eo
          show wpAny _ _ _ _ _ _
          refine wpAny_pure ?_
          show wpAny _ _ (ret Value.none) _ _ _
          refine wpAny_pure ⟨rfl, h', tk', rfl, hZ', fun b o hb e => ?_⟩
          have hb1 : b ≠ s.heap.objs.size := Nat.ne_of_lt hb
          have hb2 : b ≠ (s.heap.push { cls := .type "set", dict := none, data := .set #[] 0 (.fresh 0 0 (!w.params.followText "set-order")) }).objs.size := by
            rw [sz1]; exact Nat.ne_of_lt (Nat.lt_succ_of_lt hb)
          exact hm.heap b o (by simp only [List.mem_cons, List.mem_singleton, List.not_mem_nil, or_false, not_or]; exact ⟨hb1, hb2⟩) (Heap.get?_push_of_some _ (Heap.get?_push_of_some _ e))
      · cases r₂ with
        | error e => exact hr₂
        | ok fl₂ =>
          cases fl₂ with
          | ret r =>
            obtain ⟨rfl, h', tk, rfl, hZ', hk'⟩ := hr₂
            repeat (any_goals (first | assumption | wp_step))
            exact h _ _ hZ' hk'
          | _ => exact hr₂.elim
    | _ => exact hr.elim
end
section
variable {prog : Program} {w : World} {A : Around} {E : Value → Shared → Prop} {s : Shared}
/-- set(t) -/
theorem call_setT {l : Addr} {items : Array Value} {Q : Value → Shared → Prop} (Z : Nat → Heap → Prop) (hh : A.handled = none) (hl : s.heap.IsTuple l items)
    (z0 : ∀ h, (∀ b o, s.heap.get? b = some o → h.get? b = some o) → h.get? s.heap.objs.size = some { cls := .type "set", dict := none, data := .set #[] 0 (.fresh 0 0 (!w.params.followText "set-order")) } → Z 0 h)
    (zk : ∀ i h h', Z i h → (∀ b o, b ≠ s.heap.objs.size + 1 → h.get? b = some o → h'.get? b = some o) → Z i h') (zs : ∀ B : Around, B.handled = none → B.units ≤ A.units + 10 → Adds prog w B s.heap.objs.size (fun i v => items[i]? = some v) Z)
    (h : ∀ (h' : Heap) (tk : Nat), Z items.size h' → (∀ b o, b < s.heap.objs.size → s.heap.get? b = some o → h'.get? b = some o) → Q (.ref s.heap.objs.size) { s with heap := h', toks := tk }) :
    wpAny (model prog w) A (call (.type "set") [.ref l]) Q E s := by
  obtain ⟨c, tl, hmro⟩ := PySem.F.called_set.mro
  have hmade := PySem.F.called_set.made
  have hsub := PySem.F.called_set.sub
  refine wpAny_call (codeAny_of_tree ?_)
  show wpAny _ _ (callAny (.type "set") _) _ _ _
  refine wpAny_pure ⟨Code.quiet_builtin _ (by decide +kernel), codeAny_builtin PySem.F.entry_type_call ?_⟩
  rw [Around.under_plain (weight_type_call_type "set" [.ref l] []) rfl]
  have h1 := PySem.F.called_set.notType
  have h2 := PySem.F.called_set.canCreate
  have hct := PySem.F.typeCall_set_1 (.ref l)
  repeat (any_goals (first | assumption | wp_step))

  refine codeAny_mono (code_set_led1 (.ref l) (E := E) (Q₁ := fun obj s₁ => obj = .ref s.heap.objs.size ∧ s₁ = { s with heap := s.heap.push { cls := .type "set", dict := none, data := .set #[] 0 (.fresh 0 0 (!w.params.followText "set-order")) } }) ⟨rfl, rfl⟩) fun r s₁ hr => ?_
  cases r with
  | error e => exact hr
  | ok fl =>
    cases fl with
    | ret obj =>
      obtain ⟨rfl, rfl⟩ := hr
      have hS : (s.heap.push { cls := .type "set", dict := none, data := .set #[] 0 (.fresh 0 0 (!w.params.followText "set-order")) }).get? s.heap.objs.size = some { cls := .type "set", dict := none, data := .set #[] 0 (.fresh 0 0 (!w.params.followText "set-order")) } := Heap.get?_push_size _ rfl
      have hT : Shared.TypeIs { s with heap := s.heap.push { cls := .type "set", dict := none, data := .set #[] 0 (.fresh 0 0 (!w.params.followText "set-order")) } } (.ref s.heap.objs.size) "set" := ⟨_, hS, rfl⟩
      have hli := PySem.F.called_set.init.lookup
      have hbi := PySem.F.called_set.init.bind (.ref s.heap.objs.size)
      repeat (any_goals (first | assumption | wp_step))

      refine codeAny_mono (codeAny_call_builtin (R := wants (fun r s₂ => r = .none ∧ ∃ h' tk, s₂ = { s with heap := h', toks := tk } ∧ Z items.size h' ∧
          (∀ b o, b < s.heap.objs.size → s.heap.get? b = some o → h'.get? b = some o)) E) PySem.F.called_set.init.plain PySem.F.entry_set_init (check_set_init_1 hT ?_)) fun r₂ s₂ hr₂ => ?_
      · obtain ⟨ol, hol, hcl, nl, hdl⟩ := hl
        obtain ⟨ocls, odict, odata, oslots⟩ := ol
        simp only at hcl hdl
        subst hcl; subst hdl
        have hol' : (s.heap.push { cls := .type "set", dict := none, data := .set #[] 0 (.fresh 0 0 (!w.params.followText "set-order")) }).get? l = some { cls := .type "tuple", dict := odict, data := .seq items nl, slots := oslots } := Heap.get?_push_of_some _ hol
        have hsls := PySem.F.sub_tuple_set
        have hslf := PySem.F.sub_tuple_frozenset
        have hne : (Value.type "tuple" == Value.type "dict") = false := by decide
        have hl1 : (s.heap.push { cls := .type "set", dict := none, data := .set #[] 0 (.fresh 0 0 (!w.params.followText "set-order")) }).IsTuple l items := ⟨_, hol', rfl, nl, rfl⟩
        unfold Builtin.«set.__init__» noKeywords Builtin.Frozenset.updateFrom
        generalize hPI : pyIter = PI
        wp_walk
        subst hPI
        refine wpAny_pyIter_tuple hl1 ?_
        refine wpAny_bind (wpAny_runValue ?_)
        have hlS : l < s.heap.objs.size := Heap.lt_size hol
        have hh3 : A.in1.in1.in1.handled = none := by simp [hh]
        have sz1 : (s.heap.push { cls := .type "set", dict := none, data := .set #[] 0 (.fresh 0 0 (!w.params.followText "set-order")) }).objs.size = s.heap.objs.size + 1 := Heap.size_push ..
        have hneI : l ≠ (s.heap.push { cls := .type "set", dict := none, data := .set #[] 0 (.fresh 0 0 (!w.params.followText "set-order")) }).objs.size := by
          rw [sz1]; exact Nat.ne_of_lt (Nat.lt_succ_of_lt hlS)
        have hSf : s.heap.objs.size ∉ [(s.heap.push { cls := .type "set", dict := none, data := .set #[] 0 (.fresh 0 0 (!w.params.followText "set-order")) }).objs.size, l] := by
          rw [sz1]; simp only [List.mem_cons, List.mem_singleton, List.not_mem_nil, or_false, not_or]
          exact ⟨Nat.ne_of_lt (Nat.lt_succ_self _), Nat.ne_of_gt hlS⟩
        refine set_loop ((Walks.tuple hh3 _ l hneI items).toS) s.heap.objs.size hSf Z (fun i g g' z k => zk i g g' z fun b o ne e => k b o (fun hm => ne (by rw [List.mem_singleton.mp hm, sz1])) e) (zs _ ?hB ?hU) (items.size - 0) 0 _ (by omega) (Nat.zero_le _)
          ⟨⟨_, Heap.get?_push_size _ rfl, rfl, rfl⟩, (hl1.push _)⟩ ?hS0 ?hR
        case hB => simp [hh]
        case hU =>
          show A.units + 1 + 1 + 1 ≤ A.units + 10
          omega
        case hS0 => exact z0 _ (fun b o e => Heap.get?_push_of_some _ (Heap.get?_push_of_some _ e)) (Heap.get?_push_of_some _ hS)
        case hR =>
          intro s' hm hZ'
          obtain ⟨h', g', d', tk', os'⟩ := s'
          have eg : g' = s.gens := hm.gens
          have ed : d' = s.drawn := hm.drawn
          have eo : os' = s.os := hm.os
          subst eg; subst ed; subst eo
          show wpAny _ _ _ _ _ _
          refine wpAny_pure ?_
          show wpAny _ _ (ret Value.none) _ _ _
          refine wpAny_pure ⟨rfl, h', tk', rfl, hZ', fun b o hb e => ?_⟩
          have hb1 : b ≠ s.heap.objs.size := Nat.ne_of_lt hb
          have hb2 : b ≠ (s.heap.push { cls := .type "set", dict := none, data := .set #[] 0 (.fresh 0 0 (!w.params.followText "set-order")) }).objs.size := by
            rw [sz1]; exact Nat.ne_of_lt (Nat.lt_succ_of_lt hb)
          exact hm.heap b o (by simp only [List.mem_cons, List.mem_singleton, List.not_mem_nil, or_false, not_or]; exact ⟨hb1, hb2⟩) (Heap.get?_push_of_some _ (Heap.get?_push_of_some _ e))
      · cases r₂ with
        | error e => exact hr₂
        | ok fl₂ =>
          cases fl₂ with
          | ret r =>
            obtain ⟨rfl, h', tk, rfl, hZ', hk'⟩ := hr₂
            repeat (any_goals (first | assumption | wp_step))
            exact h _ _ hZ' hk'
          | _ => exact hr₂.elim
    | _ => exact hr.elim
end
end Lf
set_option maxHeartbeats 4000000
/-! sorted(x), x a list of data that are alike -/
namespace Lf
open PySem PySem.Spec PyProof.Rows L2 Evl
def sortD (ds : List PyData) : List PyData := ds.mergeSort (PySem.W.dataLe false id)
def SortOk (ds : List PyData) : Prop := flatDs ds = true ∧ PySem.W.AllAlike ds ∧ PySem.W.Sortable ds ∧ ∀ d ∈ ds, d.depth ≤ 32
def rSortedD (K : PySem.W.Frag) : List V → Hp → VK → Prop := fun vs H Q => ∃ (G : Hp) (a : Addr) (xs : List V) (ds : List PyData), vs = [V.ref a] ∧ H a = some (.lst xs) ∧ Ex G H ∧ DaAll G xs ds ∧ SortOk ds ∧ ds.length ≤ 100000 ∧
  ∀ p ys, H p = none → DaAll G ys (sortD ds) → Q (.ref p) (upd H p (.lst ys))
theorem each_da {H : Hp} {us : List Value} {xs : List V} {ds : List PyData} (r : Vals xs us) (h : DaAll H xs ds) : PySem.W.EachIs (fun u d => ∃ v, RelV v u ∧ Da H v d) us ds := by
  induction r generalizing ds with
  | nil => cases h; exact .nil
  | cons a _ ih => cases h with | cons h t => exact .cons ⟨_, a, h⟩ (ih t)
theorem da_each {H : Hp} {us : List Value} {ds : List PyData} (h : PySem.W.EachIs (fun u d => ∃ v, RelV v u ∧ Da H v d) us ds) : ∃ xs, Vals xs us ∧ DaAll H xs ds := by
  induction h with
  | nil => exact ⟨[], .nil, .nil⟩
  | cons a _ ih =>
    obtain ⟨v, r, d⟩ := a
    obtain ⟨xs, r2, d2⟩ := ih
    exact ⟨v :: xs, .cons r r2, .cons d d2⟩
theorem sortD_perm (ds : List PyData) : (sortD ds).Perm ds := List.mergeSort_perm _ _
theorem sortOk_strs (l : List Str) : SortOk (l.map PyData.str) := by
  refine ⟨?_, fun d hd d' hd' => ?_, .inr fun d hd => ?_, fun d hd => ?_⟩
  · induction l with
    | nil => rfl
    | cons a l ih => rw [List.map_cons, flatDs, ih]; rfl
  · obtain ⟨a, _, rfl⟩ := List.mem_map.mp hd
    obtain ⟨b, _, rfl⟩ := List.mem_map.mp hd'
    rfl
  · obtain ⟨a, _, rfl⟩ := List.mem_map.mp hd
    exact ⟨(fun z => by cases z), (fun xs z => by cases z)⟩
  · obtain ⟨a, _, rfl⟩ := List.mem_map.mp hd
    unfold PyData.depth
    exact Nat.zero_le _
theorem flat_mem {ds : List PyData} (h : flatDs ds = true) {d : PyData} (hd : d ∈ ds) : flatD d = true := by
  induction ds with
  | nil => cases hd
  | cons e ds ih =>
    rw [flatDs, Bool.and_eq_true] at h
    rcases List.mem_cons.mp hd with rfl | hd
    · exact h.1
    · exact ih h.2 hd
section
variable {X : Cx} {n : Nat}
theorem cr_sortedD (hr : Room n X.A) : CallR X (.builtin "sorted") (rSortedD X.K) := by
  intro pins s σ H vs us Q I r h
  obtain ⟨G, a, xs, ds, rfl, hs, sg, hd, ⟨hf, ha, hk, hdep⟩, hlen, q⟩ := h
  obtain ⟨its, rv, hl, hz⟩ := I.list (SqL.of hs)
  obtain ⟨u, rfl, ru⟩ := vals1 r
  obtain rfl : u = Value.ref a := ru
  have e := each_da rv hd
  have hu := hr.units
  have el := e.length
  refine PySem.W.sorted_data (enc := id) (bs := ds) hl.isList e ?_ (by rw [List.map_id]; exact ha) (by rw [List.map_id]; exact hk) (Nat.le_trans hlen (by decide)) (fun b hb => ?_) fun out ho hout => ?_
  · refine (PySem.W.each_mem e).mono fun u d ⟨⟨v, r1, r2⟩, hm⟩ => ?_
    exact Dp.reads I _ _ _ (Da.dp d v (r2.up sg) (flat_mem hf hm)) r1
  · have := hdep b hb
    show X.A.units + 2 + b.depth < cLine
    omega
  · obtain ⟨ys, ry, dy⟩ := da_each hout
    have hn := I.hok.fresh (a := s.heap.objs.size + 1) (Nat.le_succ _)
    refine ⟨.ref (s.heap.objs.size + 1), upd H (s.heap.objs.size + 1) (.lst ys), I.laid (t' := s.toks) (fun b o e => sortedAll_old e) (Nat.le_succ _) ⟨?_, out, ?_, ry, ?_⟩, rfl, q _ ys hn dy⟩
    · rw [ry.length, ho]
      exact Nat.le_trans hlen (by decide)
    · exact (sortedAll_at s.heap its out.toArray).choose
    · exact (sortedAll_at s.heap its out.toArray).choose_spec
end
end Lf
set_option maxHeartbeats 4000000
/-! Sets of tuples of ints and texts: set(..) of a list or a tuple of them, sorted of such a set -/
namespace Lf
open PySem PySem.Spec PyProof.Rows L2 Evl PpSet LfK
abbrev kH (P : Program) (w : World) (k : List Key) : Int := tupleKeyHash (mixKind P w) k
abbrev IsK (P : Program) (w : World) (h : Heap) (k : List Key) (a : Addr) : Prop := IsTupleKey (mixKind P w) h k a
def tupK (k : List Key) : PyData := .tuple (k.map keyD)
def rowsK (P : Program) (w : World) (L : List (Addr × List Key)) : List (Int × Addr) := L.map fun p => (kH P w p.2, p.1)
theorem perm_lift {α β : Type} {f : α → β} {r m : List β} (h : r.Perm m) : ∀ l : List α, l.map f = m → ∃ l' : List α, l'.Perm l ∧ l'.map f = r := by
  induction h with
  | nil => intro l e; exact ⟨l, .refl _, e⟩
  | @cons x r m _ ih =>
    intro l e
    cases l with
    | nil => cases e
    | cons a l =>
      obtain ⟨e1, e2⟩ := List.cons.inj e
      obtain ⟨l', p, e3⟩ := ih l e2
      exact ⟨a :: l', p.cons a, by rw [List.map_cons, e1, e3]⟩
  | swap x y m =>
    intro l e
    cases l with
    | nil => cases e
    | cons a l =>
      obtain ⟨e1, e2⟩ := List.cons.inj e
      cases l with
      | nil => cases e2
      | cons b l =>
        obtain ⟨e3, e4⟩ := List.cons.inj e2
        exact ⟨b :: a :: l, .swap _ _ _, by rw [List.map_cons, List.map_cons, e1, e3, e4]⟩
  | trans _ _ ih1 ih2 =>
    intro l e
    obtain ⟨l1, p1, e1⟩ := ih2 l e
    obtain ⟨l2, p2, e2⟩ := ih1 l1 e1
    exact ⟨l2, p2.trans p1, e2⟩
section
variable {P : Program} {w : World} {A : Around} {E : Value → Shared → Prop} {s : Shared}
def Flat (v : Value) : Prop := (∃ i t, v = Value.int i t) ∨ ∃ x t, v = Value.str x t
theorem key_vals {k : List Key} {vs : List Value} (h : ItemsAre (mixKind P w) k vs) : ∀ v ∈ vs, Flat v := by
  induction h with
  | nil => intro v hv; cases hv
  | cons h1 _ ih =>
    intro v hv
    rcases List.mem_cons.mp hv with e | hv
    · rcases keyIs_shape h1 with ⟨i, t, _, e2⟩ | ⟨x, t, _, e2⟩
      · exact .inl ⟨i, t, e.trans e2⟩
      · exact .inr ⟨x, t, e.trans e2⟩
    · exact ih v hv
theorem Flat.noStm {v : Value} (h : Flat v) (n : Nat) : ofAClassStatement n v = pure false := by
  rcases h with ⟨i, t, rfl⟩ | ⟨x, t, rfl⟩ <;> cases n <;> rfl
theorem Flat.byV {v : Value} (h : Flat v) (n : Nat) : ∃ b, hashByValue n v = pure b := by
  rcases h with ⟨i, t, rfl⟩ | ⟨x, t, rfl⟩
  · exact ⟨true, by cases n <;> rfl⟩
  · exact ⟨false, by cases n <;> rfl⟩
/-- a loop over flat values that changes nothing -/
theorem flat_walk {β : Type} {items : Array Value} (hv : ∀ v ∈ items.toList, Flat v) (J : Option β → Prop) {f : Value → Option β × Unit → Sem (ForInStep (Option β × Unit))} {Q : Option β × Unit → Shared → Prop} (j0 : J none)
    (step : ∀ v, Flat v → ∀ r : Option β × Unit, J r.1 → ∀ Q' : ForInStep (Option β × Unit) → Shared → Prop, (∀ r' : Option β × Unit, J r'.1 → Q' (.yield r') s) → (∀ r' : Option β × Unit, J r'.1 → Q' (.done r') s) → wpAny (model P w) A (f v r) Q' E s)
    (h : ∀ r : Option β × Unit, J r.1 → Q r s) : wpAny (model P w) A (forIn items.toList ((none, ()) : Option β × Unit) f) Q E s := by
  refine wpAny_forIn_list _ (fun rest r s' => J r.1 ∧ s' = s ∧ ∀ v ∈ rest, Flat v) _ ?_ ?_ _ _ ⟨j0, rfl, hv⟩
  · rintro v rest r s' ⟨hr, rfl, hall⟩
    exact step v (hall v List.mem_cons_self) r hr _ (fun r' hr' => ⟨hr', rfl, fun u hu => hall u (List.mem_cons_of_mem _ hu)⟩) fun r' hr' => h r' hr'
  · rintro r s' ⟨hr, rfl, _⟩
    exact h r hr
theorem noStmT {k : List Key} {b : Addr} {Q : Bool → Shared → Prop} (hk : IsK P w s.heap k b) (h : Q false s) : wpAny (model P w) A (ofAClassStatement 8 (.ref b)) Q E s := by
  have hT := hk.typeIs
  obtain ⟨o, items, n, ho, _, hd, hi⟩ := hk
  unfold ofAClassStatement
  refine wpAny_bind (wpAny_typeOf hT ?_)
  dsimp only
  have e : (("tuple" : String) == "tuple") = true := by decide
  simp only [e, if_true, Bool.not_true, Bool.false_eq_true, if_false]
  try refine wpAny_bind (wpAny_pure ?_)
  try simp only [Bool.not_true, Bool.false_eq_true, if_false]
  show wpAny _ _ (seqItems? (.ref b) >>= _) _ _ s
  refine wpAny_bind (wpAny_seqItems ho hd ?_)
  dsimp only
  refine wpAny_bind ?_
  show wpAny _ _ (forIn items _ _) _ _ s
  rw [← Array.forIn_toList]
  refine flat_walk (key_vals hi) (fun o => o = none) rfl (fun v hv r hr Q' k _ => ?_) fun r hr => ?_
  · rw [hv.noStm]
    refine wpAny_bind (wpAny_pure ?_)
    simp only [Bool.false_eq_true, if_false]
    exact wpAny_pure (k _ rfl)
  · obtain ⟨r1, r2⟩ := r
    simp only at hr
    subst hr
    exact wpAny_pure h
theorem byVT {k : List Key} {b : Addr} {Q : Bool → Shared → Prop} (hk : IsK P w s.heap k b) (h : ∀ b, Q b s) : wpAny (model P w) A (hashByValue 8 (.ref b)) Q E s := by
  have hT := hk.typeIs
  obtain ⟨o, items, n, ho, _, hd, hi⟩ := hk
  unfold hashByValue
  refine wpAny_bind (wpAny_specialOf hT F.slot_tuple_hash.lookup ?_)
  show wpAny _ _ (seqItems? (.ref b) >>= _) _ _ s
  refine wpAny_bind (wpAny_seqItems ho hd ?_)
  refine wpAny_bind ?_
  show wpAny _ _ (forIn items _ _) _ _ s
  rw [← Array.forIn_toList]
  refine flat_walk (key_vals hi) (fun _ => True) trivial (fun v hv r hr Q' k k2 => ?_) fun r hr => ?_
  · obtain ⟨b, e⟩ := hv.byV 7
    rw [e]
    refine wpAny_bind (wpAny_pure ?_)
    cases b with
    | true =>
      simp only [Bool.not_true, Bool.false_eq_true, if_false]
      exact wpAny_pure (k _ trivial)
    | false =>
      simp only [Bool.not_false, if_true]
      exact wpAny_pure (k2 _ trivial)
  · obtain ⟨r1, r2⟩ := r
    cases r1 with
    | none => exact wpAny_pure (h _)
    | some b => exact wpAny_pure (h _)
theorem seenK {k : List Key} {b : Addr} {Q : Bool → Shared → Prop} (hk : IsK P w s.heap k b) {ys : List Value} (hy : ∀ y ∈ ys, ∃ k' c, y = Value.ref c ∧ IsK P w s.heap k' c) (h : Q false s) :
    wpAny (model P w) A (searchCouldBeSeen (.ref b) ys) Q E s := by
  unfold searchCouldBeSeen
  refine wpAny_bind ?_
  refine wpAny_forIn_list _ (fun rest r s' => r.1 = none ∧ s' = s ∧ ∀ y ∈ rest, ∃ k' c, y = Value.ref c ∧ IsK P w s.heap k' c) _ ?_ ?_ _ _ ⟨rfl, rfl, hy⟩
  · rintro v rest r s' ⟨hr, rfl, hall⟩
    obtain ⟨k', c, rfl, hc⟩ := hall v List.mem_cons_self
    have next : ∀ y ∈ rest, ∃ k' c, y = Value.ref c ∧ IsK P w s'.heap k' c := fun u hu => hall u (List.mem_cons_of_mem _ hu)
    dsimp only
    by_cases hv : (b == c || (carriedByValue (.ref b) && carriedByValue (.ref c))) = true
    · refine wp_if_pos hv ?_
      exact wpAny_pure ⟨rfl, rfl, next⟩
    · refine wp_if_neg hv ?_
      refine wpAny_bind (wpAny_eqIsQuiet_tuple hk ?_)
      simp only [Bool.not_true, Bool.false_eq_true, if_false]
      refine wpAny_bind (wpAny_eqIsQuiet_tuple hc ?_)
      simp only [Bool.not_true, Bool.false_eq_true, if_false]
      refine wpAny_bind (noStmT hk ?_)
      simp only [Bool.false_eq_true, if_false]
      refine wpAny_bind (noStmT hc ?_)
      simp only [Bool.false_eq_true, if_false]
      exact wpAny_pure ⟨rfl, rfl, next⟩
  · rintro ⟨r1, r2⟩ s' ⟨hr, rfl, _⟩
    simp only at hr
    subst hr
    exact wpAny_pure h
theorem isK_mono {h h' : Heap} {k : List Key} {b : Addr} (x : IsK P w h k b) (e : ∀ o, h.get? b = some o → h'.get? b = some o) : IsK P w h' k b := by
  obtain ⟨o, items, n, ho, r⟩ := x
  exact ⟨o, items, n, e o ho, r⟩
theorem isK_same {h h' : Heap} {k : List Key} {a b : Addr} {rs : List (Int × Addr)} {es : Array (Int × Value)} {ep : Nat} {t : SetTable} (x : IsK P w h k b) (R : Rw w h a rs es ep t) (sb : Heap.SameBut a h h') : IsK P w h' k b := by
  obtain ⟨o, items, n, ho, hc, hd, hi⟩ := x
  obtain ⟨o', ho', _, hd'⟩ := R.ob
  have ne : b ≠ a := by
    rintro rfl
    obtain rfl : o = o' := Option.some.inj (ho.symm.trans ho')
    rw [hd] at hd'
    cases hd'
  exact ⟨o, items, n, (sb.2 b ne).trans ho, hc, hd, hi⟩
/-- adding a tuple -/
theorem addK {a x : Addr} {L : List (Addr × List Key)} {es : Array (Int × Value)} {ep : Nat} {t : SetTable} {k : List Key} (R : Rw w s.heap a (rowsK P w L) es ep t) (tup : ∀ p ∈ L, IsK P w s.heap p.2 p.1) (hx : IsK P w s.heap k x) (hu : A.units < cLine) (few : L.length + 1 < 64)
    {Q : Bool → Shared → Prop} (hQ : ∀ b h' L' es' ep' t', Heap.SameBut a s.heap h' → Rw w h' a (rowsK P w L') es' ep' t' → (k ∈ L.map (·.2) → L' = L) → (k ∉ L.map (·.2) → L'.Perm ((x, k) :: L)) → Q b { s with heap := h' }) :
    wpAny (model P w) A (setAddHashed a (.ref x) (kH P w k)) Q E s := by
  have one : ∀ p ∈ L, (L.any fun q => decide (q.1 = p.1) && decide (q.2 = k)) = decide (p.2 = k) := fun p hp => by
    rw [Bool.eq_iff_iff, List.any_eq_true, decide_eq_true_iff]
    constructor
    · rintro ⟨q, hq, e⟩
      rw [Bool.and_eq_true, decide_eq_true_iff, decide_eq_true_iff] at e
      have a1 := tup q hq
      rw [e.1] at a1
      rw [← e.2]
      exact (tup p hp).inj a1
    · exact fun e => ⟨p, hp, by rw [Bool.and_eq_true, decide_eq_true_iff, decide_eq_true_iff]; exact ⟨rfl, e⟩⟩
  refine add R (eq := fun r => L.any fun q => decide (q.1 = r.2) && decide (q.2 = k)) (fun r hr _ Q' q' => ?_) (fun ys hy Q' q' => seenK hx (fun y my => ?_) q') (fun Q' q' => byVT hx q') (by unfold rowsK; rw [List.length_map]; exact few) fun b h' r2 es2 ep2 t2 sb R2 c1 c2 => ?_
  · obtain ⟨p, hp, rfl⟩ := List.mem_map.mp hr
    refine wpAny_eqBool_tuple hu (tup p hp) hx ?_
    rw [← one p hp]
    exact q'
  · obtain ⟨r, hr, rfl⟩ := hy y my
    obtain ⟨p, hp, rfl⟩ := List.mem_map.mp hr
    exact ⟨p.2, p.1, rfl, tup p hp⟩
  · by_cases hm : k ∈ L.map (·.2)
    · obtain ⟨p, hp, e⟩ := List.mem_map.mp hm
      have z := c1 ⟨_, List.mem_map.mpr ⟨p, hp, rfl⟩, by show kH P w p.2 = _; rw [e], by dsimp only; rw [one p hp]; exact decide_eq_true e⟩
      rw [z] at R2
      exact hQ b h' L es2 ep2 t2 sb R2 (fun _ => rfl) fun y => absurd hm y
    · have z := c2 fun r hr _ => by
        obtain ⟨p, hp, rfl⟩ := List.mem_map.mp hr
        dsimp only
        rw [one p hp]
        exact decide_eq_false fun e => hm (List.mem_map.mpr ⟨p, hp, e⟩)
      obtain ⟨L', p1, e1⟩ := perm_lift (f := fun p : Addr × List Key => (kH P w p.2, p.1)) z ((x, k) :: L) rfl
      rw [← e1] at R2
      exact hQ b h' L' es2 ep2 t2 sb R2 (fun y => absurd y hm) fun _ => p1
/-- what the set holds of the first i items -/
structure GotK (ks : List (Addr × List Key)) (i : Nat) (L : List (Addr × List Key)) : Prop where
  sub : ∀ p ∈ L, p ∈ ks.take i
  all : ∀ p ∈ ks.take i, p.2 ∈ L.map (·.2)
  len : L.length ≤ i
  nd : (L.map (·.2)).Nodup
theorem GotK.zero (ks : List (Addr × List Key)) : GotK ks 0 [] := ⟨fun p h => (by cases h), fun p h => (by simp at h), Nat.le_refl _, List.nodup_nil⟩
theorem GotK.same {ks L : List (Addr × List Key)} {i : Nat} {x : Addr × List Key} (g : GotK ks i L) (h : ks[i]? = some x) (hm : x.2 ∈ L.map (·.2)) : GotK ks (i + 1) L := by
  have e : ks.take (i + 1) = ks.take i ++ [x] := by rw [List.take_succ, h]; rfl
  refine ⟨fun p hp => ?_, fun p hp => ?_, Nat.le_succ_of_le g.len, g.nd⟩
  · rw [e]
    exact List.mem_append_left _ (g.sub p hp)
  · rw [e] at hp
    rcases List.mem_append.mp hp with hp | hp
    · exact g.all p hp
    · rw [List.mem_singleton.mp hp]
      exact hm
theorem GotK.more {ks L L' : List (Addr × List Key)} {i : Nat} {x : Addr × List Key} (g : GotK ks i L) (h : ks[i]? = some x) (hm : x.2 ∉ L.map (·.2)) (pm : L'.Perm (x :: L)) : GotK ks (i + 1) L' := by
  have e : ks.take (i + 1) = ks.take i ++ [x] := by rw [List.take_succ, h]; rfl
  refine ⟨fun p hp => ?_, fun p hp => ?_, ?_, ?_⟩
  · rw [e]
    rcases List.mem_cons.mp (pm.mem_iff.mp hp) with rfl | hp
    · exact List.mem_append_right _ List.mem_cons_self
    · exact List.mem_append_left _ (g.sub p hp)
  · rw [e] at hp
    refine (pm.map (·.2)).mem_iff.mpr ?_
    rw [List.map_cons]
    rcases List.mem_append.mp hp with hp | hp
    · exact List.mem_cons_of_mem _ (g.all p hp)
    · rw [List.mem_singleton.mp hp]
      exact List.mem_cons_self
  · rw [pm.length_eq, List.length_cons]
    exact Nat.succ_le_succ g.len
  · refine (pm.map (·.2)).nodup_iff.mpr ?_
    rw [List.map_cons]
    exact List.nodup_cons.mpr ⟨hm, g.nd⟩
/-- the set at a behind i items of ks -/
def ZK (P : Program) (w : World) (n a : Addr) (ks : List (Addr × List Key)) (i : Nat) (h : Heap) : Prop := (∃ L es ep t, Rw w h a (rowsK P w L) es ep t ∧ GotK ks i L) ∧ ∀ p ∈ ks, IsK P w h p.2 p.1 ∧ p.1 < n
theorem zk_adds {B : Around} {n a : Addr} {ks : List (Addr × List Key)} {items : Array Value} (hit : items.toList = ks.map fun p => Value.ref p.1) (few : ks.length < 64) (hu : B.units < cLine) : Adds P w B a (fun i v => items[i]? = some v) (ZK P w n a ks) := by
  intro i v s2 Q2 E2 hv ⟨⟨L, es, ep, t, R, g⟩, tup⟩ k
  have hv' : items.toList[i]? = some v := by rw [← hv]; simp
  rw [hit, List.getElem?_map] at hv'
  obtain ⟨p, hp, rfl⟩ := Option.map_eq_some_iff.mp hv'
  have sub : ∀ q ∈ L, q ∈ ks := fun q hq => List.mem_of_mem_take (g.sub q hq)
  have hx := (tup p (List.mem_of_getElem? hp)).1
  have il := (List.getElem?_eq_some_iff.mp hp).1
  unfold setAdd
  refine wpAny_holding ?_
  refine wpAny_bind (wpAny_pyHash_tuple hu hx ?_)
  refine addK (s := { s2 with toks := s2.toks + (p.2.length + 1) }) R (fun q hq => (tup q (sub q hq)).1) hx hu (by have := g.len; omega) fun b h' L' es' ep' t' sb R' c1 c2 => ?_
  refine k _ _ _ (Nat.le_add_right _ _) sb ⟨⟨L', es', ep', t', R', ?_⟩, fun q hq => ⟨isK_same (tup q hq).1 R sb, (tup q hq).2⟩⟩
  by_cases c : p.2 ∈ L.map (·.2)
  · rw [c1 c]
    exact g.same hp c
  · exact g.more hp c (c2 c)
theorem zk_keep {n a : Addr} {ks : List (Addr × List Key)} (ha : a ≤ n) (i : Nat) (h h' : Heap) (z : ZK P w n a ks i h) (k : ∀ b o, b ≠ n + 1 → h.get? b = some o → h'.get? b = some o) : ZK P w n a ks i h' := by
  obtain ⟨⟨L, es, ep, t, R, g⟩, tup⟩ := z
  refine ⟨⟨L, es, ep, t, R.keep fun o e => k _ _ (by intro z; rw [z] at ha; exact absurd ha (Nat.not_succ_le_self n)) e, g⟩, fun q hq => ⟨isK_mono (tup q hq).1 fun o e => k _ _ (fun z => absurd (show n + 1 < n by rw [← z]; exact (tup q hq).2) (Nat.not_lt.mpr (Nat.le_succ n))) e, (tup q hq).2⟩⟩
/-- set(l) and set(t), the items tuples of ints and texts -/
theorem call_setK {l : Addr} {items : Array Value} {ks : List (Addr × List Key)} {Q : Value → Shared → Prop} (hh : A.handled = none) (hl : s.heap.IsList l items ∨ s.heap.IsTuple l items) (hit : items.toList = ks.map fun p => Value.ref p.1) (tup : ∀ p ∈ ks, IsK P w s.heap p.2 p.1) (few : ks.length < 64) (hu : A.units + 10 < cLine)
    (h : ∀ (h' : Heap) (tk : Nat) L es ep t, Rw w h' s.heap.objs.size (rowsK P w L) es ep t → GotK ks ks.length L → (∀ b o, b < s.heap.objs.size → s.heap.get? b = some o → h'.get? b = some o) → Q (.ref s.heap.objs.size) { s with heap := h', toks := tk }) :
    wpAny (model P w) A (call (.type "set") [.ref l]) Q E s := by
  have lt : ∀ p ∈ ks, p.1 < s.heap.objs.size := fun p hp => by
    obtain ⟨o, _, _, ho, _⟩ := tup p hp
    exact Heap.lt_size ho
  have sz : items.size = ks.length := by rw [← Array.length_toList, hit, List.length_map]
  have z0 : ∀ h, (∀ b o, s.heap.get? b = some o → h.get? b = some o) → h.get? s.heap.objs.size = some { cls := .type "set", dict := none, data := .set #[] 0 (.fresh 0 0 (!w.params.followText "set-order")) } → ZK P w s.heap.objs.size s.heap.objs.size ks 0 h := fun h' old hS =>
    ⟨⟨[], #[], 0, _, Rw.new hS, GotK.zero ks⟩, fun p hp => ⟨isK_mono (tup p hp) fun o e => old _ _ e, lt p hp⟩⟩
  have zs : ∀ B : Around, B.handled = none → B.units ≤ A.units + 10 → Adds P w B s.heap.objs.size (fun i v => items[i]? = some v) (ZK P w s.heap.objs.size s.heap.objs.size ks) := fun B _ hB => zk_adds hit few (by omega)
  have fin : ∀ (h' : Heap) (tk : Nat), ZK P w s.heap.objs.size s.heap.objs.size ks items.size h' → (∀ b o, b < s.heap.objs.size → s.heap.get? b = some o → h'.get? b = some o) → Q (.ref s.heap.objs.size) { s with heap := h', toks := tk } := fun h' tk ⟨⟨L, es, ep, t, R, g⟩, _⟩ k => h h' tk L es ep t R (by rw [← sz]; exact g) k
  rcases hl with hl | hl
  · exact call_setL _ hh hl z0 (zk_keep (Nat.le_refl _)) zs fin
  · exact call_setT _ hh hl z0 (zk_keep (Nat.le_refl _)) zs fin
/-! ### sorted -/
theorem reads_keys {h : Heap} {k : List Key} {vs : List Value} (x : ItemsAre (mixKind P w) k vs) : ReadsAll h vs (k.map keyD) [] := by
  induction x with
  | nil => exact .nil
  | cons h1 _ ih =>
    rcases keyIs_shape h1 with ⟨i, t, rfl, rfl⟩ | ⟨x, t, rfl, rfl⟩
    · exact .cons (.int i t) ih
    · exact .cons (.str x t) ih
theorem reads_tupK {h : Heap} {k : List Key} {b : Addr} (x : IsK P w h k b) : Reads h (.ref b) (tupK k) [] := by
  obtain ⟨o, items, n, ho, hc, hd, hi⟩ := x
  exact .tuple ho hc hd (reads_keys hi)
theorem each_of {h : Heap} (f : Addr × List Key → PyData) : ∀ L : List (Addr × List Key), (∀ p ∈ L, ∃ as, Reads h (.ref p.1) (f p) as ∧ 0 = 0) → PySem.W.EachIs (fun v (p : Addr × List Key) => v = Value.ref p.1 ∧ p ∈ L) (L.map fun p => Value.ref p.1) L := fun L _ => by
  have key : ∀ (M : List (Addr × List Key)), (∀ p ∈ M, p ∈ L) → PySem.W.EachIs (fun v (p : Addr × List Key) => v = Value.ref p.1 ∧ p ∈ L) (M.map fun p => Value.ref p.1) M := fun M => by
    induction M with
    | nil => intro _; exact .nil
    | cons p M ih => intro hM; exact .cons ⟨rfl, hM p List.mem_cons_self⟩ (ih fun q hq => hM q (List.mem_cons_of_mem _ hq))
  exact key L fun p hp => hp
theorem eachRef {R : Value → Addr × List Key → Prop} (hR : ∀ v p, R v p → v = Value.ref p.1) : ∀ {vs : List Value} {L : List (Addr × List Key)}, PySem.W.EachIs R vs L → vs = L.map fun p => Value.ref p.1
  | _, _, .nil => rfl
  | _, _, .cons h t => by rw [List.map_cons, ← eachRef hR t, hR _ _ h]
theorem sorted_setK {a : Addr} {L : List (Addr × List Key)} {es : Array (Int × Value)} {ep : Nat} {t : SetTable} {Q : Value → Shared → Prop} (R : Rw w s.heap a (rowsK P w L) es ep t) (hh : A.handled = none) (tup : ∀ p ∈ L, IsK P w s.heap p.2 p.1)
    (al : PySem.W.AllAlike (L.map fun p => tupK p.2)) (ne : ∀ p ∈ L, p.2 ≠ []) (hu : A.units + 6 < cLine)
    (hQ : ∀ s' p (out : Array Value) (c : Nat) (L' : List (Addr × List Key)), (∀ b o, s.heap.get? b = some o → s'.heap.get? b = some o) → s'.gens = s.gens → s'.os = s.os → s.heap.objs.size ≤ p →
      s'.heap.get? p = some (seqObj "list" out c) → out.toList = L'.map (fun q => Value.ref q.1) → L'.Perm L → L'.Pairwise (fun q r => PySem.W.dataLe false tupK q.2 r.2 = true) → Q (.ref p) s') :
    wpAny (model P w) A (call (.builtin "sorted") [.ref a]) Q E s := by
  obtain ⟨o, ho, hex, hd⟩ := R.ob
  have hsz := R.size
  have hfew := R.few
  refine Calls.call_function_entry kind_sorted plain_sorted entry_sorted (args_sorted1 _) ?_
  unfold Builtin.«sorted»
  refine wpAny_bind (m := checkCount "sorted" 1 1 _) (wpAny_pure ?_)
  refine wpAny_bind (collect_set (A := A.in1) hh ⟨o, ho, hex.1, hd⟩ R.fits (by unfold scanBound; omega) R.tab.ris R.led fun s1 vs k1 hz g1 o1 pm => ?_)
  have hes : es.toList.map (·.2) = L.map fun q => Value.ref q.1 := by
    rw [R.rows]
    unfold rowV rowsK
    rw [List.map_map, List.map_map]
    rfl
  rw [hes] at pm
  obtain ⟨L1, p1, rfl⟩ := perm_lift (f := fun q : Addr × List Key => Value.ref q.1) pm L rfl
  have len1 : (L1.map fun q => Value.ref q.1).length < 64 := by
    rw [List.length_map, p1.length_eq]
    unfold rowsK at hfew
    rw [List.length_map] at hfew
    exact hfew
  refine wpAny_bind (wpAny_newList ?_ (by rw [sizeLine_eq]; omega))
  have hoL : (s1.heap.push (seqObj "list" (L1.map fun q => Value.ref q.1).toArray 0)).get? s1.heap.objs.size = some (seqObj "list" (L1.map fun q => Value.ref q.1).toArray 0) := Heap.get?_push_size _ rfl
  have tk : ∀ q ∈ L1, IsK P w (s1.heap.push (seqObj "list" (L1.map fun q => Value.ref q.1).toArray 0)) q.2 q.1 := fun q hq => isK_mono (tup q (p1.mem_iff.mp hq)) fun o e => Heap.get?_push_of_some _ (k1 _ _ e)
  have ea := each_of (h := s.heap) (fun p => tupK p.2) L1 fun p hp => ⟨_, reads_tupK (tup p (p1.mem_iff.mp hp)), rfl⟩
  have al1 : PySem.W.AllAlike (L1.map fun p => tupK p.2) := fun d hd' d' hd2 => al d ((p1.map _).mem_iff.mp hd') d' ((p1.map _).mem_iff.mp hd2)
  have sr1 : PySem.W.Sortable (L1.map fun p => tupK p.2) := .inl fun d hd' => by
    obtain ⟨p, hp, rfl⟩ := List.mem_map.mp hd'
    have := ne p (p1.mem_iff.mp hp)
    cases e : p.2 with
    | nil => exact absurd e this
    | cons x r => exact ⟨keyD x, r.map keyD, by unfold tupK; rw [List.map_cons]⟩
  have dep : ∀ k : List Key, (tupK k).depth ≤ 1 := fun k => by
    have z : ∀ k : List Key, PyData.depthAll (k.map keyD) = 0 := fun k => by
      induction k with
      | nil => rfl
      | cons x r ih => rw [List.map_cons, PyData.depthAll, ih]; cases x <;> rfl
    unfold tupK
    rw [PyData.depth, z]
    exact Nat.le_refl _
  refine wpAny_bind (wpAny_holding (PySem.W.list_sort_data (enc := fun p : Addr × List Key => tupK p.2) (s := { s1 with heap := s1.heap.push (seqObj "list" (L1.map fun q => Value.ref q.1).toArray 0) }) hoL ea
    (ea.mono fun v p ⟨e, hp⟩ => ⟨[], by rw [e]; exact reads_tupK (tk p hp), by simp⟩) al1 sr1 (by rw [← List.length_map (f := fun q : Addr × List Key => Value.ref q.1), sizeLine_eq]; omega) (fun b hb => ?_) fun out ho2 hout => ?_))
  · have := dep b.2
    show A.in1.units + 1 + (tupK b.2).depth < cLine
    have e : A.in1.units ≤ A.units + 1 := by simp
    omega
  · obtain ⟨c, hc⟩ := sortedHeap_at (vs := L1.map fun q => Value.ref q.1) (out := out.toArray) hoL
    have eo := eachRef (fun v p h => h.1) hout
    refine wpAny_pure ⟨_, rfl, hQ _ s1.heap.objs.size out.toArray c _ (fun b u e => ?_) g1 o1 hz hc (by rw [← eo]) ((List.mergeSort_perm _ _).trans p1) ?_⟩
    · have q := k1 b u e
      have hlt := Heap.lt_size q
      show (sortedHeap (s1.heap.push (seqObj "list" (L1.map fun q => Value.ref q.1).toArray 0)) s1.heap.objs.size _ out.toArray).get? b = some u
      rw [sortedHeap_old (Nat.ne_of_lt hlt) (by rw [size_push']; exact Nat.lt_succ_of_lt hlt)]
      exact Heap.get?_push_of_some _ q
    · have T := PySem.W.sortLe_total (listOrd itemOrd) false fun p : Addr × List Key => PySem.W.keyToks (tupK p.2)
      exact List.pairwise_mergeSort (le := PySem.W.dataLe false fun p : Addr × List Key => tupK p.2) T.trans (fun a b => (Bool.or_eq_true _ _).mpr (T.total a b)) L1
end
end Lf
set_option maxHeartbeats 4000000
/-! sorted(set(t)), t data: tuples of ints and texts; what it gives is told as a list of data -/
namespace Lf
open PySem PySem.Spec PyProof.Rows L2 Evl PpSet LfK
def onceL {α : Type} [DecidableEq α] (l : List α) : List α := l.foldl (fun acc x => if x ∈ acc then acc else acc ++ [x]) []
theorem onceL_snoc {α : Type} [DecidableEq α] (l : List α) (x : α) : onceL (l ++ [x]) = if x ∈ onceL l then onceL l else onceL l ++ [x] := by
  unfold onceL
  rw [List.foldl_append]
  rfl
theorem mem_onceL {α : Type} [DecidableEq α] {l : List α} {x : α} : x ∈ onceL l ↔ x ∈ l := by
  refine snoc_ind (p := fun l => x ∈ onceL l ↔ x ∈ l) Iff.rfl (fun l y ih => ?_) l
  rw [onceL_snoc, List.mem_append, List.mem_singleton]
  by_cases c : y ∈ onceL l
  · rw [if_pos c]
    constructor
    · exact fun h => .inl (ih.mp h)
    · rintro (h | rfl)
      · exact ih.mpr h
      · exact c
  · rw [if_neg c, List.mem_append, List.mem_singleton, ih]
theorem onceL_nd {α : Type} [DecidableEq α] (l : List α) : (onceL l).Nodup := by
  refine snoc_ind (p := fun l => (onceL l).Nodup) List.nodup_nil (fun l y ih => ?_) l
  rw [onceL_snoc]
  by_cases c : y ∈ onceL l
  · rw [if_pos c]; exact ih
  · rw [if_neg c]
    refine List.nodup_append.mpr ⟨ih, by simp, fun a ha b hb => ?_⟩
    rw [List.mem_singleton.mp hb]
    rintro rfl
    exact c ha
theorem onceL_same {α : Type} [DecidableEq α] {l : List α} (h : l.Nodup) : onceL l = l := by
  revert h
  refine snoc_ind (p := fun l => l.Nodup → onceL l = l) (fun _ => rfl) (fun l y ih h => ?_) l
  obtain ⟨h1, _, h2⟩ := List.nodup_append.mp h
  rw [onceL_snoc, ih h1, if_neg fun c => h2 y c y (by simp) rfl]
/-! ### the order -/
theorem keyD_toks (x : Key) : ∃ z, PySem.W.keyToks (keyD x) = [z] := by
  cases x with
  | inl i => exact ⟨_, rfl⟩
  | inr x => exact ⟨_, rfl⟩
theorem keyD_tinj {x y : Key} (h : PySem.W.keyToks (keyD x) = PySem.W.keyToks (keyD y)) : x = y := by
  cases x with
  | inl i =>
    cases y with
    | inl j => cases h; rfl
    | inr y => cases h
  | inr x =>
    cases y with
    | inl j => cases h
    | inr y =>
      have e : [Sum.inr (α := Int) x.cps.toList] = [Sum.inr y.cps.toList] := h
      injection e with e _
      injection e with e
      rw [PySem.W.str_of_cps e]
theorem toks_inj : ∀ {k j : List Key}, PySem.W.keyToksAll (k.map keyD) = PySem.W.keyToksAll (j.map keyD) → k = j
  | [], [], _ => rfl
  | [], y :: j, h => by
    rw [List.map_cons, PySem.W.keyToksAll, List.map_nil, PySem.W.keyToksAll] at h
    injection h with h _
    injection h with h
    exact absurd h (by decide)
  | x :: k, [], h => by
    rw [List.map_cons, PySem.W.keyToksAll, List.map_nil, PySem.W.keyToksAll] at h
    injection h with h _
    injection h with h
    exact absurd h (by decide)
  | x :: k, y :: j, h => by
    rw [List.map_cons, List.map_cons, PySem.W.keyToksAll, PySem.W.keyToksAll] at h
    injection h with _ h
    obtain ⟨a, ea⟩ := keyD_toks x
    obtain ⟨b, eb⟩ := keyD_toks y
    rw [ea, eb] at h
    injection h with h1 h2
    rw [toks_inj h2, keyD_tinj (x := x) (y := y) (by rw [ea, eb, h1])]
theorem tupK_inj {k j : List Key} (h : PySem.W.keyToks (tupK k) = PySem.W.keyToks (tupK j)) : k = j := toks_inj h
abbrev leD (a b : PyData) : Bool := PySem.W.dataLe false id a b
theorem leD_anti {k j : List Key} (h1 : leD (tupK k) (tupK j) = true) (h2 : leD (tupK j) (tupK k) = true) : k = j := by
  have e1 : (!lexLt itemOrd (PySem.W.keyToks (tupK j)) (PySem.W.keyToks (tupK k))) = true := h1
  have e2 : (!lexLt itemOrd (PySem.W.keyToks (tupK k)) (PySem.W.keyToks (tupK j))) = true := h2
  rw [Bool.not_eq_true'] at e1 e2
  exact tupK_inj (lex_total (O := itemOrd) _ _ e2 e1)
theorem leD_trans (a b c : PyData) (h1 : leD a b = true) (h2 : leD b c = true) : leD a c = true := (PySem.W.sortLe_total (listOrd itemOrd) false PySem.W.keyToks).trans a b c h1 h2
theorem leD_total (a b : PyData) : (leD a b || leD b a) = true := (Bool.or_eq_true _ _).mpr ((PySem.W.sortLe_total (listOrd itemOrd) false PySem.W.keyToks).total a b)
/-- what is sorted, whatever the order in which it came -/
theorem sortK_uniq {ys ks : List (List Key)} (h : ys.Perm ks) (hs : ys.Pairwise fun a b => leD (tupK a) (tupK b) = true) : ys.map tupK = sortD (ks.map tupK) := by
  refine List.Perm.eq_of_pairwise (le := fun a b => leD a b = true) (fun a b ha hb h1 h2 => ?_) (List.pairwise_map.mpr hs) (List.pairwise_mergeSort (le := leD) leD_trans leD_total _) ((h.map tupK).trans (List.mergeSort_perm _ _).symm)
  obtain ⟨k, _, rfl⟩ := List.mem_map.mp ha
  have hb' : b ∈ ks.map tupK := (List.mergeSort_perm _ _).mem_iff.mp hb
  obtain ⟨j, _, rfl⟩ := List.mem_map.mp hb'
  rw [leD_anti h1 h2]
/-! ### what stands behind the data -/
theorem vals_refs : ∀ (ks : List (Addr × List Key)), Vals (ks.map fun p => V.ref p.1) (ks.map fun p => Value.ref p.1)
  | [] => .nil
  | p :: ks => .cons rfl (vals_refs ks)
theorem items_da {P : Program} {w : World} {G : Hp} : ∀ {k : List Key} {ys : List V} {us : List Value}, DaAll G ys (k.map keyD) → Vals ys us → ItemsAre (mixKind P w) k us
  | [], _, _, h, r => by cases h; cases r; exact .nil
  | .inl i :: k, _, _, h, r => by
    cases h with
    | cons h t =>
      cases r with
      | cons r r2 =>
        cases h
        obtain ⟨tk, rfl⟩ := r
        exact .cons (kV_is (k := Sum.inl i) ⟨tk, rfl⟩) (items_da t r2)
  | .inr x :: k, _, _, h, r => by
    cases h with
    | cons h t =>
      cases r with
      | cons r r2 =>
        cases h
        obtain ⟨tk, rfl⟩ := r
        exact .cons (kV_is (k := Sum.inr x) ⟨tk, rfl⟩) (items_da t r2)
theorem tups_da {G : Hp} : ∀ {ks : List (List Key)} {xs : List V}, DaAll G xs (ks.map tupK) → ∃ L : List (Addr × List Key), xs = L.map (fun p => V.ref p.1) ∧ L.map (·.2) = ks ∧ ∀ p ∈ L, ∃ ys, G p.1 = some (.tup ys) ∧ DaAll G ys (p.2.map keyD)
  | [], _, h => by cases h; exact ⟨[], rfl, rfl, fun p hp => by cases hp⟩
  | k :: ks, _, h => by
    cases h with
    | cons h t =>
      obtain ⟨L, rfl, rfl, hL⟩ := tups_da t
      obtain ⟨b, ys, rfl, e, hd⟩ := h.tup_
      refine ⟨(b, k) :: L, rfl, rfl, fun p hp => ?_⟩
      rcases List.mem_cons.mp hp with rfl | hp
      · exact ⟨ys, e, hd⟩
      · exact hL p hp
theorem das_tup {G : Hp} : ∀ {L : List (Addr × List Key)}, (∀ p ∈ L, ∃ ys, G p.1 = some (.tup ys) ∧ DaAll G ys (p.2.map keyD)) → DaAll G (L.map fun p => V.ref p.1) ((L.map (·.2)).map tupK)
  | [], _ => .nil
  | p :: L, h => by
    obtain ⟨ys, e, hd⟩ := h p List.mem_cons_self
    exact .cons (.tup e hd) (das_tup fun q hq => h q (List.mem_cons_of_mem _ hq))
section
variable {X : Cx} {n : Nat} {ta : TE}
def tSortSet (K : PySem.W.Frag) (ta : TE) : TE := fun σ H Q => ta σ H fun x H1 => ∃ (G : Hp) (ks : List (List Key)), (Da G x (.tuple (ks.map tupK)) ∨ Da G x (.list (ks.map tupK))) ∧ Ex G H1 ∧ ks.length < 64 ∧ PySem.W.AllAlike (ks.map tupK) ∧ (∀ k ∈ ks, k ≠ []) ∧
  ∀ p ys, H1 p = none → DaAll G ys (sortD ((onceL ks).map tupK)) → Q (.ref p) (upd H1 p (.lst ys))
theorem pe_sortSet {a : Expr} {p p2 q pos : Pos} (hr : Room n X.A) (hg : Gl X "sorted") (hm : X.mg "sorted" = none) (hg2 : Gl X "set") (hm2 : X.mg "set" = none) (ha : PE X a ta) (hc : X.calm = true := by rfl)
    (na : starEach [a] X.env = (false, eval a X.env) :: starEach [] X.env := by rfl) : PE X (.Call (.Name "sorted" p) [.Call (.Name "set" p2) [a] [] q] [] pos) (tSortSet X.K ta) := by
  refine ⟨fun pins s σ H Q I h => ?_⟩
  refine Call_ (ld_blt I hg hm boot_sorted ?_)
  refine PyProof.Rows.callWith_builtin1 (PyProof.Rows.args_cons ?_ rfl) rfl rfl
  refine Call_ (ld_blt I hg2 hm2 boot_set ?_)
  refine PyProof.Rows.callWith_type1 (PyProof.Rows.args_cons (thn (ha.run pins s σ H _ I h) fun v s1 ⟨x, H1, I1, r1, q1⟩ => PyProof.Rows.args_nil ?_) na) na rfl
  obtain ⟨G, ks, hd, sg, hl, al, ne, q1⟩ := q1
  have hu := hr.units
  -- the items
  obtain ⟨b, xs, rfl, hda, hseq⟩ : ∃ b xs, x = V.ref b ∧ DaAll G xs (ks.map tupK) ∧ ∃ its : List Value, Vals xs its ∧ (s1.heap.IsList b its.toArray ∨ s1.heap.IsTuple b its.toArray) := by
    rcases hd with hd | hd
    · obtain ⟨b, xs, rfl, e, ha⟩ := hd.tup_
      obtain ⟨its, rv, ht, _⟩ := I1.tuple (SqT.of (sg _ _ e))
      exact ⟨b, xs, rfl, ha, its, rv, .inr ht⟩
    · obtain ⟨b, xs, rfl, e, ha⟩ := hd.lst_
      obtain ⟨its, rv, ht, _⟩ := I1.list (SqL.of (sg _ _ e))
      exact ⟨b, xs, rfl, ha, its, rv, .inl ht.isList⟩
  obtain ⟨its, rv, hsq⟩ := hseq
  cases r1
  obtain ⟨L0, rfl, e0, hL0⟩ := tups_da hda
  have isk : ∀ p ∈ L0, IsK X.prog X.w s1.heap p.2 p.1 := fun p hp => by
    obtain ⟨ys, e, hy⟩ := hL0 p hp
    obtain ⟨us, r, ⟨o, ho, hcl, m, hdt⟩, _⟩ := I1.tuple (SqT.of (sg _ _ e))
    exact ⟨o, us.toArray, m, ho, hcl, hdt, by simpa using items_da hy r⟩
  have hit : its.toArray.toList = L0.map fun p => Value.ref p.1 := by
    rw [List.toList_toArray]
    clear hsq hda e0 hL0 isk
    induction L0 generalizing its with
    | nil => cases rv; rfl
    | cons p L ih =>
      cases rv with
      | cons r t =>
        cases r
        rw [List.map_cons, ih _ t]
  have len0 : L0.length = ks.length := by rw [← e0, List.length_map]
  refine call_setK (I1.ok.hd hc) hsq hit isk (by rw [len0]; exact hl) (by omega) fun h' tk L es ep t R g k => ?_
  refine PyProof.Rows.args_nil ?_
  have I2 : Inv X pins σ H1 { s1 with heap := h', toks := tk } := I1.kept fun b o e => k b o (Heap.lt_size e) e
  have subL : ∀ p ∈ L, p ∈ L0 := fun p hp => List.mem_of_mem_take (g.sub p hp)
  have mem2 : ∀ z, z ∈ L.map (·.2) ↔ z ∈ ks := fun z => by
    constructor
    · intro hz
      obtain ⟨p, hp, rfl⟩ := List.mem_map.mp hz
      rw [← e0]
      exact List.mem_map.mpr ⟨p, subL p hp, rfl⟩
    · intro hz
      rw [← e0] at hz
      obtain ⟨p, hp, rfl⟩ := List.mem_map.mp hz
      exact g.all p (by rw [List.take_length]; exact hp)
  refine sorted_setK (s := { s1 with heap := h', toks := tk }) R (I2.ok.hd hc) (fun p hp => isK_mono (isk p (subL p hp)) fun o e => k _ _ (Heap.lt_size e) e) ?_ (fun p hp => ne _ ((mem2 _).mp (List.mem_map.mpr ⟨p, hp, rfl⟩))) (by omega) fun s' p out c L' kk gg oo hp hgt hout pm pw => ?_
  · intro d hd1 d' hd2
    obtain ⟨p1, h1, rfl⟩ := List.mem_map.mp hd1
    obtain ⟨p2, h2, rfl⟩ := List.mem_map.mp hd2
    exact al _ (List.mem_map.mpr ⟨_, (mem2 _).mp (List.mem_map.mpr ⟨p1, h1, rfl⟩), rfl⟩) _ (List.mem_map.mpr ⟨_, (mem2 _).mp (List.mem_map.mpr ⟨p2, h2, rfl⟩), rfl⟩)
  · have hfew := R.few
    unfold rowsK at hfew
    rw [List.length_map] at hfew
    have hlen : (L'.map fun q => V.ref q.1).length ≤ sizeLine := by rw [List.length_map, pm.length_eq, sizeLine_eq]; omega
    have hn : H1 p = none := I2.hok.fresh hp
    have hv : Vals (L'.map fun q => V.ref q.1) out.toList := by rw [hout]; exact vals_refs L'
    have J : Inv X pins σ (upd H1 p (.lst (L'.map fun q => V.ref q.1))) { s1 with heap := s'.heap, gens := s'.gens, drawn := s'.drawn, toks := s'.toks } :=
      I2.call (s := { s1 with heap := h', toks := tk }) (ch := []) (Un.laid (h := h') kk hp hn) (I2.hok.laid kk hp ⟨hlen, out.toList, c, hv, hgt⟩) (by rw [gg]; exact I2.bare) (fun _ z => nomatch z)
    have e : s' = { s1 with heap := s'.heap, gens := s'.gens, drawn := s'.drawn, toks := s'.toks } := by
      cases s'
      cases s1
      cases oo
      rfl
    rw [e]
    refine ⟨.ref p, _, J, rfl, q1 p _ hn ?_⟩
    have eq : (L'.map (·.2)).map tupK = sortD ((onceL ks).map tupK) := by
      refine sortK_uniq ?_ (List.pairwise_map.mpr pw)
      refine (pm.map (·.2)).trans ((List.perm_ext_iff_of_nodup g.nd (onceL_nd ks)).mpr fun z => ?_)
      rw [mem2, mem_onceL]
    rw [← eq]
    exact das_tup fun q hq => hL0 q (subL q (pm.mem_iff.mp hq))
end
section
variable {K : PySem.W.Frag} {σ : L2.St} {G : Hp} {te : TE} {ks : List (List Key)}
theorem evd_sortSet (h : EvD te σ G (.tuple (ks.map tupK)) ∨ EvD te σ G (.list (ks.map tupK))) (hl : ks.length < 64) (al : PySem.W.AllAlike (ks.map tupK)) (ne : ∀ k ∈ ks, k ≠ []) : EvD (tSortSet K te) σ G (.list (sortD ((onceL ks).map tupK))) := fun G1 H1 x s Q q => by
  have go : ∀ d, (d = PyData.tuple (ks.map tupK) ∨ d = PyData.list (ks.map tupK)) → EvD te σ G d → tSortSet K te σ H1 Q := fun d e h => h G1 H1 x s _ fun v G2 H2 r hd => by
    refine ⟨G2, ks, ?_, r.s, hl, al, ne, fun p ys hp hy => ?_⟩
    · rcases e with rfl | rfl
      · exact .inl hd
      · exact .inr hd
    · have n := Gr.new (o := .lst ys) r.s hp rfl
      exact q _ _ _ (r.trans n) (.lst upd_same (hy.up n.g))
  rcases h with h | h
  · exact go _ (.inl rfl) h
  · exact go _ (.inr rfl) h
end
end Lf
set_option maxHeartbeats 4000000
/-! Ascending tuples of pairs of a name and an offset, and of what sorting the set of them tells; plain -/
namespace Tr
open PySem Lf L2
def isUse : PyData → Bool
  | .tuple [n, o] => isNm n && within 0 3 o
  | _ => false
def ascD : List PyData → Bool
  | a :: b :: l => PySem.W.dataLt a b && ascD (b :: l)
  | _ => true
def isUs : PyData → Bool
  | .tuple ds => ds.all isUse && ascD ds
  | _ => false
def firstD : PyData → PyData
  | .tuple (w :: _) => w
  | _ => .none
/-- a pattern -/
def isPat : PyData → Bool
  | .tuple [n, s, t, c, u] => isNm n && (isSh s && (!(isS "hole" (firstD s)) && (within 1 4 t && (within 0 20 c && isUs u))))
  | _ => false
theorem ascD_zip : ∀ ds : List PyData, ((ds.zip (ds.drop 1)).map fun p => PySem.W.dataLt p.1 p.2).all id = ascD ds
  | [] => rfl
  | [_] => rfl
  | a :: b :: l => by
    rw [List.drop_succ_cons, List.drop_zero, List.zip_cons_cons, List.map_cons, List.all_cons, ascD]
    have := ascD_zip (b :: l)
    rw [List.drop_succ_cons, List.drop_zero] at this
    rw [this]
    rfl
theorem use_tup {d : PyData} (h : isUse d = true) : ∃ (x : Str) (i : Int), d = tupK [.inr x, .inl i] ∧ isNm (.str x) = true ∧ 0 ≤ i ∧ i ≤ 3 := by
  unfold isUse at h
  split at h
  · rename_i n o
    rw [Bool.and_eq_true] at h
    cases n with
    | str x =>
      cases o with
      | int i =>
        have h2 := h.2
        unfold within at h2
        simp only [Bool.and_eq_true, decide_eq_true_eq] at h2
        exact ⟨x, i, rfl, h.1, h2.2.1, h2.2.2⟩
      | _ => cases h.2
    | _ => cases h.1
  · cases h
theorem uses_keys : ∀ {ds : List PyData}, (∀ d ∈ ds, isUse d = true) → ∃ ks : List (List Key), ds = ks.map tupK ∧ ∀ k ∈ ks, ∃ (x : Str) (i : Int), k = [.inr x, .inl i] ∧ isNm (.str x) = true ∧ 0 ≤ i ∧ i ≤ 3
  | [], _ => ⟨[], rfl, fun k h => by cases h⟩
  | d :: ds, h => by
    obtain ⟨x, i, rfl, h1, h2, h3⟩ := use_tup (h d List.mem_cons_self)
    obtain ⟨ks, rfl, hk⟩ := uses_keys fun e he => h e (List.mem_cons_of_mem _ he)
    refine ⟨[.inr x, .inl i] :: ks, rfl, fun k hk2 => ?_⟩
    rcases List.mem_cons.mp hk2 with rfl | hk2
    · exact ⟨x, i, rfl, h1, h2, h3⟩
    · exact hk k hk2
theorem uses_alike {ks : List (List Key)} (h : ∀ k ∈ ks, ∃ (x : Str) (i : Int), k = [.inr x, .inl i] ∧ isNm (.str x) = true ∧ 0 ≤ i ∧ i ≤ 3) : PySem.W.AllAlike (ks.map tupK) := fun d hd e he => by
  obtain ⟨k, hk, rfl⟩ := List.mem_map.mp hd
  obtain ⟨j, hj, rfl⟩ := List.mem_map.mp he
  obtain ⟨x, i, rfl, _⟩ := h k hk
  obtain ⟨y, l, rfl, _⟩ := h j hj
  rfl
theorem lt_le {a b : PyData} (h : PySem.W.dataLt a b = true) : leD a b = true := by
  show (!PyProof.Rows.lexLt PyProof.Rows.itemOrd (PySem.W.keyToks b) (PySem.W.keyToks a)) = true
  cases e : PyProof.Rows.lexLt PyProof.Rows.itemOrd (PySem.W.keyToks b) (PySem.W.keyToks a) with
  | false => rfl
  | true =>
    have h : PyProof.Rows.lexLt PyProof.Rows.itemOrd (PySem.W.keyToks a) (PySem.W.keyToks b) = true := h
    have := PyProof.Rows.lex_trans (O := PyProof.Rows.itemOrd) _ _ _ h e
    rw [PyProof.Rows.lex_irrefl] at this
    cases this
theorem lt_ne {a b : PyData} (h : PySem.W.dataLt a b = true) : a ≠ b := fun e => by
  subst e
  have h : PyProof.Rows.lexLt PyProof.Rows.itemOrd (PySem.W.keyToks a) (PySem.W.keyToks a) = true := h
  rw [PyProof.Rows.lex_irrefl] at h
  cases h
theorem le_lt {k j : List Key} (h : leD (tupK k) (tupK j) = true) (ne : k ≠ j) : PySem.W.dataLt (tupK k) (tupK j) = true := by
  cases e : PySem.W.dataLt (tupK k) (tupK j) with
  | true => rfl
  | false =>
    exfalso
    have h : (!PyProof.Rows.lexLt PyProof.Rows.itemOrd (PySem.W.keyToks (tupK j)) (PySem.W.keyToks (tupK k))) = true := h
    rw [Bool.not_eq_true'] at h
    exact ne (tupK_inj (PyProof.Rows.lex_total (O := PyProof.Rows.itemOrd) _ _ e h))
theorem asc_pw : ∀ {ds : List PyData}, ascD ds = true → ds.Pairwise fun a b => PySem.W.dataLt a b = true
  | [], _ => .nil
  | [_], _ => List.pairwise_singleton _ _
  | a :: b :: l, h => by
    rw [ascD, Bool.and_eq_true] at h
    have ih := asc_pw h.2
    refine List.pairwise_cons.mpr ⟨fun c hc => ?_, ih⟩
    rcases List.mem_cons.mp hc with rfl | hc
    · exact h.1
    · exact PyProof.Rows.lex_trans (O := PyProof.Rows.itemOrd) _ _ _ h.1 ((List.pairwise_cons.mp ih).1 c hc)
theorem pw_asc : ∀ {ds : List PyData}, (ds.Pairwise fun a b => PySem.W.dataLt a b = true) → ascD ds = true
  | [], _ => rfl
  | [_], _ => rfl
  | a :: b :: l, h => by
    obtain ⟨h1, h2⟩ := List.pairwise_cons.mp h
    rw [ascD, h1 b List.mem_cons_self, pw_asc h2]
    rfl
theorem tupK_inj' {k j : List Key} (h : tupK k = tupK j) : k = j := tupK_inj (by rw [h])
theorem map_nodup {ks : List (List Key)} : (ks.map tupK).Nodup ↔ ks.Nodup := by
  constructor
  · exact fun h => List.Pairwise.of_map tupK (fun _ _ hne e => hne (congrArg tupK e)) h
  · exact fun h => List.pairwise_map.mpr (h.imp fun hne e => hne (tupK_inj' e))
/-- ascending exactly if the sorted set of them is the same -/
theorem asc_sort (ks : List (List Key)) : sortD ((onceL ks).map tupK) = ks.map tupK ↔ ascD (ks.map tupK) = true := by
  constructor
  · intro h
    have p1 : (sortD ((onceL ks).map tupK)).Perm ((onceL ks).map tupK) := sortD_perm _
    have nd : (ks.map tupK).Nodup := by
      rw [← h]
      exact p1.nodup_iff.mpr (map_nodup.mpr (onceL_nd ks))
    have pw : (ks.map tupK).Pairwise fun a b => leD a b = true := by
      rw [← h]
      exact List.pairwise_mergeSort (le := leD) leD_trans leD_total _
    refine pw_asc (List.pairwise_map.mpr ?_)
    have nk := map_nodup.mp nd
    exact (List.pairwise_map.mp pw).imp₂ (fun a b h1 h2 => le_lt h1 h2) nk
  · intro h
    have pw := asc_pw h
    have nd : (ks.map tupK).Nodup := pw.imp fun h => lt_ne h
    rw [onceL_same (map_nodup.mp nd)]
    exact (sortK_uniq (List.Perm.refl ks) ((List.pairwise_map.mp pw).imp fun h => lt_le h)).symm
theorem eqv_key {x y : Key} : PyData.eqv (keyD x) (keyD y) = decide (x = y) := by
  rw [Bool.eq_iff_iff, decide_eq_true_iff]
  cases x with
  | inl i =>
    cases y with
    | inl j =>
      show (i == j) = true ↔ _
      rw [beq_iff_eq]
      simp
    | inr y =>
      show false = true ↔ _
      simp
  | inr x =>
    cases y with
    | inl j =>
      show false = true ↔ _
      simp
    | inr y =>
      show (x == y) = true ↔ _
      rw [beq_iff_eq]
      simp
theorem eqv_keys : ∀ {k j : List Key}, PyData.eqvAll (k.map keyD) (j.map keyD) = decide (k = j)
  | [], [] => rfl
  | [], _ :: _ => rfl
  | _ :: _, [] => rfl
  | x :: k, y :: j => by
    show (PyData.eqv (keyD x) (keyD y) && PyData.eqvAll (k.map keyD) (j.map keyD)) = _
    rw [eqv_key, eqv_keys, ← Bool.decide_and, decide_eq_decide]
    simp
theorem eqv_tups : ∀ {ks js : List (List Key)}, PyData.eqvAll (ks.map tupK) (js.map tupK) = decide (ks = js)
  | [], [] => rfl
  | [], _ :: _ => rfl
  | _ :: _, [] => rfl
  | k :: ks, j :: js => by
    show (PyData.eqvAll (k.map keyD) (j.map keyD) && PyData.eqvAll (ks.map tupK) (js.map tupK)) = _
    rw [eqv_keys, eqv_tups, ← Bool.decide_and, decide_eq_decide]
    simp
theorem sorted_keys (ks : List (List Key)) : ∃ js : List (List Key), sortD ((onceL ks).map tupK) = js.map tupK ∧ ∀ j ∈ js, j ∈ ks := by
  have p1 : (sortD ((onceL ks).map tupK)).Perm ((onceL ks).map tupK) := sortD_perm _
  obtain ⟨js, p2, e⟩ := perm_lift p1 (onceL ks) rfl
  exact ⟨js, e.symm, fun j hj => mem_onceL.mp (p2.mem_iff.mp hj)⟩
/-- the law's word for ascending uses -/
theorem eqv_asc (ks : List (List Key)) : PyData.eqv (.list (sortD ((onceL ks).map tupK))) (.list (ks.map tupK)) = ascD (ks.map tupK) := by
  obtain ⟨js, e, _⟩ := sorted_keys ks
  rw [Bool.eq_iff_iff, ← asc_sort, e]
  show PyData.eqvAll (js.map tupK) (ks.map tupK) = true ↔ _
  rw [eqv_tups, decide_eq_true_iff]
  constructor
  · rintro rfl; rfl
  · intro h
    have key : ∀ {a b : List (List Key)}, a.map tupK = b.map tupK → a = b := fun {a} => by
      induction a with
      | nil => intro b h; cases b with | nil => rfl | cons _ _ => cases h
      | cons x a ih =>
        intro b h
        cases b with
        | nil => cases h
        | cons y b =>
          obtain ⟨h1, h2⟩ := List.cons.inj h
          rw [tupK_inj' h1, ih h2]
    exact key h
theorem uses_ok {ks : List (List Key)} (h : ∀ k ∈ ks, ∃ (x : Str) (i : Int), k = [.inr x, .inl i] ∧ isNm (.str x) = true ∧ 0 ≤ i ∧ i ≤ 3) {js : List (List Key)} (hj : ∀ j ∈ js, j ∈ ks) : (∀ d ∈ js.map tupK, flatD d = true ∧ d.depth ≤ 1 ∧ d ≠ .none) ∧ flatDs (js.map tupK) = true := by
  have h1 : ∀ d ∈ js.map tupK, flatD d = true ∧ d.depth ≤ 1 ∧ d ≠ .none := fun d hd => by
    obtain ⟨j, hj2, rfl⟩ := List.mem_map.mp hd
    obtain ⟨x, i, rfl, _⟩ := h j (hj j hj2)
    exact ⟨rfl, by show (1 : Nat) ≤ 1; decide, fun z => by cases z⟩
  refine ⟨h1, ?_⟩
  revert h1
  generalize js.map tupK = ds
  intro h1
  induction ds with
  | nil => rfl
  | cons d ds ih => rw [flatDs, (h1 d List.mem_cons_self).1, ih fun e he => h1 e (List.mem_cons_of_mem _ he)]; rfl
end Tr
set_option maxHeartbeats 4000000
/-! The law's own size of a shape, and that it judges as is_shape does; plain -/
namespace Tr
open PySem Lf
def isHL (w : PyData) (r : List PyData) : Bool := (isS "hole" w || isS "load" w) && r.isEmpty
/-- the number of the working nodes, 99 for none; n levels are enough -/
def sz : Nat → Bool → PyData → Int
  | n + 1, top, .tuple (w :: r) => if isHL w r = true then (if isS "load" w = true then 1 else 0)
    else if (isS "store" w && (top && decide (r.length = 1))) = true then 1 + sz n false (r.getD 0 .none)
    else if (isS "op" w && ((decide (1 ≤ r.length) && decide (r.length ≤ 4)) && isNm (r.getD 0 .none))) = true then 1 + ((r.drop 1).map fun t => sz n false t).sum else 99
  | _, _, _ => 99
theorem sz_cons (n : Nat) (top : Bool) (w : PyData) (r : List PyData) : sz (n + 1) top (.tuple (w :: r)) = (if isHL w r = true then (if isS "load" w = true then 1 else 0)
    else if (isS "store" w && (top && decide (r.length = 1))) = true then 1 + sz n false (r.getD 0 .none)
    else if (isS "op" w && ((decide (1 ≤ r.length) && decide (r.length ≤ 4)) && isNm (r.getD 0 .none))) = true then 1 + ((r.drop 1).map fun t => sz n false t).sum else 99) := by rw [sz]
theorem sum_nn {α : Type} {f : α → Int} {l : List α} (h : ∀ a ∈ l, 0 ≤ f a) : 0 ≤ (l.map f).sum := by
  induction l with
  | nil => exact Int.le_refl 0
  | cons a l ih =>
    rw [List.map_cons, List.sum_cons]
    have h1 := h a List.mem_cons_self
    have h2 := ih fun b hb => h b (List.mem_cons_of_mem _ hb)
    omega
theorem sz_nn : ∀ (n : Nat) (top : Bool) (d : PyData), 0 ≤ sz n top d := by
  intro n
  induction n with
  | zero => intro top d; show (0 : Int) ≤ 99; decide
  | succ n ih =>
    intro top d
    cases d with
    | tuple ds =>
      cases ds with
      | nil => show (0 : Int) ≤ 99; decide
      | cons w r =>
        rw [sz_cons]
        have h1 := sum_nn (f := fun t => sz n false t) (l := r.drop 1) fun t _ => ih false t
        have h2 := ih false (r.getD 0 .none)
        split
        · split <;> decide
        · split
          · omega
          · split
            · omega
            · decide
    | _ => show (0 : Int) ≤ 99; decide
theorem wkg_nn : ∀ (n : Nat) (d : PyData), 0 ≤ wkg n d := by
  intro n
  induction n with
  | zero => intro d; show (0 : Int) ≤ 0; decide
  | succ n ih =>
    intro d
    cases d with
    | tuple ds =>
      rw [wkg]
      have h1 := sum_nn (f := fun t => wkg n t) (l := bel ds) fun t _ => ih t
      split <;> omega
    | _ => show (0 : Int) ≤ 0; decide
theorem isS_other {a b : Str} {w : PyData} (h : isS a w = true) (hne : a ≠ b) : isS b w = false := by
  cases w with
  | str x =>
    have e : x = a := of_decide_eq_true h
    subst e
    exact decide_eq_false hne
  | _ => rfl
/-- sums of parts, each judged alike up to k -/
theorem sums {f g : PyData → Int} {p : PyData → Bool} (hf : ∀ t, 0 ≤ f t) (hg : ∀ t, 0 ≤ g t) : ∀ (l : List PyData) (k : Nat), (∀ t ∈ l, ∀ j : Nat, j ≤ k → ((p t = true ∧ f t ≤ (j : Int)) ↔ g t ≤ (j : Int))) →
    ((l.all p = true ∧ (l.map f).sum ≤ (k : Int)) ↔ (l.map g).sum ≤ (k : Int))
  | [], k, _ => by simp
  | t :: l, k, h => by
    rw [List.all_cons, List.map_cons, List.map_cons, List.sum_cons, List.sum_cons, Bool.and_eq_true]
    have ht := h t List.mem_cons_self
    have n1 := sum_nn (f := f) (l := l) fun a _ => hf a
    have n2 := sum_nn (f := g) (l := l) fun a _ => hg a
    have hl : ∀ j : Nat, j ≤ k → ((l.all p = true ∧ (l.map f).sum ≤ ((k - j : Nat) : Int)) ↔ (l.map g).sum ≤ ((k - j : Nat) : Int)) := fun j hj => sums hf hg l (k - j) fun a ha i hi => h a (List.mem_cons_of_mem _ ha) i (by omega)
    have f0 := hf t
    have g0 := hg t
    constructor
    · rintro ⟨⟨h1, h2⟩, h3⟩
      obtain ⟨j, ej⟩ := Int.eq_ofNat_of_zero_le f0
      have hj : j ≤ k := by omega
      have a1 := (ht j hj).mp ⟨h1, by omega⟩
      have a2 := (hl j hj).mp ⟨h2, by omega⟩
      omega
    · intro h3
      obtain ⟨j, ej⟩ := Int.eq_ofNat_of_zero_le g0
      have hj : j ≤ k := by omega
      obtain ⟨a1, a2⟩ := (ht j hj).mpr (by omega)
      obtain ⟨a3, a4⟩ := (hl j hj).mpr (by omega)
      exact ⟨⟨a1, a3⟩, by omega⟩
theorem hl_bel {w : PyData} {r : List PyData} (h : (isS "hole" w || isS "load" w) = true) : bel (w :: r) = [] := by
  unfold bel
  dsimp only
  rw [ts_store (.inl h), if_neg (by decide)]
  rw [if_neg]
  intro z
  cases isS_eq z
  cases h
theorem op_bel {w : PyData} {r : List PyData} (h : isS "op" w = true) : bel (w :: r) = r.drop 1 := by
  unfold bel
  dsimp only
  rw [ts_store (.inr h), if_neg (by decide), if_pos h]
/-- a tree shape of so many nodes -/
theorem ts_sz : ∀ (n : Nat) (d : PyData), d.depth ≤ n → ∀ (k m : Nat), k ≤ 90 → k + 1 ≤ m → ((isTs m d = true ∧ wkg m d ≤ (k : Int)) ↔ sz n false d ≤ (k : Int)) := by
  intro n
  induction n with
  | zero =>
    intro d hd k m hk hm
    have e : sz 0 false d = 99 := rfl
    rw [e]
    obtain ⟨m, rfl⟩ : ∃ j, m = j + 1 := ⟨m - 1, by omega⟩
    constructor
    · rintro ⟨h, _⟩
      cases d with
      | tuple ds => exact absurd hd (by rw [PyData.depth]; omega)
      | _ => cases h
    · intro h; omega
  | succ n ih =>
    intro d hd k m hk hm
    obtain ⟨m, rfl⟩ : ∃ j, m = j + 1 := ⟨m - 1, by omega⟩
    cases d with
    | tuple ds =>
      cases ds with
      | nil =>
        have e : sz (n + 1) false (.tuple []) = 99 := rfl
        rw [e]
        constructor
        · rintro ⟨h, _⟩; cases h
        · intro h; omega
      | cons w r =>
        have hd2 : ∀ t ∈ r, t.depth ≤ n := fun t ht => by
          have := depthAll_mem (List.mem_cons_of_mem w ht)
          have h2 : PyData.depthAll (w :: r) + 1 ≤ n + 1 := hd
          omega
        rw [isTs_cons, sz_cons, wkg, Bool.false_and, Bool.and_false, if_neg (c := false = true) Bool.false_ne_true, show (w :: r).getD 0 .none = w from rfl]
        by_cases c : (isS "hole" w || isS "load" w) = true
        · rw [if_pos c, hl_bel c]
          cases r with
          | nil =>
            rw [if_pos (show isHL w [] = true by unfold isHL; rw [c]; rfl)]
            rcases Bool.or_eq_true_iff.mp c with c1 | c1
            · rw [if_pos c1, isS_other (b := "load") c1 (by decide), if_neg Bool.false_ne_true]
              simp
            · rw [isS_other (b := "hole") c1 (by decide), if_neg Bool.false_ne_true, if_pos c1]
              simp
          | cons a r =>
            rw [if_neg (show ¬ isHL w (a :: r) = true by unfold isHL; rw [List.isEmpty_cons, Bool.and_false]; decide)]
            have : isS "op" w = false := by
              rcases Bool.or_eq_true_iff.mp c with c1 | c1
              · exact isS_other c1 (by decide)
              · exact isS_other c1 (by decide)
            rw [this, Bool.false_and, if_neg Bool.false_ne_true]
            constructor
            · rintro ⟨h, _⟩; cases h
            · intro h; omega
        · have nhl : ¬ isHL w r = true := fun z => by
            unfold isHL at z
            rw [Bool.and_eq_true] at z
            exact c z.1
          rw [if_neg c, if_neg nhl]
          by_cases c2 : isS "op" w = true
          · have nh : ¬ isS "hole" w = true := fun z => c (by rw [z]; rfl)
            rw [if_pos c2, c2, Bool.true_and, op_bel c2, if_neg nh]
            by_cases c3 : ((decide (1 ≤ r.length) && decide (r.length ≤ 4)) && isNm (r.getD 0 .none)) = true
            · rw [if_pos c3]
              have c4 := c3
              rw [Bool.and_eq_true] at c4
              rw [c4.1, c4.2, Bool.true_and, Bool.true_and]
              have nn := sum_nn (f := fun t => sz n false t) (l := r.drop 1) fun t _ => sz_nn n false t
              have nw := sum_nn (f := fun t => wkg m t) (l := r.drop 1) fun t _ => wkg_nn m t
              by_cases k0 : k = 0
              · subst k0
                constructor
                · rintro ⟨_, h⟩; omega
                · intro h; omega
              · have := sums (f := fun t => wkg m t) (g := fun t => sz n false t) (p := fun t => isTs m t) (wkg_nn m) (sz_nn n false) (r.drop 1) (k - 1) fun t ht j hj => ih t (hd2 t (List.mem_of_mem_drop ht)) j m (by omega) (by omega)
                have e : ((k - 1 : Nat) : Int) = (k : Int) - 1 := by omega
                rw [e] at this
                constructor
                · rintro ⟨h1, h2⟩
                  have := this.mp ⟨h1, by omega⟩
                  omega
                · intro h
                  obtain ⟨h1, h2⟩ := this.mpr (by omega)
                  exact ⟨h1, by omega⟩
            · rw [if_neg c3]
              constructor
              · rintro ⟨h, _⟩
                exfalso
                obtain ⟨h1, h2⟩ := Bool.and_eq_true_iff.mp h
                exact c3 (Bool.and_eq_true_iff.mpr ⟨h1, (Bool.and_eq_true_iff.mp h2).1⟩)
              · intro h; omega
          · rw [if_neg c2]
            have c2 : isS "op" w = false := by simpa using c2
            rw [c2, Bool.false_and, if_neg Bool.false_ne_true]
            constructor
            · rintro ⟨h, _⟩; cases h
            · intro h; omega
    | _ =>
      constructor
      · rintro ⟨h, _⟩; cases h
      · intro h
        have h : (99 : Int) ≤ k := h
        omega
/-- the law's own word for a shape -/
theorem sh_sz (n : Nat) (d : PyData) (hd : d.depth ≤ n) : isSh d = decide (sz n true d ≤ 4) := by
  have plain : ∀ e : PyData, e.depth ≤ n → sz n true e = sz n false e → (isTs 5 e && decide (wkg 5 e ≤ 4)) = decide (sz n true e ≤ 4) := fun e he es => by
    rw [es, Bool.eq_iff_iff, Bool.and_eq_true, decide_eq_true_iff, decide_eq_true_iff]
    exact ts_sz n e he 4 5 (by decide) (by decide)
  cases d with
  | tuple ds =>
    unfold isSh
    dsimp only
    by_cases c : ds.length = 2 ∧ isS "store" (ds.getD 0 .none) = true
    · rw [if_pos c]
      obtain ⟨w, x, rfl⟩ : ∃ w x, ds = [w, x] := by
        match ds, c.1 with
        | [a, b], _ => exact ⟨a, b, rfl⟩
      have hs : isS "store" w = true := c.2
      cases n with
      | zero => exact absurd hd (by rw [PyData.depth]; omega)
      | succ n =>
        have hx : x.depth ≤ n := by
          have := depthAll_mem (show x ∈ [w, x] by simp)
          have h2 : PyData.depthAll [w, x] + 1 ≤ n + 1 := hd
          omega
        have nhl : ¬ isHL w [x] = true := by unfold isHL; rw [List.isEmpty_cons, Bool.and_false]; decide
        rw [sz_cons, if_neg nhl, hs, show (decide ([x].length = 1)) = true from rfl, if_pos (show (true && (true && true)) = true from rfl)]
        have e1 : wkg 5 (.tuple [w, x]) = 1 + (wkg 4 x) := by
          rw [wkg, show [w, x].getD 0 .none = w from rfl, isS_other (b := "hole") hs (by decide), if_neg Bool.false_ne_true]
          unfold bel
          dsimp only
          rw [if_pos hs]
          show (1 : Int) + (wkg 4 x + 0) = _
          omega
        rw [e1, show [w, x].getD 1 .none = x from rfl, show [x].getD 0 .none = x from rfl, Bool.eq_iff_iff, Bool.and_eq_true, decide_eq_true_iff, decide_eq_true_iff]
        have := ts_sz n x hx 3 4 (by decide) (by decide)
        constructor
        · rintro ⟨h1, h2⟩
          have := this.mp ⟨h1, by omega⟩
          omega
        · intro h
          obtain ⟨h1, h2⟩ := this.mpr (by omega)
          exact ⟨h1, by omega⟩
    · rw [if_neg c]
      refine plain _ hd ?_
      cases n with
      | zero => rfl
      | succ n =>
        cases ds with
        | nil => rfl
        | cons w r =>
          rw [sz_cons, sz_cons, Bool.false_and, Bool.true_and]
          have : (isS "store" w && decide (r.length = 1)) = false := by
            cases h : isS "store" w with
            | false => rfl
            | true =>
              rw [Bool.true_and]
              refine decide_eq_false fun z => c ⟨by rw [List.length_cons, z], h⟩
          rw [this, Bool.and_false]
  | _ =>
    show false = decide (sz n true _ ≤ 4)
    cases n <;> rfl
end Tr
set_option maxHeartbeats 4000000
namespace My
open PySem L2 Lf Evl Tr
abbrev s_is_ascending : Stmt := top 9
theorem sc_is_ascending : FnScope ["items", "one", "other"] ["items"] (defScope s_is_ascending) := ⟨rfl, rfl, rfl, by decide +kernel, rfl, by decide +kernel, by decide +kernel⟩
abbrev s_are_uses : Stmt := top 24
theorem sc_are_uses : FnScope ["value", "one"] ["value"] (defScope s_are_uses) := ⟨rfl, rfl, rfl, by decide +kernel, rfl, by decide +kernel, by decide +kernel⟩
abbrev s_is_pattern : Stmt := top 25
theorem sc_is_pattern : FnScope ["value"] ["value"] (defScope s_is_pattern) := ⟨rfl, rfl, rfl, by decide +kernel, rfl, by decide +kernel, by decide +kernel⟩
theorem hu65 {k : Nat} {A : Around} (r : Room k A) : A.units + 65 < cLine := by have := r.un; omega
/-- tuples that can be compared with one another -/
def cmpD (ds : List PyData) : Bool := ds.all (fun d => ds.all fun e => PySem.W.alike d e) && (ds.all (fun d => flatD d && (decide (d.depth ≤ 32) && (kd d == "tuple"))) && decide (ds.length ≤ 1000))
def fAsc : PyData → Option PyData
  | .tuple ds => if cmpD ds = true then some (.bool (ascD ds)) else none
  | _ => none
theorem evd_from1 {K : PySem.W.Frag} {σ : L2.St} {G : Hp} {te : TE} {ds : List PyData} {j : Nat} (h : EvD te σ G (.tuple ds)) : EvD (tSl (rSlA K) te (tPart (tC (.int (j : Int)))) (fun _ H Q => Q none H)) σ G (.tuple (ds.drop j)) := EvD.is (evd_sl h (EvO.some_ ev_c) EvO.none_) (by rw [cutD_from])
theorem uses_cmp {ks : List (List Key)} (h : ∀ k ∈ ks, ∃ (x : Str) (i : Int), k = [.inr x, .inl i] ∧ isNm (.str x) = true ∧ 0 ≤ i ∧ i ≤ 3) (hl : ks.length ≤ 1000) : cmpD (ks.map tupK) = true := by
  unfold cmpD
  rw [Bool.and_eq_true, Bool.and_eq_true, decide_eq_true_eq, List.length_map, List.all_eq_true, List.all_eq_true]
  refine ⟨fun d hd => List.all_eq_true.mpr fun e he => uses_alike h d hd e he, fun d hd => ?_, hl⟩
  obtain ⟨k, hk, rfl⟩ := List.mem_map.mp hd
  obtain ⟨x, i, rfl, _⟩ := h k hk
  rfl
section
variable {P : Program} {w : World} {K : PySem.W.Frag} {mg : Str → Option Value} {base : Heap}
theorem ok_is_ascending (T : Txt K mg) (D : Df K mg "is_ascending" s_is_ascending) : DefOk P w K mg base CX0 1 "is_ascending" ["items"] (spO fAsc) := by
  refine D.ok sc_is_ascending (fun _ _ _ _ _ _ us hl => match us, hl with | [_], _ => rfl) (fun vs H Q E h => spO_len h) (fun f cdv A outer s H vs Q E hr h => ?_)
  obtain ⟨G, v, d, e, rfl, s, hd, he, k⟩ := spO_of h
  unfold fAsc at he
  split at he
  · rename_i ds
    split at he
    · rename_i hc
      cases he
      unfold cmpD at hc
      rw [Bool.and_eq_true, Bool.and_eq_true, decide_eq_true_eq, List.all_eq_true, List.all_eq_true] at hc
      obtain ⟨h1, h2, h3⟩ := hc
      refine ⟨_, (pss_one (ps_ret (pe_callB (cr_all rfl) (by rfl) T.n_all (by decide +kernel) (pa_cons (pe_lc (own := [("one", 1), ("other", 2)]) (g := (gTup K 2 (gCons (gName 1) (gCons (gName 2) gNil)))) (by rfl) sc_is_ascending.nd (RZ.pi_zipA (by rfl) T.n_zip (pa_cons (pv 0) (pa_cons (pe_slice sl_tupA (pv 0) (po_some pe_int) po_none) pa_nil))) (blkOk_by (own := [("one", 1), ("other", 2)]) (N := ["items", "one", "other"]) (sc := defScope s_is_ascending) (by decide +kernel)) (fun _ _ _ _ _ => (pg_tup (by rfl) (pgs_cons (pg_name (i := 1) sc_is_ascending.nd rfl (Or.inl rfl)) (pgs_cons (pg_name (i := 2) sc_is_ascending.nd rfl (Or.inl rfl)) pgs_nil)))) (fun _ _ _ _ _ => pts_nil) (fun _ _ _ _ _ => (pe_cmpR (show OpR _ (compareOp .Lt) (rLtD K) from op_ltD hr) (pv 1) (pv 2) (nomark _)))) pa_nil)))), ?_⟩
      rw [← ascD_zip ds] at k
      have tup : ∀ d ∈ ds, flatD d = true ∧ d.depth ≤ 32 ∧ d ≠ .none := fun d hd => by
        have := h2 d hd
        rw [Bool.and_eq_true, Bool.and_eq_true, decide_eq_true_eq] at this
        exact ⟨this.1, this.2.1, fun z => by rw [z] at this; exact absurd this.2.2 (by decide)⟩
      refine s_retD s (evd_bl (ev_allD (K := K) (EvD.is (evd_lcZ (ds := ds) (es := ds.drop 1) (fun a b => .bool (PySem.W.dataLt a b)) (evd_var rfl hd) (EvD.is (evd_sl (evd_var rfl hd) (EvO.some_ ev_c) EvO.none_) ?_) (by omega) (fun _ _ => rfl) (fun p hp x y G1 x1 hx hy => ?_)) ?_))) k
      · rw [show (1 : Int) = ((1 : Nat) : Int) from rfl, cutD_from]
      · obtain ⟨m1, m2⟩ := List.of_mem_zip (a := p.1) (b := p.2) hp
        have m2 := List.mem_of_mem_drop m2
        exact evd_bl (ev_ltD (evd_var rfl hx) (evd_var rfl hy) (tup _ m1).1 (tup _ m2).1 (List.all_eq_true.mp (h1 _ m1) _ m2) (tup _ m1).2.2 (tup _ m1).2.1)
      · rw [List.map_map]
        rfl
    · cases he
  · cases he
end
end My
set_option maxHeartbeats 4000000
namespace My
open PySem L2 Lf Evl Tr
/-- data that are no tuple, or of small parts -/
abbrev ncB (d : PyData) : Bool := ncQ 30 1000 60 d
def okV (d : PyData) : Bool := !(kd d == "tuple") || ncB d
theorem ncB_iff {d : PyData} : ncB d = true ↔ Nc 30 1000 60 d := ncQ_iff
theorem okV_at {ds : List PyData} (h : okV (.tuple ds) = true) : ∀ d ∈ ds, ncB d = true := fun d hd => by
  have h : ncB (.tuple ds) = true := h
  exact ncB_iff.mpr (((ncB_iff.mp h).mono (show 30 ≤ 30 + 1 by decide) (Nat.le_refl _) (Nat.le_refl _)).at hd)
theorem okV_of {d : PyData} (h : ncB d = true) : okV d = true := by unfold okV; rw [h, Bool.or_true]
theorem len_wt (ds : List PyData) : ds.length ≤ PyData.weightAll ds := by
  induction ds with
  | nil => exact Nat.zero_le _
  | cons d ds ih => rw [List.length_cons, PyData.weightAll]; omega
theorem okV_len {ds : List PyData} (h : okV (.tuple ds) = true) : ds.length ≤ 1000 := by
  have h : ncB (.tuple ds) = true := h
  exact Nat.le_trans (len_wt ds) (ncB_iff.mp h).wei
/-- a judge of such data -/
def fV (f : PyData → Bool) (d : PyData) : Option PyData := if okV d = true then some (.bool (f d)) else none
theorem spV_of {f : PyData → Bool} {vs : List V} {H : Hp} {Q : VK} {E : XK} (h : spO (fV f) vs H Q E) : ∃ G v d, vs = [v] ∧ Ex G H ∧ Da G v d ∧ okV d = true ∧ ∀ H', Ex H H' → Q (.bl (f d)) H' := by
  obtain ⟨G, v, d, e, rfl, s, hd, he, k⟩ := spO_of h
  unfold fV at he
  split at he
  · rename_i hc
    cases he
    exact ⟨G, v, d, rfl, s, hd, hc, fun H' x => k _ G H' (Gr.keep s x) (.bl _)⟩
  · cases he
theorem ev_callV {f : PyData → Bool} {σ : L2.St} {G : Hp} {te : TE} {d : PyData} {E : XK} (h : EvD te σ G d) (hd : okV d = true) : Ev (tCallD (spO (fV f)) E (tCons te tNil)) σ G (.bl (f d)) := EvD.bl_ (evd_callO h (by unfold fV; rw [if_pos hd]))
theorem ev_callW {σ : L2.St} {G : Hp} {te : TE} {d : PyData} {a b : Int} {ta tb : TE} {E : XK} (h : EvD te σ G d) (ha : Ev ta σ G (.int a)) (hb : Ev tb σ G (.int b)) : Ev (tCallD spW E (tCons te (tCons ta (tCons tb tNil)))) σ G (.bl (within a b d)) := EvD.bl_ (evd_call (evd_cons h (evd_cons (evd_int ha) (evd_cons (evd_int hb) evd_nil))) rfl)
/-- what each item of uses must be -/
theorem use_no {d : PyData} (h : kd d ≠ "tuple") : isUse d = false := by cases d <;> (first | rfl | exact absurd rfl h)
section
variable {P : Program} {w : World} {K : PySem.W.Frag} {mg : Str → Option Value} {base : Heap}
theorem ok_are_uses (T : Txt K mg) (D : Df K mg "are_uses" s_are_uses) (D_is_name : DefOk P w K mg base CX0 1 "is_name" ["value"] (spB isNm)) (D_is_within : DefOk P w K mg base CX0 3 "is_within" ["value", "low", "high"] spW) (D_is_ascending : DefOk P w K mg base CX0 1 "is_ascending" ["items"] (spO fAsc)) :
    DefOk P w K mg base CX0 4 "are_uses" ["value"] (spO (fV isUs)) := by
  refine D.ok sc_are_uses (fun _ _ _ _ _ _ us hl => match us, hl with | [_], _ => rfl) (fun vs H Q E h => spO_len h) (fun f cdv A outer s H vs Q E hr h => ?_)
  obtain ⟨G, v, d, rfl, s, hd, hv, k⟩ := spV_of h
  refine ⟨_, (pss_cons (ps_if (pt_not (pt_val (pe_callB call_isi (by rfl) T.n_isinstance (by decide +kernel) (pa_cons (pv 0) (pa_cons (pe_bltn (v := .ty "tuple") (by rfl) T.n_tuple (by decide +kernel) rfl) pa_nil)))))
 (pss_one (ps_ret pe_bl))
 pss_nil)
 (pss_cons (ps_for PassesOwn.never rfl (pi_tup (pv 0)) (pg_name (i := 1) sc_are_uses.nd rfl (Or.inl rfl))
 (pss_cons (ps_if (PW.pt (pw_or (pt_not (pt_val (pe_callB call_isi (by rfl) T.n_isinstance (by decide +kernel) (pa_cons (pv 1) (pa_cons (pe_bltn (v := .ty "tuple") (by rfl) T.n_tuple (by decide +kernel) rfl) pa_nil))))) (pw_or1 (pt_cmpR op_ne (pe_callB call_len_seq (by rfl) T.n_len (by decide +kernel) (pa_cons (pv 1) pa_nil)) pe_int (nomark _)))))
 (pss_one (ps_ret pe_bl))
 pss_nil)
 (pss_one (ps_if (PW.pt (pw_or (pt_not (pt_val (pe_callD D_is_name (hr.mono (by decide)) pass0 (pa_cons (pe_ix ix_tup (pv 1) pe_int (fun _ _ => rfl)) pa_nil)))) (pw_or1 (pt_not (pt_val (pe_callD D_is_within (hr.mono (by decide)) pass0 (pa_cons (pe_ix ix_tup (pv 1) pe_int (fun _ _ => rfl)) (pa_cons pe_int (pa_cons (pe_gInt (by rfl) T.g_MAX_OFFSET) pa_nil)))))))))
 (pss_one (ps_ret pe_bl))
 pss_nil))))
 (pss_one (ps_ret (pe_callD D_is_ascending (hr.mono (by decide)) pass0 (pa_cons (pv 0) pa_nil)))))), ?_⟩
  by_cases c : kd d = "tuple"
  · obtain ⟨ds, rfl⟩ := kd_tup c
    have hl := okV_len hv
    refine q_ifD s (b := false) (et_is (et_not (et_B (ev_isTup (evd_var rfl hd)))) rfl) (fun z => by cases z) (fun _ H1 x1 => ?_)
    dsimp only [tNext]
    refine Lf.q_forT (ds := ds) (s.trans x1) (evd_var rfl hd) fun G2 H2 r2 => ?_
    have hd2 := hd.up r2.g
    have x2 : Ex H H2 := x1.trans r2.h
    refine ⟨fun i σ' H' => (∃ u, σ' = [some v, u]) ∧ Ex H2 H' ∧ ∀ j d, j < i → ds[j]? = some d → isUse d = true, ⟨⟨_, rfl⟩, Ex.refl _, fun j d hj => absurd hj (Nat.not_lt_zero _)⟩, ?_, ?_, ?_⟩
    · rintro i σ' H' ⟨_, y, _⟩
      exact r2.s.trans y
    · rintro i d x σ' H' hdi hdv ⟨⟨u, rfl⟩, y, before⟩
      have sy := r2.s.trans y
      have no : isUse d = false → ∀ H3, Ex H' H3 → Q (.bl false) H3 := fun e H3 x3 => by
        have : isUs (.tuple ds) = false := by
          show (ds.all isUse && ascD ds) = false
          rw [List.all_eq_false.mpr ⟨d, List.mem_of_getElem? hdi, by rw [e]; decide⟩]
          rfl
        rw [this] at k
        exact k _ ((x2.trans y).trans x3)
      show tSeq _ _ _ [some v, some x] H'
      by_cases ct : kd d = "tuple" ∧ ∃ n o, d = .tuple [n, o]
      · obtain ⟨_, n, o, rfl⟩ := ct
        have i0 : EvD (tOp (rIxT K) (tVar 1) (tC (.int 0))) [some v, some x] G2 n := evd_ixT (evd_var rfl hdv) ev_c (atI_nat (j := 0) rfl)
        have i1 : EvD (tOp (rIxT K) (tVar 1) (tC (.int 1))) [some v, some x] G2 o := evd_ixT (evd_var rfl hdv) ev_c (atI_nat (j := 1) rfl)
        refine q_ifD sy (b := false) (et_is (et_or (b := false) (et_not (et_B (ev_isTup (evd_var rfl hdv)))) fun _ => et_test (ev_neI (ev_lenT (evd_var rfl hdv)) ev_c)) rfl) (fun z => by cases z) (fun _ H3 x3 => ?_)
        refine s_ifD (sy.trans x3) (b := !(isUse (.tuple [n, o]))) (et_is (et_or (et_not (et_B (ev_callB i0))) fun _ => et_not (et_B (ev_callW i1 ev_c ev_c))) ?_) (fun hb H4 x4 => no (by simpa using hb) _ (x3.trans x4)) (fun hb H4 x4 => ⟨⟨_, rfl⟩, (y.trans x3).trans x4, fun j e hj he => ?_⟩)
        · show (!isNm n || !within 0 3 o) = !(isNm n && within 0 3 o)
          rw [Bool.not_and]
        · rcases Nat.lt_or_eq_of_le (Nat.le_of_lt_succ hj) with h | h
          · exact before j e h he
          · rw [h, hdi] at he
            rw [← Option.some.inj he]
            simpa using hb
      · have nu : isUse d = false := by
          cases d with
          | tuple es =>
            unfold isUse
            split
            · rename_i n o heq
              exact absurd ⟨rfl, n, o, heq⟩ ct
            · rfl
          | _ => rfl
        refine q_ifD sy (b := true) ?_ (fun _ H3 x3 => no nu _ x3) (fun z => by cases z)
        by_cases c2 : kd d = "tuple"
        · obtain ⟨es, rfl⟩ := kd_tup c2
          refine et_is (et_or (b := true) (et_not (et_B (ev_isTup (evd_var rfl hdv)))) fun _ => et_is (et_test (ev_neI (ev_lenT (evd_var rfl hdv)) ev_c)) ?_) (Bool.or_true _)
          have : ¬ ((es.length : Int) = 2) := fun z => by
            have z : es.length = 2 := by omega
            match es, z with
            | [a, b], _ => exact ct ⟨rfl, a, b, rfl⟩
          rw [decide_eq_false this]
          rfl
        · exact et_orT (et_is (et_not (et_B (ev_isTup (evd_var rfl hdv)))) (by rw [beq_eq_false_iff_ne.mpr c2]; rfl))
    · rintro σ' H' ⟨⟨u, rfl⟩, y, all⟩
      have all : ∀ d ∈ ds, isUse d = true := fun d hd => by
        obtain ⟨i, hi, rfl⟩ := List.getElem_of_mem hd
        exact all i _ hi (List.getElem?_eq_getElem hi)
      have e : isUs (.tuple ds) = ascD ds := by
        show (ds.all isUse && ascD ds) = _
        rw [List.all_eq_true.mpr all]
        rfl
      rw [e] at k
      obtain ⟨ks, rfl, hk⟩ := uses_keys all
      exact s_retD (r2.s.trans y) (evd_callO (e := .bool (ascD (ks.map tupK))) (evd_var rfl hd2) (by unfold fAsc; dsimp only; rw [if_pos (uses_cmp hk (by rw [List.length_map] at hl; exact hl))])) (fun v' G' H'' r hd' => by rw [hd'.bl_]; exact k _ ((x2.trans y).trans r.h))
  · refine q_ifD s (b := true) (et_is (et_not (et_B (ev_isTup (evd_var rfl hd)))) (by rw [beq_eq_false_iff_ne.mpr c]; rfl)) (fun _ H1 x1 => ?_) (fun z => by cases z)
    have : isUs d = false := by cases d <;> (first | rfl | exact absurd rfl c)
    rw [this] at k
    exact k H1 x1
theorem ok_is_pattern (T : Txt K mg) (D : Df K mg "is_pattern" s_is_pattern) (D_is_name : DefOk P w K mg base CX0 1 "is_name" ["value"] (spB isNm)) (D_is_within : DefOk P w K mg base CX0 3 "is_within" ["value", "low", "high"] spW) (D_is_shape : DefOk P w K mg base CX0 8 "is_shape" ["value"] (spB isSh))
    (D_are_uses : DefOk P w K mg base CX0 4 "are_uses" ["value"] (spO (fV isUs))) : DefOk P w K mg base CX0 9 "is_pattern" ["value"] (spO (fV isPat)) := by
  refine D.ok sc_is_pattern (fun _ _ _ _ _ _ us hl => match us, hl with | [_], _ => rfl) (fun vs H Q E h => spO_len h) (fun f cdv A outer s H vs Q E hr h => ?_)
  obtain ⟨G, v, d, rfl, s, hd, hv, k⟩ := spV_of h
  refine ⟨_, (pss_cons (ps_if (PW.pt (pw_or (pt_not (pt_val (pe_callB call_isi (by rfl) T.n_isinstance (by decide +kernel) (pa_cons (pv 0) (pa_cons (pe_bltn (v := .ty "tuple") (by rfl) T.n_tuple (by decide +kernel) rfl) pa_nil))))) (pw_or (pt_cmpR op_ne (pe_callB call_len_seq (by rfl) T.n_len (by decide +kernel) (pa_cons (pv 0) pa_nil)) pe_int (nomark _)) (pw_or1 (pt_not (pt_val (pe_callD D_is_name (hr.mono (by decide)) pass0 (pa_cons (pe_ix ix_tup (pv 0) pe_int (fun _ _ => rfl)) pa_nil))))))))
 (pss_one (ps_ret pe_bl))
 pss_nil)
 (pss_cons (ps_if (PW.pt (pw_or (pt_not (pt_val (pe_callD D_is_shape (hr.mono (by decide)) pass0 (pa_cons (pe_ix ix_tup (pv 0) pe_int (fun _ _ => rfl)) pa_nil)))) (pw_or (pt_cmpR (op_eqS hr.units0) (pe_ix ix_tup (pe_ix ix_tup (pv 0) pe_int (fun _ _ => rfl)) pe_int (fun _ _ => rfl)) (pe_gStr (by rfl) T.g_HOLE) (nomark _)) (pw_or1 (pt_not (pt_val (pe_callD D_is_within (hr.mono (by decide)) pass0 (pa_cons (pe_ix ix_tup (pv 0) pe_int (fun _ _ => rfl)) (pa_cons pe_int (pa_cons (pe_gInt (by rfl) T.g_MAX_TICKS) pa_nil))))))))))
 (pss_one (ps_ret pe_bl))
 pss_nil)
 (pss_one (ps_ret (pe_and (pe_callD D_is_within (hr.mono (by decide)) pass0 (pa_cons (pe_ix ix_tup (pv 0) pe_int (fun _ _ => rfl)) (pa_cons pe_int (pa_cons (pe_gInt (by rfl) T.g_MAX_COST) pa_nil)))) (pe_one (pe_callD D_are_uses (hr.mono (by decide)) pass0 (pa_cons (pe_ix ix_tup (pv 0) pe_int (fun _ _ => rfl)) pa_nil)))))))), ?_⟩
  by_cases c : ∃ n s t c u, d = .tuple [n, s, t, c, u]
  · obtain ⟨dn, ds, dt, dc, du, rfl⟩ := c
    have i0 : EvD (tOp (rIxT K) (tVar 0) (tC (.int 0))) (start ["value"] [v]) G dn := evd_ixT (evd_var rfl hd) ev_c (atI_nat (j := 0) rfl)
    have i1 : EvD (tOp (rIxT K) (tVar 0) (tC (.int 1))) (start ["value"] [v]) G ds := evd_ixT (evd_var rfl hd) ev_c (atI_nat (j := 1) rfl)
    have i2 : EvD (tOp (rIxT K) (tVar 0) (tC (.int 2))) (start ["value"] [v]) G dt := evd_ixT (evd_var rfl hd) ev_c (atI_nat (j := 2) rfl)
    have i3 : EvD (tOp (rIxT K) (tVar 0) (tC (.int 3))) (start ["value"] [v]) G dc := evd_ixT (evd_var rfl hd) ev_c (atI_nat (j := 3) rfl)
    have i4 : EvD (tOp (rIxT K) (tVar 0) (tC (.int 4))) (start ["value"] [v]) G du := evd_ixT (evd_var rfl hd) ev_c (atI_nat (j := 4) rfl)
    have hu : okV du = true := okV_of (okV_at hv du (by simp))
    refine q_ifD s (b := !isNm dn) (et_is (et_or (b := !isNm dn) (et_not (et_B (ev_isTup (evd_var rfl hd)))) fun _ => et_is (et_or (b := !isNm dn) (et_test (ev_neI (ev_lenT (evd_var rfl hd)) ev_c)) fun _ => et_not (et_B (ev_callB i0))) rfl) rfl) (fun hb H1 x1 => ?_) (fun hb H1 x1 => ?_)
    · have : isNm dn = false := by simpa using hb
      unfold isPat at k
      dsimp only at k
      rw [this] at k
      exact k _ x1
    have hn : isNm dn = true := by simpa using hb
    unfold isPat at k
    dsimp only at k
    rw [hn, Bool.true_and] at k
    dsimp only [tNext]
    by_cases c1 : isSh ds = true
    · obtain ⟨sw, sr, rfl⟩ : ∃ sw sr, ds = .tuple (sw :: sr) := by
        cases ds with
        | tuple es =>
          cases es with
          | nil => cases c1
          | cons a b => exact ⟨a, b, rfl⟩
        | _ => cases c1
      rw [c1, Bool.true_and, show firstD (.tuple (sw :: sr)) = sw from rfl] at k
      have j0 : EvD (tOp (rIxT K) (tOp (rIxT K) (tVar 0) (tC (.int 1))) (tC (.int 0))) (start ["value"] [v]) G sw := evd_ixT i1 ev_c (atI_nat (j := 0) rfl)
      refine q_ifD (s.trans x1) (b := !((!isS "hole" sw) && within 1 4 dt)) (et_is (et_or (et_not (et_B (ev_callB i1))) fun _ => et_or (et_test (ev_eqS j0 ev_c)) fun _ => et_not (et_B (ev_callW i2 ev_c ev_c))) ?_) (fun hb2 H2 x2 => ?_) (fun hb2 H2 x2 => ?_)
      · rw [c1]
        show (isS "hole" sw || !within 1 4 dt) = _
        cases isS "hole" sw <;> rfl
      · have : ((!isS "hole" sw) && within 1 4 dt) = false := by rw [Bool.not_eq_true'] at hb2; exact hb2
        rw [← Bool.and_assoc, this] at k
        exact k _ (x1.trans x2)
      · have : ((!isS "hole" sw) && within 1 4 dt) = true := by rw [Bool.not_eq_false'] at hb2; exact hb2
        rw [← Bool.and_assoc, this, Bool.true_and] at k
        exact Ev.ret ((s.trans x1).trans x2) (ev_andV (ev_callW i3 ev_c ev_c) fun _ => ev_callV i4 hu) (fun H3 x3 => k _ ((x1.trans x2).trans x3))
    · have c1 : isSh ds = false := by simpa using c1
      rw [c1] at k
      exact q_ifD (s.trans x1) (b := true) (et_orT (et_is (et_not (et_B (ev_callB i1))) (by rw [c1]; rfl))) (fun _ H2 x2 => k _ (x1.trans x2)) (fun z => by cases z)
  · have np : isPat d = false := by
      unfold isPat
      split
      · rename_i n s t c' u
        exact absurd ⟨n, s, t, c', u, rfl⟩ c
      · rfl
    rw [np] at k
    refine q_ifD s (b := true) ?_ (fun _ H1 x1 => k _ x1) (fun z => by cases z)
    by_cases c2 : kd d = "tuple"
    · obtain ⟨es, rfl⟩ := kd_tup c2
      refine et_is (et_or (b := true) (et_not (et_B (ev_isTup (evd_var rfl hd)))) fun _ => et_orT (et_is (et_test (ev_neI (ev_lenT (evd_var rfl hd)) ev_c)) ?_)) (Bool.or_true _)
      have : ¬ ((es.length : Int) = 5) := fun z => by
        have z : es.length = 5 := by omega
        match es, z with
        | [a, b, c', d', e], _ => exact c ⟨a, b, c', d', e, rfl⟩
      rw [decide_eq_false this]
      rfl
    · exact et_orT (et_is (et_not (et_B (ev_isTup (evd_var rfl hd)))) (by rw [beq_eq_false_iff_ne.mpr c2]; rfl))
end
end My
set_option maxHeartbeats 4000000
/-! The law's own word for a pattern is the program's; plain -/
namespace Tr
open PySem Lf L2
def frm (a b : Int) : PyData → Bool
  | .int i => decide (a ≤ i) && decide (i ≤ b)
  | _ => false
theorem frm_within {a b : Int} (ha : -lim < a) (hb : b < lim) (d : PyData) : frm a b d = within a b d := by
  cases d with
  | int i =>
    show (decide (a ≤ i) && decide (i ≤ b)) = ((decide (-lim < i) && decide (i < lim)) && (decide (a ≤ i) && decide (i ≤ b)))
    rw [Bool.eq_iff_iff]
    simp only [Bool.and_eq_true, decide_eq_true_eq]
    constructor
    · intro h; exact ⟨⟨by omega, by omega⟩, h⟩
    · intro h; exact h.2
  | _ => rfl
def isUseL : PyData → Bool
  | .tuple [n, o] => isNm n && frm 0 3 o
  | _ => false
theorem isUseL_eq (d : PyData) : isUseL d = isUse d := by
  unfold isUseL isUse
  split
  · rw [frm_within (by decide +kernel) (by decide +kernel)]
  · rename_i h
    first
      | rfl
      | (split
         · rename_i n o
           exact absurd rfl (h n o)
         · rfl)
def holeB (d : PyData) : Bool := PyData.eqv d (.tuple [.str "hole"])
theorem eqv_str {x : Str} {w : PyData} : PyData.eqv w (.str x) = isS x w := by
  cases w with
  | str y =>
    show (y == x) = decide (y = x)
    rw [Bool.eq_iff_iff, beq_iff_eq, decide_eq_true_iff]
  | _ => rfl
theorem eqv_str' {x : Str} {w : PyData} : PyData.eqv (.str x) w = isS x w := by
  cases w with
  | str y =>
    show (x == y) = decide (y = x)
    rw [Bool.eq_iff_iff, beq_iff_eq, decide_eq_true_iff]
    exact ⟨fun h => h.symm, fun h => h.symm⟩
  | _ => rfl
theorem eqv_one {x : Str} {w : PyData} {r : List PyData} : PyData.eqv (.tuple (w :: r)) (.tuple [.str x]) = (isS x w && r.isEmpty) := by
  show (PyData.eqv w (.str x) && PyData.eqvAll r []) = _
  rw [eqv_str]
  cases r <;> rfl
theorem eqv_one' {x : Str} {w : PyData} {r : List PyData} : PyData.eqv (.tuple [.str x]) (.tuple (w :: r)) = (isS x w && r.isEmpty) := by
  show (PyData.eqv (.str x) w && PyData.eqvAll [] r) = _
  rw [eqv_str']
  cases r <;> rfl
def isRl (n : Nat) : PyData → Bool
  | .tuple [m, s, t, c, u] => isNm m && (!(decide (4 < sz n true s) || holeB s) && (frm 1 4 t && (frm 0 20 c && isUs u)))
  | _ => false
theorem rl_no {n : Nat} {d : PyData} (c : ¬ ∃ n s t c u, d = .tuple [n, s, t, c, u]) : isRl n d = false := by
  unfold isRl
  split
  · rename_i m s t c' u
    exact absurd ⟨m, s, t, c', u, rfl⟩ c
  · rfl
theorem rl_pat (n : Nat) (d : PyData) (hd : d.depth ≤ n + 1) : isRl n d = isPat d := by
  unfold isRl isPat
  split
  · rename_i m s t c u
    try dsimp only
    rw [frm_within (by decide +kernel) (by decide +kernel), frm_within (by decide +kernel) (by decide +kernel)]
    have hs : s.depth ≤ n := by
      have := depthAll_mem (show s ∈ [m, s, t, c, u] by simp)
      have h2 : PyData.depthAll [m, s, t, c, u] + 1 ≤ n + 1 := hd
      omega
    have e := sh_sz n s hs
    congr 1
    have key : (!(decide (4 < sz n true s) || holeB s)) = (isSh s && !(isS "hole" (firstD s))) := by
      rw [Bool.not_or, e]
      have e1 : (!decide (4 < sz n true s)) = decide (sz n true s ≤ 4) := by rw [← decide_not, decide_eq_decide]; omega
      rw [e1]
      cases h : decide (sz n true s ≤ 4) with
      | false => rfl
      | true =>
        rw [Bool.true_and, Bool.true_and]
        rw [h] at e
        congr 1
        cases s with
        | tuple ds =>
          cases ds with
          | nil => cases e
          | cons w r =>
            show holeB (.tuple (w :: r)) = isS "hole" w
            unfold holeB
            rw [eqv_one]
            cases hw : isS "hole" w with
            | false => rfl
            | true =>
              have : isTs 5 (.tuple (w :: r)) = true := by
                unfold isSh at e
                dsimp only at e
                rw [if_neg (fun z => by rw [show (w :: r).getD 0 .none = w from rfl, isS_other hw (by decide)] at z; cases z.2), Bool.and_eq_true] at e
                exact e.1
              rw [isTs_cons, hw, Bool.true_or, if_pos rfl] at this
              rw [this]
              rfl
        | _ => cases e
    rw [key, Bool.and_assoc]
  · rename_i h
    first
      | rfl
      | (split
         · rename_i a b c d e
           exact absurd rfl (h a b c d e)
         · rfl)
end Tr
set_option maxHeartbeats 4000000
namespace My
open PySem L2 Lf Evl Tr
abbrev s_law_is_word : Stmt := top 33
theorem sc_law_is_word : FnScope ["_law_value", "_law_letter"] ["_law_value"] (defScope s_law_is_word) := ⟨rfl, rfl, rfl, by decide +kernel, rfl, by decide +kernel, by decide +kernel⟩
abbrev s_law_size : Stmt := top 34
theorem sc_law_size : FnScope ["_law_value", "_law_is_top", "_law_one_here"] ["_law_value", "_law_is_top"] (defScope s_law_size) := ⟨rfl, rfl, rfl, by decide +kernel, rfl, by decide +kernel, by decide +kernel⟩
abbrev s_law_is_from : Stmt := top 35
theorem sc_law_is_from : FnScope ["_law_value", "_law_low", "_law_high"] ["_law_value", "_law_low", "_law_high"] (defScope s_law_is_from) := ⟨rfl, rfl, rfl, by decide +kernel, rfl, by decide +kernel, by decide +kernel⟩
abbrev s_law_are_uses : Stmt := top 36
theorem sc_law_are_uses : FnScope ["_law_value", "_law_one_here"] ["_law_value"] (defScope s_law_are_uses) := ⟨rfl, rfl, rfl, by decide +kernel, rfl, by decide +kernel, by decide +kernel⟩
abbrev s_law_is_rule : Stmt := top 37
theorem sc_law_is_rule : FnScope ["_law_value"] ["_law_value"] (defScope s_law_is_rule) := ⟨rfl, rfl, rfl, by decide +kernel, rfl, by decide +kernel, by decide +kernel⟩
def okZ (n : Nat) (d : PyData) : Bool := decide (0 < n) && (okV d && (!(kd d == "tuple") || decide (d.depth < n)))
def fZ (n : Nat) : List PyData → Option PyData
  | [d, .bool top] => if okZ n d = true then some (.int (sz n top d)) else none
  | _ => none
theorem fZ_len {n : Nat} (ds : List PyData) (d : PyData) (h : fZ n ds = some d) : ds.length = 2 := by
  unfold fZ at h
  split at h
  · rfl
  · cases h
theorem evd_callZ {n : Nat} {σ : L2.St} {G : Hp} {ta tb : TE} {d : PyData} {top : Bool} {E : XK} (h : EvD ta σ G d) (hb : Ev tb σ G (.bl top)) (hz : okZ n d = true) : EvD (tCallD (spF (fZ n)) E (tCons ta (tCons tb tNil))) σ G (.int (sz n top d)) := evd_call (evd_cons h (evd_cons (evd_bl hb) evd_nil)) (by unfold fZ; dsimp only; rw [if_pos hz])
theorem okZ_at {n : Nat} {ds : List PyData} (h : okZ (n + 1) (.tuple ds) = true) {d : PyData} (hd : d ∈ ds) : okZ n d = true := by
  unfold okZ at h ⊢
  simp only [Bool.and_eq_true, Bool.or_eq_true, decide_eq_true_eq] at h ⊢
  obtain ⟨_, h1, h2⟩ := h
  have h2 : (PyData.tuple ds).depth < n + 1 := h2.elim (fun z => absurd z (by show ¬ (!true) = true; decide)) id
  have h3 : PyData.depthAll ds + 1 < n + 1 := h2
  have := depthAll_mem hd
  exact ⟨by omega, okV_of (okV_at h1 d hd), .inr (by omega)⟩
section
variable {K : PySem.W.Frag} {σ : L2.St} {G : Hp} {te : TE} {ds : List PyData}
theorem evd_listOf (h : EvD te σ G (.tuple ds)) : EvD (tCB (fun xs H Q => ∃ p ys, xs = [V.ref p] ∧ (SqL K H p ys ∨ SqT K H p ys) ∧ ∀ l, H l = none → Q (.ref l) (upd H l (.lst ys))) (tCons te tNil)) σ G (.list ds) := fun G1 H1 x s Q q => h G1 H1 x s _ fun v G2 H2 r hd => by
  obtain ⟨a, xs, rfl, e, hs⟩ := hd.tup_
  refine ⟨a, xs, rfl, .inr (SqT.of (r.s _ _ e)), fun l hl => ?_⟩
  have n := Gr.new (o := .lst xs) r.s hl rfl
  exact q (.ref l) _ _ (r.trans n) (.lst upd_same (hs.up n.g))
end
theorem okD_nm {x : Str} (h : isNm (.str x) = true) : okD (.str x) = true := by
  unfold isNm at h
  simp only [Bool.and_eq_true, decide_eq_true_eq] at h
  obtain ⟨⟨h1, h2⟩, h3⟩ := h
  show (PyData.strOk x && decide (x.length ≤ 1000)) = true
  rw [decide_eq_true (by omega), Bool.and_true]
  unfold lets at h3
  unfold PyData.strOk
  rw [← Array.all_toList, List.all_eq_true]
  intro c hc
  have := List.all_eq_true.mp h3 c hc
  rw [mem_letters] at this
  unfold inz at this
  simp only [Bool.and_eq_true, decide_eq_true_eq] at this
  exact decide_eq_true (by omega)
def spFr : Sp := spF fun ds => match ds with
  | [d, .int a, .int b] => some (.bool (frm a b d))
  | _ => none
section
variable {P : Program} {w : World} {K : PySem.W.Frag} {mg : Str → Option Value} {base : Heap}
theorem ok_law_is_word (T : Txt K mg) (D : Df K mg "_law_is_word" s_law_is_word) : DefOk P w K mg base CX0 1 "_law_is_word" ["_law_value"] (spB isNm) := by
  refine D.ok sc_law_is_word (fun _ _ _ _ _ _ us hl => match us, hl with | [_], _ => rfl) (fun vs H Q E h => spF_len f1_len h) (fun f cdv A outer s H vs Q E hr h => ?_)
  obtain ⟨G, v, d, rfl, s, hd, k⟩ := spB_of h
  refine ⟨_, (pss_cons (ps_if (PW.pt (pw_or (pt_not (pt_val (pe_callB call_isi (by rfl) T.n_isinstance (by decide +kernel) (pa_cons (pv 0) (pa_cons (pe_bltn (v := .ty "str") (by rfl) T.n_str (by decide +kernel) rfl) pa_nil))))) (pw_or1 (pt_not (pt_chain op_le op_le pe_int (pe_callB call_len_str (by rfl) T.n_len (by decide +kernel) (pa_cons (pv 0) pa_nil)) pe_int)))))
 (pss_one (ps_ret pe_bl))
 pss_nil)
 (pss_one (ps_ret (pe_cmpR (op_eqEL hr.units0) (pe_lc (own := [("_law_letter", 1)]) (by rfl) sc_law_is_word.nd (pi_str (pv 0)) (blkOk_by (own := [("_law_letter", 1)]) (N := ["_law_value", "_law_letter"]) (sc := defScope s_law_is_word) (by decide +kernel)) (fun _ _ _ _ _ => (pg_name (i := 1) sc_law_is_word.nd rfl (Or.inl rfl))) (fun _ _ _ _ _ => (pts_one (pt_not (pt_chain op_leS op_leS pe_str (pv 1) pe_str)))) (fun _ _ _ _ _ => (pv 1))) (pe_lst pa_nil) (nomark _))))), ?_⟩
  by_cases c : kd d = "str"
  · obtain ⟨x, rfl⟩ := kd_str c
    have e1 : decide ((1 : Int) ≤ (x.length : Int)) = decide (1 ≤ x.length) := by rw [decide_eq_decide]; omega
    have e2 : decide ((x.length : Int) ≤ 8) = decide (x.length ≤ 8) := by rw [decide_eq_decide]; omega
    have e : isNm (.str x) = ((decide ((1 : Int) ≤ (x.length : Int)) && decide ((x.length : Int) ≤ 8)) && ((x.cps.toList.filter fun c => !inz c).map fun c => PyData.str (sgn1 c)).isEmpty) := by
      rw [isNm_str, lets_empty x (fun c => PyData.str (sgn1 c)), e1, e2]
    rw [e] at k
    refine q_ifD s (b := !(decide ((1 : Int) ≤ (x.length : Int)) && decide ((x.length : Int) ≤ 8))) (et_is (et_or (b := !(decide ((1 : Int) ≤ (x.length : Int)) && decide ((x.length : Int) ≤ 8))) (et_not (et_B (ev_isStr (evd_var rfl hd)))) fun _ => et_not (et_test (ev_chain ev_c (ev_lenS (evd_var rfl hd)) ev_c))) rfl) (fun hb H1 x1 => ?_) (fun hb H1 x1 => ?_)
    · rw [Bool.not_eq_true'] at hb
      rw [hb, Bool.false_and] at k
      exact k _ x1
    · rw [Bool.not_eq_false'] at hb
      rw [hb, Bool.true_and] at k
      refine Ev.ret (s.trans x1) (ev_eqEL (evd_lcS (fun c => !inz c) (fun c => .str (sgn1 c)) (evd_var rfl hd) (fun _ => rfl) (fun c _ => et_is (et_not (et_test (ev_chainS ev_c (ev_var rfl) ev_c))) ?_) (fun c _ _ => evd_str (ev_var rfl) (show 1 ≤ 1000 by decide)))) (fun H2 x2 => k _ (x1.trans x2))
      have h1 : (Str.ofString "a").cps.toList = [97] := by decide +kernel
      have h2 : (Str.ofString "z").cps.toList = [122] := by decide +kernel
      have h3 : (sgn1 c).cps.toList = [c] := rfl
      rw [h1, h2, h3, sg_lt, sg_lt]
      unfold inz
      congr 1
      congr 1
      · rw [← decide_not, decide_eq_decide]; omega
      · rw [← decide_not, decide_eq_decide]; omega
  · have nm : isNm d = false := by cases d <;> (first | rfl | exact absurd rfl c)
    rw [nm] at k
    exact q_ifD s (b := true) (et_orT (et_is (et_not (et_B (ev_isStr (evd_var rfl hd)))) (by rw [beq_eq_false_iff_ne.mpr c]; rfl))) (fun _ H1 x1 => k H1 x1) (fun z => by cases z)
theorem ok_law_sz0 (D : Df K mg "_law_size" s_law_size) : DefOk P w K mg base CX0 1 "_law_size" ["_law_value", "_law_is_top"] (spF (fZ 0)) := by
  refine D.ok sc_law_size (fun _ _ _ _ _ _ us hl => match us, hl with | [_, _], _ => rfl) (fun vs H Q E h => spF_len fZ_len h) (fun f cdv A outer s H vs Q E hr h => ?_)
  obtain ⟨G, ds, d, s, h2, h3, k⟩ := h
  unfold fZ at h3
  split at h3
  · split at h3
    · rename_i hz
      exact absurd hz (by unfold okZ; simp)
    · cases h3
  · cases h3
theorem ok_law_szS (T : Txt K mg) (D : Df K mg "_law_size" s_law_size) {n l : Nat} (hl3 : 1 ≤ l) (D_law_size : DefOk P w K mg base CX0 l "_law_size" ["_law_value", "_law_is_top"] (spF (fZ n))) (D_law_is_word : DefOk P w K mg base CX0 1 "_law_is_word" ["_law_value"] (spB isNm)) :
    DefOk P w K mg base CX0 (l + 1) "_law_size" ["_law_value", "_law_is_top"] (spF (fZ (n + 1))) := by
  refine D.ok sc_law_size (fun _ _ _ _ _ _ us hl => match us, hl with | [_, _], _ => rfl) (fun vs H Q E h => spF_len fZ_len h) (fun f cdv A outer s H vs Q E hr h => ?_)
  obtain ⟨G, dds, dd, s, h2, h3, k⟩ := h
  unfold fZ at h3
  split at h3
  rotate_left
  · cases h3
  rename_i d top
  split at h3
  rotate_left
  · cases h3
  rename_i hz
  cases h3
  cases h2 with
  | @cons v _ _ _ hd t =>
  cases t with
  | cons ht t =>
  cases t
  rw [ht.bl_]
  have k : ∀ H', Ex H H' → Q (.int (sz (n + 1) top d)) H' := fun H' x => k _ G H' (Gr.keep s x) (.int _)
  refine ⟨_, (pss_cons (ps_if (PW.pt (pw_or (pt_not (pt_val (pe_callB call_isi (by rfl) T.n_isinstance (by decide +kernel) (pa_cons (pv 0) (pa_cons (pe_bltn (v := .ty "tuple") (by rfl) T.n_tuple (by decide +kernel) rfl) pa_nil))))) (pw_or1 (pt_cmpR (op_eqE hr.units0) (pv 0) (pe_tup pa_nil) (nomark _)))))
 (pss_one (ps_ret pe_int))
 pss_nil)
 (pss_cons (ps_if (pt_cmpR (op_inDT (hu65 hr)) (pv 0) (pe_tup (pa_cons (pe_tup (pa_cons pe_str pa_nil)) (pa_cons (pe_tup (pa_cons pe_str pa_nil)) pa_nil))) (by rfl))
 (pss_one (ps_ret (pe_callTy call_int1 (by rfl) T.n_int (by decide +kernel) (pa_cons (pe_cmpR (op_eqD hr.units) (pv 0) (pe_tup (pa_cons pe_str pa_nil)) (nomark _)) pa_nil))))
 pss_nil)
 (pss_cons (ps_if (PW.pt (pw_and (pt_cmpR (op_eqS hr.units0) (pe_ix ix_tup (pv 0) pe_int (fun _ _ => rfl)) pe_str (nomark _)) (pw_and (pt_val (pv 1)) (pw_and1 (pt_cmpR op_eq (pe_callB call_len_seq (by rfl) T.n_len (by decide +kernel) (pa_cons (pv 0) pa_nil)) pe_int (nomark _))))))
 (pss_one (ps_ret (pe_op op_add pe_int (pe_callD D_law_size (hr.mono (by omega)) pass0 (pa_cons (pe_ix ix_tup (pv 0) pe_int (fun _ _ => rfl)) (pa_cons pe_bl pa_nil))))))
 pss_nil)
 (pss_cons (ps_if (PW.pt (pw_or (pt_cmpR (op_neS hr.units0) (pe_ix ix_tup (pv 0) pe_int (fun _ _ => rfl)) pe_str (nomark _)) (pw_or (pt_not (pt_chain op_le op_le pe_int (pe_callB call_len_seq (by rfl) T.n_len (by decide +kernel) (pa_cons (pv 0) pa_nil)) pe_int)) (pw_or1 (pt_not (pt_val (pe_callD D_law_is_word (hr.mono (by omega)) pass0 (pa_cons (pe_ix ix_tup (pv 0) pe_int (fun _ _ => rfl)) pa_nil))))))))
 (pss_one (ps_ret pe_int))
 pss_nil)
 (pss_one (ps_ret (pe_op op_add pe_int (pe_callB (cr_sum rfl) (by rfl) T.n_sum (by decide +kernel) (pa_cons (pe_lc (own := [("_law_one_here", 2)]) (by rfl) sc_law_size.nd (pi_tup (pe_slice sl_tupA (pv 0) (po_some pe_int) po_none)) (blkOk_by (own := [("_law_one_here", 2)]) (N := ["_law_value", "_law_is_top", "_law_one_here"]) (sc := defScope s_law_size) (by decide +kernel)) (fun _ _ _ _ _ => (pg_name (i := 2) sc_law_size.nd rfl (Or.inl rfl))) (fun _ _ _ _ _ => pts_nil) (fun _ _ _ _ _ => (pe_callD D_law_size (hr.mono (by omega)) pass0 (pa_cons (pv 2) (pa_cons pe_bl pa_nil))))) pa_nil))))))))), ?_⟩
  by_cases c : kd d = "tuple"
  · obtain ⟨ds, rfl⟩ := kd_tup c
    match ds, hd, k, hz with
    | [], hd, k, hz =>
      exact q_ifD s (et_or (b := true) (et_not (et_B (ev_isTup (evd_var rfl hd)))) fun _ => et_test (ev_eqET (evd_var rfl hd))) (fun _ H1 x1 => k H1 x1) (fun z => by cases z)
    | dw :: r, hd, k, hz =>
      have hv : ncB (.tuple (dw :: r)) = true := by
        have := (Bool.and_eq_true_iff.mp (Bool.and_eq_true_iff.mp hz).2).1
        exact this
      have nc := ncB_iff.mp hv
      have fl := okD_flat _ nc.ok
      have shp := nc.shaped (by decide)
      have i0 : EvD (tOp (rIxT K) (tVar 0) (tC (.int 0))) (start ["_law_value", "_law_is_top", "_law_one_here"] [v, .bl top]) G dw := evd_ixT (evd_var rfl hd) ev_c (atI_nat (j := 0) rfl)
      have len : ((dw :: r).length : Int) = r.length + 1 := by rw [List.length_cons]; omega
      have one : ∀ x : Str, x.length ≤ 1000 → EvD (tTup (tCons (tC (.str x)) tNil)) (start ["_law_value", "_law_is_top", "_law_one_here"] [v, .bl top]) G (.tuple [.str x]) := fun x hx => evd_tup (evd_cons (evd_str ev_c hx) evd_nil) (by simp)
      rw [sz_cons] at k
      refine q_ifD s (b := false) (et_or (b := false) (et_not (et_B (ev_isTup (evd_var rfl hd)))) fun _ => et_test (ev_eqET (evd_var rfl hd))) (fun z => by cases z) (fun _ H1 x1 => ?_)
      dsimp only [tNext]
      refine q_ifD (s.trans x1) (b := isHL dw r) (et_is (et_test (ev_inDT (ds := [.tuple [.str "hole"], .tuple [.str "load"]]) (evd_var rfl hd) (evd_tup (evd_cons (one "hole" (by decide)) (evd_cons (one "load" (by decide)) evd_nil)) (by simp)) fl (by decide +kernel) shp (by decide +kernel))) ?_) (fun hb H2 x2 => ?_) (fun hb H2 x2 => ?_)
      · rw [List.any_cons, List.any_cons, List.any_nil, eqv_one', eqv_one', Bool.or_false]
        unfold isHL
        cases isS "hole" dw <;> cases isS "load" dw <;> cases r.isEmpty <;> rfl
      · rw [if_pos hb] at k
        refine Ev.ret ((s.trans x1).trans x2) (ev_is (ev_intB (ev_eqD (evd_var rfl hd) (one "load" (by decide)) fl (by decide +kernel) shp (by decide +kernel))) ?_) (fun H3 x3 => k _ ((x1.trans x2).trans x3))
        rw [eqv_one, (Bool.and_eq_true_iff.mp hb).2, Bool.and_true]
      rw [if_neg (by rw [hb]; decide)] at k
      have s2 := (s.trans x1).trans x2
      have x12 := x1.trans x2
      refine q_ifD s2 (b := isS "store" dw && (top && decide (r.length = 1))) (et_and (et_test (ev_eqS i0 ev_c)) fun _ => et_and (et_B (ev_var rfl)) fun _ => et_is (et_test (ev_eqI (ev_lenT (evd_var rfl hd)) ev_c)) (by rw [decide_eq_decide, len]; omega)) (fun hb2 H3 x3 => ?_) (fun hb2 H3 x3 => ?_)
      · rw [if_pos hb2] at k
        have hl1 : r.length = 1 := by
          have := (Bool.and_eq_true_iff.mp (Bool.and_eq_true_iff.mp hb2).2).2
          exact of_decide_eq_true this
        obtain ⟨d1, rfl⟩ : ∃ d1, r = [d1] := by
          match r, hl1 with
          | [a], _ => exact ⟨a, rfl⟩
        have i1 : EvD (tOp (rIxT K) (tVar 0) (tC (.int 1))) (start ["_law_value", "_law_is_top", "_law_one_here"] [v, .bl top]) G d1 := evd_ixT (evd_var rfl hd) ev_c (atI_nat (j := 1) rfl)
        exact Ev.ret (s2.trans x3) (ev_op ev_c (EvD.int_ (evd_callZ (top := false) i1 ev_c (okZ_at hz (by simp)))) rv_I0) (fun H4 x4 => k _ ((x12.trans x3).trans x4))
      rw [if_neg (by rw [hb2]; decide)] at k
      have s3 := s2.trans x3
      have x13 := x12.trans x3
      by_cases c2 : (isS "op" dw && (decide (1 ≤ r.length) && decide (r.length ≤ 4))) = true
      · obtain ⟨c3, c4⟩ := Bool.and_eq_true_iff.mp c2
        obtain ⟨c5, c6⟩ := Bool.and_eq_true_iff.mp c4
        have c5 := of_decide_eq_true c5
        have c6 := of_decide_eq_true c6
        obtain ⟨dn, ts, rfl⟩ : ∃ dn ts, r = dn :: ts := by
          match r, c5 with
          | a :: b, _ => exact ⟨a, b, rfl⟩
        have i1 : EvD (tOp (rIxT K) (tVar 0) (tC (.int 1))) (start ["_law_value", "_law_is_top", "_law_one_here"] [v, .bl top]) G dn := evd_ixT (evd_var rfl hd) ev_c (atI_nat (j := 1) rfl)
        rw [c3, c4, Bool.true_and, Bool.true_and, show (dn :: ts).getD 0 .none = dn from rfl, show (dn :: ts).drop 1 = ts from rfl] at k
        have cc : (decide ((2 : Int) ≤ ((dw :: dn :: ts).length : Int)) && decide (((dw :: dn :: ts).length : Int) ≤ 5)) = true := by
          rw [Bool.and_eq_true, decide_eq_true_eq, decide_eq_true_eq, len]
          omega
        refine q_ifD s3 (b := !isNm dn) (et_is (et_or (b := !isNm dn) (et_test (ev_neS i0 ev_c)) fun _ => et_is (et_or (b := !isNm dn) (et_not (et_test (ev_chain ev_c (ev_lenT (evd_var rfl hd)) ev_c))) fun _ => et_not (et_B (ev_callB i1))) ?_) ?_) (fun hb3 H4 x4 => ?_) (fun hb3 H4 x4 => ?_)
        · rw [cc]; rfl
        · rw [c3]; rfl
        · rw [Bool.not_eq_true'] at hb3
          rw [hb3, if_neg Bool.false_ne_true] at k
          exact k _ (x13.trans x4)
        · rw [Bool.not_eq_false'] at hb3
          rw [hb3, if_pos rfl] at k
          have h4 := c6
          rw [List.length_cons] at h4
          refine Ev.ret (s3.trans x4) (ev_op ev_c (ev_sumD (K := K) (is := ts.map fun t => sz n false t) (EvD.is (evd_lcT (ds := ts) (fun _ => true) (fun t => .int (sz n false t)) (EvD.is (evd_sl (evd_var rfl hd) (EvO.some_ ev_c) EvO.none_) ?_) (by omega) (fun _ => rfl) (fun d _ v G1 _ _ => et_yes (b := true)) (fun d hd' _ v G1 _ hv' => evd_callZ (top := false) (evd_var rfl hv') ev_c (okZ_at hz (List.mem_cons_of_mem _ (List.mem_cons_of_mem _ hd'))))) ?_)) rv_I0) (fun H5 x5 => k _ ((x13.trans x4).trans x5))
          · rw [show (2 : Int) = ((2 : Nat) : Int) from rfl, cutD_from]
            rfl
          · rw [filter_yes, List.map_map]
            rfl
      · have c2 : (isS "op" dw && (decide (1 ≤ r.length) && decide (r.length ≤ 4))) = false := by simpa using c2
        rw [← Bool.and_assoc, c2, Bool.false_and, if_neg Bool.false_ne_true] at k
        dsimp only [tNext]
        refine q_ifD s3 (b := true) ?_ (fun _ H4 x4 => ?_) (fun z => by cases z)
        rotate_left
        · exact k _ (x13.trans x4)
        cases c3 : isS "op" dw with
        | false => exact et_orT (et_is (et_test (ev_neS i0 ev_c)) (by rw [c3]; rfl))
        | true =>
          rw [c3, Bool.true_and] at c2
          refine et_is (et_or (b := true) (et_test (ev_neS i0 ev_c)) fun _ => et_orT (et_is (et_not (et_test (ev_chain ev_c (ev_lenT (evd_var rfl hd)) ev_c))) ?_)) (Bool.or_true _)
          have : (decide ((2 : Int) ≤ ((dw :: r).length : Int)) && decide (((dw :: r).length : Int) ≤ 5)) = (decide (1 ≤ r.length) && decide (r.length ≤ 4)) := by
            rw [len]
            congr 1
            · rw [decide_eq_decide]; omega
            · rw [decide_eq_decide]; omega
          rw [this, c2]
          rfl
  · have e : sz (n + 1) top d = 99 := by cases d <;> (first | rfl | exact absurd rfl c)
    rw [e] at k
    exact q_ifD s (b := true) (et_orT (et_is (et_not (et_B (ev_isTup (evd_var rfl hd)))) (by rw [beq_eq_false_iff_ne.mpr c]; rfl))) (fun _ H1 x1 => k H1 x1) (fun z => by cases z)
theorem ok_law_is_from (T : Txt K mg) (D : Df K mg "_law_is_from" s_law_is_from) : DefOk P w K mg base CX0 1 "_law_is_from" ["_law_value", "_law_low", "_law_high"] spFr := by
  refine D.ok sc_law_is_from (fun _ _ _ _ _ _ us hl => match us, hl with | [_, _, _], _ => rfl) (fun vs H Q E h => spF_len (fun ds d e => ?_) h) (fun f cdv A outer s H vs Q E hr h => ?_)
  · split at e
    · rfl
    · cases e
  obtain ⟨G, ds, d0, s, h2, h3, k⟩ := h
  dsimp only at h3
  split at h3
  · rename_i d a b
    cases h3
    cases h2 with
    | cons hd t =>
      cases t with
      | cons ha t =>
        cases t with
        | cons hb t =>
          cases t
          refine ⟨_, (pss_one (ps_ret (pe_and (pe_callB call_isi (by rfl) T.n_isinstance (by decide +kernel) (pa_cons (pv 0) (pa_cons (pe_bltn (v := .ty "int") (by rfl) T.n_int (by decide +kernel) rfl) pa_nil))) (pe_and (pe_not (pe_callB call_isi (by rfl) T.n_isinstance (by decide +kernel) (pa_cons (pv 0) (pa_cons (pe_bltn (v := .ty "bool") (by rfl) T.n_bool (by decide +kernel) rfl) pa_nil)))) (pe_one (pe_chain op_le op_le (pv 1) (pv 0) (pv 2))))))), ?_⟩
          have e : frm a b d = ((kd d == "int" || kd d == "bool") && (!(kd d == "bool") && frm a b d)) := by cases d <;> rfl
          rw [e] at k
          refine Ev.ret s (ev_andV (ev_isInt (evd_var rfl hd)) fun h1 => ev_andV (ev_notV (ev_isBool (evd_var rfl hd))) fun h2 => ?_) (fun H1 x1 => k _ G H1 (Gr.keep s x1) (.bl _))
          cases d with
          | int i =>
            rw [hd.int_, ha.int_, hb.int_]
            exact ev_chain (ev_var rfl) (ev_var rfl) (ev_var rfl)
          | bool b => cases h2
          | _ => cases h1
  · cases h3
theorem ev_callFr {σ : L2.St} {G : Hp} {te : TE} {d : PyData} {a b : Int} {ta tb : TE} {E : XK} (h : EvD te σ G d) (ha : Ev ta σ G (.int a)) (hb : Ev tb σ G (.int b)) : Ev (tCallD spFr E (tCons te (tCons ta (tCons tb tNil)))) σ G (.bl (frm a b d)) := EvD.bl_ (evd_call (evd_cons h (evd_cons (evd_int ha) (evd_cons (evd_int hb) evd_nil))) rfl)
def lenT : PyData → Nat
  | .tuple ds => ds.length
  | _ => 0
def fU (d : PyData) : Option PyData := if (okV d && decide (lenT d ≤ 60)) = true then some (.bool (isUs d)) else none
theorem ok_law_are_uses (T : Txt K mg) (D : Df K mg "_law_are_uses" s_law_are_uses) (D_law_is_word : DefOk P w K mg base CX0 1 "_law_is_word" ["_law_value"] (spB isNm)) (D_law_is_from : DefOk P w K mg base CX0 1 "_law_is_from" ["_law_value", "_law_low", "_law_high"] spFr) :
    DefOk P w K mg base CX0 2 "_law_are_uses" ["_law_value"] (spO fU) := by
  refine D.ok sc_law_are_uses (fun _ _ _ _ _ _ us hl => match us, hl with | [_], _ => rfl) (fun vs H Q E h => spO_len h) (fun f cdv A outer s H vs Q E hr h => ?_)
  obtain ⟨G, v, d, e0, rfl, s, hd, he, k⟩ := spO_of h
  unfold fU at he
  split at he
  rotate_left
  · cases he
  rename_i hc
  cases he
  have k : ∀ H', Ex H H' → Q (.bl (isUs d)) H' := fun H' x => k _ G H' (Gr.keep s x) (.bl _)
  obtain ⟨hv, hc⟩ := Bool.and_eq_true_iff.mp hc
  refine ⟨_, (pss_cons (ps_if (pt_not (pt_val (pe_callB call_isi (by rfl) T.n_isinstance (by decide +kernel) (pa_cons (pv 0) (pa_cons (pe_bltn (v := .ty "tuple") (by rfl) T.n_tuple (by decide +kernel) rfl) pa_nil)))))
 (pss_one (ps_ret pe_bl))
 pss_nil)
 (pss_cons (ps_for PassesOwn.never rfl (pi_tup (pv 0)) (pg_name (i := 1) sc_law_are_uses.nd rfl (Or.inl rfl))
 (pss_one (ps_if (PW.pt (pw_or (pt_not (pt_val (pe_callB call_isi (by rfl) T.n_isinstance (by decide +kernel) (pa_cons (pv 1) (pa_cons (pe_bltn (v := .ty "tuple") (by rfl) T.n_tuple (by decide +kernel) rfl) pa_nil))))) (pw_or (pt_cmpR op_ne (pe_callB call_len_seq (by rfl) T.n_len (by decide +kernel) (pa_cons (pv 1) pa_nil)) pe_int (nomark _)) (pw_or (pt_not (pt_val (pe_callD D_law_is_word (hr.mono (by decide)) pass0 (pa_cons (pe_ix ix_tup (pv 1) pe_int (fun _ _ => rfl)) pa_nil)))) (pw_or1 (pt_not (pt_val (pe_callD D_law_is_from (hr.mono (by decide)) pass0 (pa_cons (pe_ix ix_tup (pv 1) pe_int (fun _ _ => rfl)) (pa_cons pe_int (pa_cons pe_int pa_nil)))))))))))
 (pss_one (ps_ret pe_bl))
 pss_nil)))
 (pss_one (ps_ret (pe_cmpR (op_eqD hr.units) (pe_sortSet hr (by rfl) T.n_sorted (by rfl) T.n_set (pv 0)) (pe_callTy call_list_of (by rfl) T.n_list (by decide +kernel) (pa_cons (pv 0) pa_nil)) (nomark _)))))), ?_⟩
  by_cases c : kd d = "tuple"
  · obtain ⟨ds, rfl⟩ := kd_tup c
    have hl : ds.length ≤ 60 := of_decide_eq_true hc
    refine q_ifD s (b := false) (et_is (et_not (et_B (ev_isTup (evd_var rfl hd)))) rfl) (fun z => by cases z) (fun _ H1 x1 => ?_)
    dsimp only [tNext]
    refine Lf.q_forT (ds := ds) (s.trans x1) (evd_var rfl hd) fun G2 H2 r2 => ?_
    have hd2 := hd.up r2.g
    have x2 : Ex H H2 := x1.trans r2.h
    refine ⟨fun i σ' H' => (∃ u, σ' = [some v, u]) ∧ Ex H2 H' ∧ ∀ j d, j < i → ds[j]? = some d → isUse d = true, ⟨⟨_, rfl⟩, Ex.refl _, fun j d hj => absurd hj (Nat.not_lt_zero _)⟩, ?_, ?_, ?_⟩
    · rintro i σ' H' ⟨_, y, _⟩
      exact r2.s.trans y
    · rintro i d x σ' H' hdi hdv ⟨⟨u, rfl⟩, y, before⟩
      have sy := r2.s.trans y
      have no : isUse d = false → ∀ H3, Ex H' H3 → Q (.bl false) H3 := fun e H3 x3 => by
        have : isUs (.tuple ds) = false := by
          show (ds.all isUse && ascD ds) = false
          rw [List.all_eq_false.mpr ⟨d, List.mem_of_getElem? hdi, by rw [e]; decide⟩]
          rfl
        rw [this] at k
        exact k _ ((x2.trans y).trans x3)
      show tIfS _ _ _ _ [some v, some x] H'
      by_cases ct : kd d = "tuple" ∧ ∃ n o, d = .tuple [n, o]
      · obtain ⟨_, n, o, rfl⟩ := ct
        have i0 : EvD (tOp (rIxT K) (tVar 1) (tC (.int 0))) [some v, some x] G2 n := evd_ixT (evd_var rfl hdv) ev_c (atI_nat (j := 0) rfl)
        have i1 : EvD (tOp (rIxT K) (tVar 1) (tC (.int 1))) [some v, some x] G2 o := evd_ixT (evd_var rfl hdv) ev_c (atI_nat (j := 1) rfl)
        refine Lf.s_ifD sy (b := !(isUse (.tuple [n, o]))) (et_is (et_or (b := !(isUse (.tuple [n, o]))) (et_not (et_B (ev_isTup (evd_var rfl hdv)))) fun _ => et_is (et_or (b := !(isUse (.tuple [n, o]))) (et_test (ev_neI (ev_lenT (evd_var rfl hdv)) ev_c)) fun _ => et_is (et_or (et_not (et_B (ev_callB i0))) fun _ => et_not (et_B (ev_callFr i1 ev_c ev_c))) ?_) rfl) rfl) (fun hb H4 x4 => no (by simpa using hb) _ x4) (fun hb H4 x4 => ⟨⟨_, rfl⟩, y.trans x4, fun j e hj he => ?_⟩)
        · have : isUse (.tuple [n, o]) = (isNm n && frm 0 3 o) := by rw [frm_within (by decide +kernel) (by decide +kernel)]; rfl
          rw [this, Bool.not_and]
        · rcases Nat.lt_or_eq_of_le (Nat.le_of_lt_succ hj) with h | h
          · exact before j e h he
          · rw [h, hdi] at he
            rw [← Option.some.inj he]
            simpa using hb
      · have nu : isUse d = false := by
          cases d with
          | tuple es =>
            unfold isUse
            split
            · rename_i n o heq
              exact absurd ⟨rfl, n, o, heq⟩ ct
            · rfl
          | _ => rfl
        refine Lf.s_ifD sy (b := true) ?_ (fun _ H3 x3 => no nu _ x3) (fun z => by cases z)
        by_cases c2 : kd d = "tuple"
        · obtain ⟨es, rfl⟩ := kd_tup c2
          refine et_is (et_or (b := true) (et_not (et_B (ev_isTup (evd_var rfl hdv)))) fun _ => et_orT (et_is (et_test (ev_neI (ev_lenT (evd_var rfl hdv)) ev_c)) ?_)) (Bool.or_true _)
          have : ¬ ((es.length : Int) = 2) := fun z => by
            have z : es.length = 2 := by omega
            match es, z with
            | [a, b], _ => exact ct ⟨rfl, a, b, rfl⟩
          rw [decide_eq_false this]
          rfl
        · exact et_orT (et_is (et_not (et_B (ev_isTup (evd_var rfl hdv)))) (by rw [beq_eq_false_iff_ne.mpr c2]; rfl))
    · rintro σ' H' ⟨⟨u, rfl⟩, y, all⟩
      have all : ∀ d ∈ ds, isUse d = true := fun d hd => by
        obtain ⟨i, hi, rfl⟩ := List.getElem_of_mem hd
        exact all i _ hi (List.getElem?_eq_getElem hi)
      have e : isUs (.tuple ds) = ascD ds := by
        show (ds.all isUse && ascD ds) = _
        rw [List.all_eq_true.mpr all]
        rfl
      rw [e] at k
      obtain ⟨ks, rfl, hk⟩ := uses_keys all
      rw [List.length_map] at hl
      rw [← eqv_asc] at k
      obtain ⟨js, ej, hj⟩ := sorted_keys ks
      have o1 := uses_ok hk hj
      have o2 := uses_ok hk fun j h => h
      have sh : ∀ ks' : List (List Key), (∀ j ∈ ks', j ∈ ks) → SeqAt.shaped (.list (ks'.map tupK)) = true := fun ks' hk' => by
        have hh : Nc (1 + 1) (PyData.weightAll (ks'.map tupK)) (wid (.list (ks'.map tupK))) (.list (ks'.map tupK)) := ⟨okDs_iff.mpr fun d hd => by
          obtain ⟨j, hj2, rfl⟩ := List.mem_map.mp hd
          obtain ⟨x, i, rfl, hx, h0, h3⟩ := hk j (hk' j hj2)
          show (okD (.str x) && (okD (.int i) && true)) = true
          have h1 : okD (.str x) = true := okD_nm hx
          have h2 : okD (.int i) = true := decide_eq_true (by omega)
          rw [h1, h2]
          rfl, Nat.succ_le_succ (depthAll_le fun d hd => (uses_ok hk hk').1 d hd |>.2.1), Nat.le_refl _, Nat.le_refl _⟩
        exact hh.shaped (by decide)
      refine Ev.ret (r2.s.trans y) (ev_is (ev_eqD (evd_sortSet (.inl (evd_var rfl hd2)) (by omega) (uses_alike hk) (fun k hk2 => by obtain ⟨x, i, rfl, _⟩ := hk k hk2; simp)) (evd_listOf (evd_var rfl hd2)) ?_ ?_ ?_ ?_) rfl) (fun H3 x3 => k _ ((x2.trans y).trans x3))
      · rw [ej]; exact o1.2
      · exact o2.2
      · rw [ej]; exact sh js hj
      · exact sh ks fun j h => h
  · refine q_ifD s (b := true) (et_is (et_not (et_B (ev_isTup (evd_var rfl hd)))) (by rw [beq_eq_false_iff_ne.mpr c]; rfl)) (fun _ H1 x1 => ?_) (fun z => by cases z)
    have : isUs d = false := by cases d <;> (first | rfl | exact absurd rfl c)
    rw [this] at k
    exact k H1 x1
theorem len_wid {d : PyData} : lenT d ≤ wid d := by
  cases d with
  | tuple ds => exact Nat.le_max_left _ _
  | _ => exact Nat.zero_le _
theorem ev_callU {σ : L2.St} {G : Hp} {te : TE} {d : PyData} {E : XK} (h : EvD te σ G d) (hn : ncB d = true) : Ev (tCallD (spO fU) E (tCons te tNil)) σ G (.bl (isUs d)) := EvD.bl_ (evd_callO h (by unfold fU; rw [okV_of hn, Bool.true_and, decide_eq_true (Nat.le_trans len_wid (ncB_iff.mp hn).wd), if_pos rfl]))
def fR (n : Nat) (d : PyData) : Option PyData := if okZ (n + 1) d = true then some (.bool (isRl n d)) else none
theorem ok_law_is_rule (T : Txt K mg) (D : Df K mg "_law_is_rule" s_law_is_rule) {n l : Nat} (hl3 : 2 ≤ l) (D_law_size : DefOk P w K mg base CX0 l "_law_size" ["_law_value", "_law_is_top"] (spF (fZ n))) (D_law_is_word : DefOk P w K mg base CX0 1 "_law_is_word" ["_law_value"] (spB isNm)) (D_law_is_from : DefOk P w K mg base CX0 1 "_law_is_from" ["_law_value", "_law_low", "_law_high"] spFr)
    (D_law_are_uses : DefOk P w K mg base CX0 2 "_law_are_uses" ["_law_value"] (spO fU)) : DefOk P w K mg base CX0 (l + 1) "_law_is_rule" ["_law_value"] (spO (fR n)) := by
  refine D.ok sc_law_is_rule (fun _ _ _ _ _ _ us hl => match us, hl with | [_], _ => rfl) (fun vs H Q E h => spO_len h) (fun f cdv A outer s H vs Q E hr h => ?_)
  obtain ⟨G, v, d, e0, rfl, s, hd, he, k⟩ := spO_of h
  unfold fR at he
  split at he
  rotate_left
  · cases he
  rename_i hz
  cases he
  have k : ∀ H', Ex H H' → Q (.bl (isRl n d)) H' := fun H' x => k _ G H' (Gr.keep s x) (.bl _)
  refine ⟨_, (pss_cons (ps_if (PW.pt (pw_or (pt_not (pt_val (pe_callB call_isi (by rfl) T.n_isinstance (by decide +kernel) (pa_cons (pv 0) (pa_cons (pe_bltn (v := .ty "tuple") (by rfl) T.n_tuple (by decide +kernel) rfl) pa_nil))))) (pw_or (pt_cmpR op_ne (pe_callB call_len_seq (by rfl) T.n_len (by decide +kernel) (pa_cons (pv 0) pa_nil)) pe_int (nomark _)) (pw_or1 (pt_not (pt_val (pe_callD D_law_is_word (hr.mono (by omega)) pass0 (pa_cons (pe_ix ix_tup (pv 0) pe_int (fun _ _ => rfl)) pa_nil))))))))
 (pss_one (ps_ret pe_bl))
 pss_nil)
 (pss_cons (ps_if (PW.pt (pw_or (pt_cmpR op_gt (pe_callD D_law_size (hr.mono (by omega)) pass0 (pa_cons (pe_ix ix_tup (pv 0) pe_int (fun _ _ => rfl)) (pa_cons pe_bl pa_nil))) pe_int (nomark _)) (pw_or1 (pt_cmpR (op_eqD hr.units) (pe_ix ix_tup (pv 0) pe_int (fun _ _ => rfl)) (pe_tup (pa_cons pe_str pa_nil)) (nomark _)))))
 (pss_one (ps_ret pe_bl))
 pss_nil)
 (pss_one (ps_ret (pe_and (pe_callD D_law_is_from (hr.mono (by omega)) pass0 (pa_cons (pe_ix ix_tup (pv 0) pe_int (fun _ _ => rfl)) (pa_cons pe_int (pa_cons pe_int pa_nil)))) (pe_and (pe_callD D_law_is_from (hr.mono (by omega)) pass0 (pa_cons (pe_ix ix_tup (pv 0) pe_int (fun _ _ => rfl)) (pa_cons pe_int (pa_cons pe_int pa_nil)))) (pe_one (pe_callD D_law_are_uses (hr.mono (by omega)) pass0 (pa_cons (pe_ix ix_tup (pv 0) pe_int (fun _ _ => rfl)) pa_nil))))))))), ?_⟩
  by_cases c : ∃ n s t c u, d = .tuple [n, s, t, c, u]
  · obtain ⟨dn, ds, dt, dc, du, rfl⟩ := c
    have i0 : EvD (tOp (rIxT K) (tVar 0) (tC (.int 0))) (start ["_law_value"] [v]) G dn := evd_ixT (evd_var rfl hd) ev_c (atI_nat (j := 0) rfl)
    have i1 : EvD (tOp (rIxT K) (tVar 0) (tC (.int 1))) (start ["_law_value"] [v]) G ds := evd_ixT (evd_var rfl hd) ev_c (atI_nat (j := 1) rfl)
    have i2 : EvD (tOp (rIxT K) (tVar 0) (tC (.int 2))) (start ["_law_value"] [v]) G dt := evd_ixT (evd_var rfl hd) ev_c (atI_nat (j := 2) rfl)
    have i3 : EvD (tOp (rIxT K) (tVar 0) (tC (.int 3))) (start ["_law_value"] [v]) G dc := evd_ixT (evd_var rfl hd) ev_c (atI_nat (j := 3) rfl)
    have i4 : EvD (tOp (rIxT K) (tVar 0) (tC (.int 4))) (start ["_law_value"] [v]) G du := evd_ixT (evd_var rfl hd) ev_c (atI_nat (j := 4) rfl)
    have hv : okV (.tuple [dn, ds, dt, dc, du]) = true := (Bool.and_eq_true_iff.mp (Bool.and_eq_true_iff.mp hz).2).1
    have hu : ncB du = true := okV_at hv du (by simp)
    have hs := ncB_iff.mp (okV_at hv ds (by simp))
    have hsz : okZ n ds = true := okZ_at hz (by simp)
    have hole : EvD (tTup (tCons (tC (.str "hole")) tNil)) (start ["_law_value"] [v]) G (.tuple [.str "hole"]) := evd_tup (evd_cons (evd_str ev_c (by decide)) evd_nil) (by simp)
    unfold isRl at k
    dsimp only at k
    refine q_ifD s (b := !isNm dn) (et_is (et_or (b := !isNm dn) (et_not (et_B (ev_isTup (evd_var rfl hd)))) fun _ => et_is (et_or (b := !isNm dn) (et_test (ev_neI (ev_lenT (evd_var rfl hd)) ev_c)) fun _ => et_not (et_B (ev_callB i0))) rfl) rfl) (fun hb H1 x1 => ?_) (fun hb H1 x1 => ?_)
    · rw [Bool.not_eq_true'] at hb
      rw [hb] at k
      exact k _ x1
    rw [Bool.not_eq_false'] at hb
    rw [hb, Bool.true_and] at k
    dsimp only [tNext]
    refine q_ifD (s.trans x1) (b := decide (4 < sz n true ds) || holeB ds) (et_or (et_is (et_test (ev_op (EvD.int_ (evd_callZ (top := true) i1 ev_c hsz)) ev_c rv_I0)) rfl) fun _ => et_test (ev_eqD i1 hole (okD_flat _ hs.ok) (by decide +kernel) (hs.shaped (by decide)) (by decide +kernel))) (fun hb2 H2 x2 => ?_) (fun hb2 H2 x2 => ?_)
    · rw [hb2] at k
      exact k _ (x1.trans x2)
    rw [hb2] at k
    exact Ev.ret ((s.trans x1).trans x2) (ev_andV (ev_callFr i2 ev_c ev_c) fun _ => ev_andV (ev_callFr i3 ev_c ev_c) fun _ => ev_callU i4 hu) (fun H3 x3 => k _ ((x1.trans x2).trans x3))
  · have np := rl_no (n := n) c
    rw [np] at k
    refine q_ifD s (b := true) ?_ (fun _ H1 x1 => k _ x1) (fun z => by cases z)
    by_cases c2 : kd d = "tuple"
    · obtain ⟨es, rfl⟩ := kd_tup c2
      refine et_is (et_or (b := true) (et_not (et_B (ev_isTup (evd_var rfl hd)))) fun _ => et_orT (et_is (et_test (ev_neI (ev_lenT (evd_var rfl hd)) ev_c)) ?_)) (Bool.or_true _)
      have : ¬ ((es.length : Int) = 5) := fun z => by
        have z : es.length = 5 := by omega
        match es, z with
        | [a, b, c', d', e], _ => exact c ⟨a, b, c', d', e, rfl⟩
      rw [decide_eq_false this]
      rfl
    · exact et_orT (et_is (et_not (et_B (ev_isTup (evd_var rfl hd)))) (by rw [beq_eq_false_iff_ne.mpr c2]; rfl))
end
end My
set_option maxHeartbeats 4000000
namespace My
open PySem L2 Lf Evl Tr StX
abbrev s_law_urn : Stmt := top 27
theorem sc_law_urn : FnScope ["_law_script", "_law_at", "_law_cell", "_law_great", "_law_left"] ["_law_script", "_law_at"] (defScope s_law_urn) := ⟨rfl, rfl, rfl, by decide +kernel, rfl, by decide +kernel, by decide +kernel⟩
abbrev s_law_pull : Stmt := top 28
theorem sc_law_pull : FnScope ["_law_urn_here", "_law_total", "_law_found", "_law_one_here", "_law_two"] ["_law_urn_here", "_law_total"] (defScope s_law_pull) := ⟨rfl, rfl, rfl, by decide +kernel, rfl, by decide +kernel, by decide +kernel⟩
abbrev s_law_one : Stmt := top 29
theorem sc_law_one : FnScope ["_law_urn_here", "_law_items"] ["_law_urn_here", "_law_items"] (defScope s_law_one) := ⟨rfl, rfl, rfl, by decide +kernel, rfl, by decide +kernel, by decide +kernel⟩
abbrev s_law_some : Stmt := top 30
theorem sc_law_some : FnScope ["_law_urn_here", "_law_items", "_law_many", "_law_left", "_law_found", "_law_turn"] ["_law_urn_here", "_law_items", "_law_many"] (defScope s_law_some) := ⟨rfl, rfl, rfl, by decide +kernel, rfl, by decide +kernel, by decide +kernel⟩
abbrev s_law_menu : Stmt := top 31
theorem sc_law_menu : FnScope ["_law_hole", "_law_load", "_law_found"] [] (defScope s_law_menu) := ⟨rfl, rfl, rfl, by decide +kernel, rfl, by decide +kernel, by decide +kernel⟩
/-- the three ints of an urn -/
def Lm (xs : List V) : Prop := ∃ a b c : Int, xs = [.int a, .int b, .int c]
def spUrn (K : PySem.W.Frag) : Sp := fun vs H Q _ => ∃ (a : Addr) (ns : List Int) (i : Nat), vs = [.ref a, .int (i : Int)] ∧ i ≤ 100 ∧ SqL K H a (ns.map V.int) ∧ ∀ p xs, H p = none → Lm xs → Q (.ref p) (upd H p (.lst xs))
def preT (ds : List PyData) : Prop := ∃ m : Int, ds = [.int m] ∧ 0 < m ∧ m < 1073741824
def postT (ds : List PyData) (d : PyData) : Prop := ∃ m r : Int, ds = [.int m] ∧ d = .int r ∧ 0 ≤ r ∧ r < m
def preP (ds : List PyData) : Prop := ∃ xs : List PyData, ds = [.list xs] ∧ 0 < xs.length ∧ xs.length ≤ 1000
def postP (ds : List PyData) (d : PyData) : Prop := ∃ xs : List PyData, ds = [.list xs] ∧ d ∈ xs
section
variable {K : PySem.W.Frag} {L : Addr} {σ : L2.St} {G : Hp} {ta tb te : TE} {tA : TA} {d : PyData} {ds : List PyData} {R : List PyData → Prop}
theorem dr_turn {i : Nat} {E : XK} {m : Int} (hL : σ[i]? = some (some (.ref L))) (h : Ev te σ G (.int m)) (h0 : 0 < m) (h1 : m < 1073741824) : Dr Lm L (tCallD (spDr Lm preT postT) E (tCons (tVar i) (tCons te tNil))) σ G (isI fun r => 0 ≤ r ∧ r < m) :=
  (dr_call hL (drs_of (evd_cons (evd_int h) evd_nil)) (fun ds e => ⟨m, e, h0, h1⟩)).imp fun d ⟨ds, e, m', r, e2, e3, e4, e5⟩ => by
    rw [e] at e2
    cases e2
    exact ⟨r, e3, e4, e5⟩
theorem dr_pick {i : Nat} {E : XK} (hL : σ[i]? = some (some (.ref L))) (h : EvD te σ G (.list ds)) (h0 : 0 < ds.length) (h1 : ds.length ≤ 1000) : Dr Lm L (tCallD (spDr Lm preP postP) E (tCons (tVar i) (tCons te tNil))) σ G (fun d => d ∈ ds) :=
  (dr_call hL (drs_of (evd_cons h evd_nil)) (fun ds' e => ⟨ds, e, h0, h1⟩)).imp fun d ⟨ds', e, xs, e2, e3⟩ => by
    rw [e] at e2
    cases e2
    exact e3
theorem dr_tupleOf (h : Dr Lm L te σ G (fun d => ∃ ds, d = .list ds ∧ R ds)) : Dr Lm L (tCB (fun xs H Q => ∃ p ys, xs = [V.ref p] ∧ ((SqL K H p ys ∧ ∀ l, H l = none → Q (.ref l) (upd H l (.tup ys))) ∨ (SqT K H p ys ∧ Q (.ref p) H))) (tCons te tNil)) σ G (fun d => ∃ ds, d = .tuple ds ∧ R ds) := fun G1 H1 x w Q q => h G1 H1 x w _ fun v d G2 H2 r ⟨ds, e, hR⟩ hd => by
  subst e
  obtain ⟨a, xs, rfl, e, hs⟩ := hd.lst_
  refine ⟨a, xs, rfl, .inl ⟨SqL.of (r.s _ _ e), fun l hl => ?_⟩⟩
  have n := Gr.new (o := .tup xs) r.s hl rfl
  exact q (.ref l) _ _ _ (r.gr n) ⟨ds, rfl, hR⟩ (.tup upd_same (hs.up n.g))
end
theorem cpow (i j : Nat) (h : (j : Int) ≤ 1000000) (hi : i < 2 ^ 64) : CPow (i : Int) (j : Int) := ⟨by omega, h, by rw [Int.natAbs_natCast]; exact hi⟩
theorem mulW {i j : Int} (hi : i.natAbs.log2 < 5000) (hj : j.natAbs.log2 < 5000) : CMulW i j := by unfold CMulW; omega
theorem log_small {i : Int} (h0 : 0 ≤ i) (h : i < 4294967296) : i.natAbs.log2 < 5000 := by
  by_cases z : i.natAbs = 0
  · rw [z]; decide
  · have h2 : i.natAbs < 2 ^ 5000 := Nat.lt_of_lt_of_le (show i.natAbs < 2 ^ 32 by rw [show (2:Nat) ^ 32 = 4294967296 from rfl]; omega) (Nat.pow_le_pow_right (by decide) (by decide))
    exact (Nat.log2_lt z).mpr h2
theorem q_unpD {K : PySem.W.Frag} {σ : L2.St} {G H : Hp} {te : TE} {d1 d2 : PyData} {tz : TS} {D : Ends} {i j : Nat} (s : Ex G H) (h : EvD te σ G (.tuple [d1, d2])) (k : ∀ v1 v2 G1 H1, Gr G H G1 H1 → Da G1 v1 d1 → Da G1 v2 d2 → tz D ((σ.set i (some v1)).set j (some v2)) H1) :
    tSeq (tAsg te (gTup K 2 (gCons (gName i) (gCons (gName j) gNil)))) tz D σ H := h.go s fun v G1 H1 r hd => by
  obtain ⟨a, xs, rfl, e, hs⟩ := hd.tup_
  match xs, hs with
  | [v1, v2], .cons h1 (.cons h2 .nil) => exact ⟨a, [v1, v2], rfl, SqT.of (r.s _ _ e), rfl, v1, [v2], rfl, v2, [], rfl, rfl, k v1 v2 G1 H1 r h1 h2⟩
def sHo : PyData := .tuple [.str "hole"]
def sLo : PyData := .tuple [.str "load"]
abbrev mu1 : List PyData := [.tuple [.str "op", .str "add", sHo, sHo], .tuple [.str "op", .str "mul", sHo, sHo], sLo, .tuple [.str "store", sHo], .tuple [.str "op", .str "neg", sHo]]
abbrev mu2 : List PyData := [.tuple [.str "op", .str "one"], .tuple [.str "op", .str "add", .tuple [.str "op", .str "mul", sHo, sHo], sHo], .tuple [.str "op", .str "mul", sLo, sHo]]
abbrev mu3 : List PyData := [.tuple [.str "op", .str "add", sHo, sLo], .tuple [.str "store", .tuple [.str "op", .str "add", sHo, sHo]], .tuple [.str "store", sLo]]
abbrev mu4 : List PyData := [.tuple [.str "op", .str "neg", .tuple [.str "op", .str "neg", sHo]], .tuple [.str "op", .str "add", sLo, sLo], .tuple [.str "store", .tuple [.str "op", .str "neg", sHo]]]
abbrev mu5 : List PyData := [.tuple [.str "op", .str "mul", .tuple [.str "op", .str "one"], sHo], .tuple [.str "op", .str "add", sHo, .tuple [.str "op", .str "add", sHo, sHo]]]
abbrev mu6 : List PyData := [.tuple [.str "op", .str "neg", sLo], .tuple [.str "op", .str "add", sHo, sHo]]
def menu : List PyData := ((((mu1 ++ mu2) ++ mu3) ++ mu4) ++ mu5) ++ mu6
def spMenu : Sp := spF fun ds => match ds with | [] => some (.list menu) | _ => none
theorem erase_perm {α : Type} : ∀ (l : List α) (n : Nat) (h : n < l.length), (l[n] :: l.eraseIdx n).Perm l
  | [], _, h => absurd h (Nat.not_lt_zero _)
  | _ :: _, 0, _ => List.Perm.refl _
  | a :: l, n + 1, h => by
    have ih := erase_perm l n (by simpa using h)
    rw [List.eraseIdx_cons_succ, List.getElem_cons_succ]
    exact (List.Perm.swap a _ _).trans (ih.cons a)
/-- some of the values of a list of data -/
def preSoD (ds : List PyData) : Prop := ∃ (l : List PyData) (m : Int), ds = [.list l, .int m] ∧ l.length ≤ 100 ∧ 0 ≤ m
def postSoD (ds : List PyData) (d : PyData) : Prop := ∀ (l : List PyData) (m : Int), ds = [.list l, .int m] → ∃ fs : List PyData, d = .list fs ∧ (∀ x ∈ fs, x ∈ l) ∧ fs.length = min m.toNat l.length
section
variable {P : Program} {w : World} {K : PySem.W.Frag} {mg : Str → Option Value} {base : Heap}
theorem ok_law_urn (T : Txt K mg) (D : Df K mg "_law_urn" s_law_urn) : DefOk P w K mg base CX0 1 "_law_urn" ["_law_script", "_law_at"] (spUrn K) := by
  refine D.ok sc_law_urn (fun _ _ _ _ _ _ us hl => match us, hl with | [_, _], _ => rfl) (fun vs H Q E h => ?_) (fun f cdv A outer s H vs Q E hr h => ?_)
  · obtain ⟨_, _, _, rfl, _⟩ := h
    rfl
  obtain ⟨a, ns, i, rfl, hi, hs, q⟩ := h
  refine ⟨_, (pss_cons (ps_set (i := 2) sc_law_urn.nd rfl (Or.inl rfl) (pe_ifExp (pt_cmpR op_lt (pv 1) (pe_callB call_len_seq (by rfl) T.n_len (by decide +kernel) (pa_cons (pv 0) pa_nil)) (nomark _)) (pe_callTy call_int1 (by rfl) T.n_int (by decide +kernel) (pa_cons (pe_ix ix_list (pv 0) (pv 1) (fun _ _ => rfl)) pa_nil)) (pe_op op_add (pe_op op_mulW pe_int (pv 1)) pe_int)))
 (pss_cons (ps_set (i := 3) sc_law_urn.nd rfl (Or.inl rfl) (pe_op op_mod (pe_callB call_abs (by rfl) T.n_abs (by decide +kernel) (pa_cons (pv 2) pa_nil)) (pe_op op_pow pe_int pe_int)))
 (pss_cons (ps_set (i := 4) sc_law_urn.nd rfl (Or.inl rfl) (pe_callB (call_max2 rfl) (by rfl) T.n_max (by decide +kernel) (pa_cons pe_int (pa_cons (pe_op op_sub (pe_callB call_abs (by rfl) T.n_abs (by decide +kernel) (pa_cons (pv 2) pa_nil)) (pe_op op_pow pe_int pe_int)) pa_nil))))
 (pss_one (ps_ret (pe_lst (pa_cons (pe_op op_mod (pv 4) (pe_op op_mulW (pe_op op_pow pe_int pe_int) (pe_op op_pow pe_int pe_int))) (pa_cons (pe_op op_add (pe_op op_add (pe_op op_add (pe_op op_mulW (pe_op op_mod (pv 3) pe_int) pe_int) (pe_op op_mulW pe_int (pv 1))) (pe_op op_mulW pe_int (pe_callTy call_int1 (by rfl) T.n_int (by decide +kernel) (pa_cons (pe_cmpR op_lt (pv 2) pe_int (nomark _)) pa_nil)))) pe_int) (pa_cons pe_int pa_nil))))))))), ?_⟩
  have hil : ((i : Int)).natAbs.log2 < 5000 := log_small (by omega) (by omega)
  have cell : ∃ c : Int, ∀ Q' : VK, Q' (.int c) H → (tIf (tTest (tOp (rI0 fun i j => .bl (decide (i < j))) (tVar 1) (tCB (fun xs H Q => ∃ p ys, xs = [V.ref p] ∧ (SqL K H p ys ∨ SqT K H p ys) ∧ Q (.int ys.length) H) (tCons (tVar 0) tNil)))) (tCB (fun xs H Q => (∃ i, xs = [V.int i] ∧ Q (.int i) H) ∨ ∃ k, xs = [V.bl k] ∧ Q (.int (if k then 1 else 0)) H) (tCons (tOp (rIxL K) (tVar 0) (tVar 1)) tNil)) (tOp (rI0 fun i j => .int (i + j)) (tOp (rI CMulW fun i j => .int (i * j)) (tC (.int 61)) (tVar 1)) (tC (.int 5)))) (start ["_law_script", "_law_at", "_law_cell", "_law_great", "_law_left"] [.ref a, .int (i : Int)]) H Q' := by
    by_cases c : i < ns.length
    · refine ⟨ns[i], fun Q' q' => ?_⟩
      refine ⟨_, rfl, _, rfl, _, _, rfl, .inl hs, _, _, rfl, rfl, _, rfl, if_so (decide_eq_true (by rw [List.length_map]; omega)) ?_⟩
      refine ⟨_, rfl, _, rfl, _, _, _, _, rfl, rfl, hs, ?_, .inl ⟨_, rfl, q'⟩⟩
      exact atI_nat (by rw [List.getElem?_map, List.getElem?_eq_getElem c]; rfl)
    · refine ⟨61 * (i : Int) + 5, fun Q' q' => ?_⟩
      refine ⟨_, rfl, _, rfl, _, _, rfl, .inl hs, _, _, rfl, rfl, _, rfl, if_no (decide_eq_false (by rw [List.length_map]; omega)) ?_⟩
      exact ⟨_, rfl, _, _, rfl, rfl, mulW (by decide) hil, _, _, rfl, rfl, q'⟩
  obtain ⟨c, hc⟩ := cell
  refine hc _ ?_
  have p59 : CPow 10 59 := cpow 10 59 (by decide) (by decide)
  have p17 : CPow 10 17 := cpow 10 17 (by decide) (by decide)
  have p60 : CPow 10 60 := cpow 10 60 (by decide) (by decide)
  have q60 : ((10 : Int) ^ Int.toNat 60).natAbs.log2 < 5000 := by decide +kernel
  have z59 : 0 < (10 : Int) ^ Int.toNat 59 := by decide +kernel
  have z60 : 0 < (10 : Int) ^ Int.toNat 60 * (10 : Int) ^ Int.toNat 60 := by decide +kernel
  refine ⟨_, rfl, _, rfl, _, _, rfl, rfl, p59, _, _, rfl, rfl, z59, ?_⟩
  refine ⟨_, rfl, _, rfl, _, _, rfl, rfl, p17, _, _, rfl, rfl, _, _, rfl, ?_⟩
  refine ⟨_, rfl, _, _, rfl, rfl, p60, _, _, rfl, rfl, p60, _, _, rfl, rfl, mulW q60 q60, _, _, rfl, rfl, z60, ?_⟩
  have g : ∀ x : Int, (x % 2147483629).natAbs.log2 < 5000 := fun x => log_small (Int.emod_nonneg _ (by decide)) (Int.lt_trans (Int.emod_lt_of_pos _ (by decide)) (by decide))
  refine ⟨_, rfl, _, _, rfl, rfl, show (0 : Int) < 2147483629 by decide, _, _, rfl, rfl, mulW (g _) (by decide), _, rfl, _, _, rfl, rfl, mulW (by decide) hil, _, _, rfl, rfl, _, rfl, _, _, rfl, rfl, .inr ⟨_, rfl, _, _, rfl, rfl, mulW (by decide) ?_, _, _, rfl, rfl, _, _, rfl, rfl, ?_⟩⟩
  · split <;> decide
  · exact ⟨show 3 ≤ sizeLine by decide, fun p hp => q p _ hp ⟨_, _, _, rfl⟩⟩
theorem ok_law_pull (T : Txt K mg) (D : Df K mg "_law_pull" s_law_pull) : DefOk P w K mg base CX0 1 "_law_pull" ["_law_urn_here", "_law_total"] (spDr Lm preT postT) := by
  refine D.ok sc_law_pull (fun _ _ _ _ _ _ us hl => match us, hl with | [_, _], _ => rfl) (fun vs H Q E h => spDr_len (n := 1) (fun ds ⟨m, e, _⟩ => by rw [e]; rfl) h) (fun f cdv A outer s H vs Q E hr h => ?_)
  obtain ⟨d, G, us, ds, rfl, w, hds, ⟨m, rfl, m0, m1⟩, q⟩ := h
  cases hds with
  | cons h0 t =>
  cases t
  cases h0.int_
  obtain ⟨_, hd, a, b, c, rfl⟩ := w.l
  refine ⟨_, (pss_cons (ps_if (pt_cmpR op_gt (pe_ix ix_list (pv 0) pe_int (fun _ _ => rfl)) pe_int (nomark _))
 (pss_cons (ps_set (i := 2) sc_law_pull.nd rfl (Or.inl rfl) (pe_op op_mod (pe_callTy call_int1 (by rfl) T.n_int (by decide +kernel) (pa_cons (pe_ix ix_list (pv 0) pe_int (fun _ _ => rfl)) pa_nil)) (pv 1)))
 (pss_cons (ps_asg (pe_op op_fdiv (pe_ix ix_list (pv 0) pe_int (fun _ _ => rfl)) (pv 1)) (pg_sub (pv 0) pe_int set_list))
 (pss_one (ps_ret (pv 2)))))
 pss_nil)
 (pss_cons (ps_asg (pe_op op_add (pe_ix ix_list (pv 0) pe_int (fun _ _ => rfl)) pe_int) (pg_sub (pv 0) pe_int set_list))
 (pss_cons (ps_set (i := 3) sc_law_pull.nd rfl (Or.inl rfl) (pe_op op_mod (pe_callTy call_int1 (by rfl) T.n_int (by decide +kernel) (pa_cons (pe_op op_add (pe_ix ix_list (pv 0) pe_int (fun _ _ => rfl)) (pe_op op_mul pe_int (pe_ix ix_list (pv 0) pe_int (fun _ _ => rfl)))) pa_nil)) pe_int))
 (pss_cons (ps_set (i := 4) sc_law_pull.nd rfl (Or.inl rfl) (pe_op op_mod (pe_callTy call_int1 (by rfl) T.n_int (by decide +kernel) (pa_cons (pe_op op_add (pe_op op_mul (pv 3) (pv 3)) (pe_op op_mul pe_int (pe_ix ix_list (pv 0) pe_int (fun _ _ => rfl)))) pa_nil)) pe_int))
 (pss_one (ps_ret (pe_op op_mod (pe_callTy call_int1 (by rfl) T.n_int (by decide +kernel) (pa_cons (pe_op op_fdiv (pe_callTy call_int1 (by rfl) T.n_int (by decide +kernel) (pa_cons (pe_op op_add (pe_op op_mul (pv 4) pe_int) (pv 3)) pa_nil)) pe_int) pa_nil)) (pv 1)))))))), ?_⟩
  refine ⟨_, rfl, _, _, _, _, rfl, rfl, SqL.of hd, rfl, _, _, rfl, rfl, _, rfl, ?_⟩
  have fin : ∀ {xs : List V} {r : Int}, Lm xs → 0 ≤ r → r < m → Q (.int r) (upd H d (.lst xs)) := fun hx r0 r1 => q _ _ G _ (GrB.turn w hx) ⟨m, _, rfl, rfl, r0, r1⟩ (.int _)
  cases ha : decide (0 < a) with
  | true =>
    refine if_so rfl ?_
    refine ⟨_, rfl, _, _, _, _, rfl, rfl, SqL.of hd, rfl, .inl ⟨_, rfl, _, rfl, _, _, rfl, rfl, m0, ?_⟩⟩
    refine ⟨_, rfl, _, _, _, _, rfl, rfl, SqL.of hd, rfl, _, rfl, _, _, rfl, rfl, ⟨m0, m1⟩, _, rfl, _, _, _, _, rfl, rfl, hd, rfl, ?_⟩
    exact ⟨_, rfl, fin ⟨_, _, _, rfl⟩ (Int.emod_nonneg _ (by omega)) (Int.emod_lt_of_pos _ m0)⟩
  | false =>
    refine if_no rfl ?_
    refine ⟨_, rfl, _, _, _, _, rfl, rfl, SqL.of hd, rfl, _, _, rfl, rfl, _, rfl, _, _, _, _, rfl, rfl, hd, rfl, ?_⟩
    have hd2 : upd H d (.lst ([V.int a, V.int b, V.int c].set 2 (V.int (c + 1)))) d = some (.lst [.int a, .int b, .int (c + 1)]) := upd_same
    refine ⟨_, rfl, _, _, _, _, rfl, rfl, SqL.of hd2, rfl, _, rfl, _, _, _, _, rfl, rfl, SqL.of hd2, rfl, _, _, rfl, rfl, .inl ⟨by decide, by decide⟩, _, _, rfl, rfl, .inl ⟨_, rfl, _, _, rfl, rfl, show (0 : Int) < 2305843009213693951 by decide, ?_⟩⟩
    have e1 := Int.emod_nonneg (b + 6101 * (c + 1)) (show (2305843009213693951 : Int) ≠ 0 by decide)
    have e2 := Int.emod_lt_of_pos (b + 6101 * (c + 1)) (show (0 : Int) < 2305843009213693951 by decide)
    refine ⟨_, rfl, _, rfl, _, _, rfl, rfl, .inl ⟨by omega, by omega⟩, _, rfl, _, _, _, _, rfl, rfl, SqL.of hd2, rfl, _, _, rfl, rfl, .inl ⟨by decide, by decide⟩, _, _, rfl, rfl, .inl ⟨_, rfl, _, _, rfl, rfl, show (0 : Int) < 2305843009213693921 by decide, ?_⟩⟩
    refine ⟨_, rfl, _, _, rfl, rfl, .inr ⟨by decide, by decide⟩, _, rfl, _, _, rfl, rfl, .inl ⟨_, rfl, _, _, rfl, rfl, ⟨by decide, by decide⟩, .inl ⟨_, rfl, _, rfl, _, _, rfl, rfl, m0, ?_⟩⟩⟩
    exact fin ⟨_, _, _, rfl⟩ (Int.emod_nonneg _ (by omega)) (Int.emod_lt_of_pos _ m0)
theorem ok_law_one (T : Txt K mg) (D : Df K mg "_law_one" s_law_one) (D_law_pull : DefOk P w K mg base CX0 1 "_law_pull" ["_law_urn_here", "_law_total"] (spDr Lm preT postT)) : DefOk P w K mg base CX0 2 "_law_one" ["_law_urn_here", "_law_items"] (spDr Lm preP postP) := by
  refine D.ok sc_law_one (fun _ _ _ _ _ _ us hl => match us, hl with | [_, _], _ => rfl) (fun vs H Q E h => spDr_len (n := 1) (fun ds ⟨m, e, _⟩ => by rw [e]; rfl) h) (fun f cdv A outer s H vs Q E hr h => ?_)
  obtain ⟨L, G, us, ds, rfl, w, hds, ⟨xs, rfl, h0, h1⟩, q⟩ := h
  cases hds with
  | cons hv t =>
  cases t
  refine ⟨_, (pss_one (ps_ret (pe_ix ix_list (pv 1) (pe_callD D_law_pull (hr.mono (by decide)) pass0 (pa_cons (pv 0) (pa_cons (pe_callB call_len_seq (by rfl) T.n_len (by decide +kernel) (pa_cons (pv 1) pa_nil)) pa_nil))) (fun _ _ => rfl)))), ?_⟩
  exact s_retR w (dr_ixL (dr_of (evd_var rfl hv)) (dr_turn rfl (ev_lenL (evd_var rfl hv)) (by omega) (by omega)) (fun i h => h)) (fun v d G1 H1 r p hd => q v d G1 H1 r ⟨xs, rfl, p⟩ hd)
theorem ok_law_someD (T : Txt K mg) (D : Df K mg "_law_some" s_law_some) (D_law_pull : DefOk P w K mg base CX0 1 "_law_pull" ["_law_urn_here", "_law_total"] (spDr Lm preT postT)) : DefOk P w K mg base CX0 2 "_law_some" ["_law_urn_here", "_law_items", "_law_many"] (spDr Lm preSoD postSoD) := by
  refine D.ok sc_law_some (fun _ _ _ _ _ _ us hl => match us, hl with | [_, _, _], _ => rfl) (fun vs H Q E h => spDr_len (n := 2) (fun ds ⟨_, _, e, _⟩ => by rw [e]; rfl) h) (fun f cdv A outer s H vs Q E hr h => ?_)
  obtain ⟨L, G, us, ds, rfl, w, hds, ⟨l, m, rfl, hl, m0⟩, q⟩ := h
  cases hds with
  | @cons v0 _ _ _ hi t =>
  cases t with
  | cons hm t =>
  cases t
  cases hm.int_
  refine ⟨_, (pss_cons (ps_par (by rfl) sc_law_some.nd (i := 3) (j := 4) rfl rfl (by decide) rfl rfl (pa_cons (pe_callTy call_list_of (by rfl) T.n_list (by decide +kernel) (pa_cons (pv 1) pa_nil)) (pa_cons (pe_lst pa_nil) pa_nil)) (by rfl))
 (pss_cons (ps_for PassesOwn.never rfl (pi_range1 (by rfl) T.n_range (pa_cons (pe_callB (call_min2 rfl) (by rfl) T.n_min (by decide +kernel) (pa_cons (pv 2) (pa_cons (pe_callB call_len_seq (by rfl) T.n_len (by decide +kernel) (pa_cons (pv 3) pa_nil)) pa_nil))) pa_nil)) (pg_name (i := 5) sc_law_some.nd rfl (Or.inl rfl))
 (pss_one (ps_expr (pe_bm PySem.F.plainAttrs_list PySem.F.slot_list_append PySem.F.type_list_append mt_append (pv 4) (pa_cons (pe_bm PySem.F.plainAttrs_list PySem.F.slot_list_pop PySem.F.type_list_pop mt_popAt (pv 3) (pa_cons (pe_callD D_law_pull (hr.mono (by decide)) pass0 (pa_cons (pv 0) (pa_cons (pe_callB call_len_seq (by rfl) T.n_len (by decide +kernel) (pa_cons (pv 3) pa_nil)) pa_nil))) pa_nil)) pa_nil)))))
 (pss_one (ps_ret (pv 4))))), ?_⟩
  have S0 := St.dr w
  refine q_parCopy S0 (evd_var rfl hi) fun p p2 H1 G1 np nq S1 x1 => ?_
  obtain ⟨xs, ep, hxs⟩ := (S1.l (p, .lst l) (.tail _ (.head _))).2.2
  have hlen := hxs.len
  have mn : (if (l.length : Int) < m then (l.length : Int) else m) = min m l.length := by
    by_cases c : (l.length : Int) < m
    · rw [if_pos c]; omega
    · rw [if_neg c]; omega
  refine q_forR1 (n := min m l.length) (fun H2 x2 Q' q' => ?_) ⟨by omega, by omega⟩ (fun i σ' H' => ∃ (G' : Hp) (ls fs : List PyData) (u : Option V), σ' = [some (.ref L), some v0, some (.int m), some (.ref p), some (.ref p2), u] ∧ St (fun a => a = L) G H G' H' [(p2, .lst fs), (p, .lst ls), (L, .whl Lm)] ∧ (fs ++ ls).Perm l ∧ fs.length = i) (fun H2 x2 => ⟨G1, l, [], _, rfl, S1.keep x2, List.Perm.refl _, rfl⟩) ?_ ?_
  · refine ⟨_, rfl, _, rfl, p, xs, rfl, .inl (SqL.of (x2 _ _ ep)), _, _, rfl, ?_⟩
    rw [hlen, mn]
    exact q' H2 (Ex.refl _)
  · rintro i σ' H' hi' ⟨G', ls, fs, u, rfl, S, hperm, hfl⟩
    have hsum := hperm.length_eq
    rw [List.length_append] at hsum
    have h0 : 0 < ls.length := by omega
    refine s_appPop (c := 0) S (.head _) rfl rfl rfl rfl h0 (by omega) (by omega) ⟨_, rfl, by omega, by omega⟩ (fun d ⟨mm, r, e, e2, e3, e4⟩ => ?_) fun n hn G2 H2 S2 x2 => ?_
    · cases e
      exact ⟨r, e2, e3, e4⟩
    · refine ⟨G2, ls.eraseIdx n, fs ++ [ls[n]], _, rfl, S2, ?_, by rw [List.length_append, hfl]; rfl⟩
      refine List.Perm.trans ?_ hperm
      rw [List.append_assoc]
      refine List.Perm.append_left _ ?_
      exact erase_perm ls n hn
  · rintro σ' H' ⟨G', ls, fs, u, rfl, S, hperm, hfl⟩
    obtain ⟨G2, x2, S2, hd2⟩ := S.putL nq
    have S3 := S2.drop
    refine ⟨_, rfl, q (.ref p2) (.list fs) G2 H' (S3.grB (.head _)) (fun l' m' e => ?_) hd2⟩
    injection e with e1 e
    injection e with e2 e
    cases e2
    injection e1 with e1
    subst e1
    refine ⟨fs, rfl, fun x hx => hperm.mem_iff.mp (List.mem_append_left _ hx), ?_⟩
    have := hperm.length_eq
    rw [List.length_append] at this
    omega
theorem ok_law_menu (T : Txt K mg) (D : Df K mg "_law_menu" s_law_menu) : DefOk P w K mg base CX0 1 "_law_menu" [] spMenu := by
  refine D.ok sc_law_menu (fun _ _ _ _ _ _ us hl => match us, hl with | [], _ => rfl) (fun vs H Q E h => ?_) (fun f cdv A outer s H vs Q E hr h => ?_)
  · refine spF_len (fun ds d e => ?_) h
    split at e
    · rfl
    · cases e
  obtain ⟨G, ds, d, s, h2, h3, k⟩ := h
  dsimp only at h3
  split at h3
  · cases h3
    cases h2
    refine ⟨_, (pss_cons (ps_asg (pe_tup (pa_cons (pe_tup (pa_cons pe_str pa_nil)) (pa_cons (pe_tup (pa_cons pe_str pa_nil)) pa_nil))) (pg_tup (by rfl) (pgs_cons (pg_name (i := 0) sc_law_menu.nd rfl (Or.inl rfl)) (pgs_cons (pg_name (i := 1) sc_law_menu.nd rfl (Or.inl rfl)) pgs_nil))))
 (pss_cons (ps_set (i := 2) sc_law_menu.nd rfl (Or.inl rfl) (pe_lst (pa_cons (pe_tup (pa_cons pe_str (pa_cons pe_str (pa_cons (pv 0) (pa_cons (pv 0) pa_nil))))) (pa_cons (pe_tup (pa_cons pe_str (pa_cons pe_str (pa_cons (pv 0) (pa_cons (pv 0) pa_nil))))) (pa_cons (pv 1) (pa_cons (pe_tup (pa_cons pe_str (pa_cons (pv 0) pa_nil))) (pa_cons (pe_tup (pa_cons pe_str (pa_cons pe_str (pa_cons (pv 0) pa_nil)))) pa_nil)))))))
 (pss_cons (ps_set (i := 2) sc_law_menu.nd rfl (Or.inl rfl) (pe_op op_cat (pv 2) (pe_lst (pa_cons (pe_tup (pa_cons pe_str (pa_cons pe_str pa_nil))) (pa_cons (pe_tup (pa_cons pe_str (pa_cons pe_str (pa_cons (pe_tup (pa_cons pe_str (pa_cons pe_str (pa_cons (pv 0) (pa_cons (pv 0) pa_nil))))) (pa_cons (pv 0) pa_nil))))) (pa_cons (pe_tup (pa_cons pe_str (pa_cons pe_str (pa_cons (pv 1) (pa_cons (pv 0) pa_nil))))) pa_nil))))))
 (pss_cons (ps_set (i := 2) sc_law_menu.nd rfl (Or.inl rfl) (pe_op op_cat (pv 2) (pe_lst (pa_cons (pe_tup (pa_cons pe_str (pa_cons pe_str (pa_cons (pv 0) (pa_cons (pv 1) pa_nil))))) (pa_cons (pe_tup (pa_cons pe_str (pa_cons (pe_tup (pa_cons pe_str (pa_cons pe_str (pa_cons (pv 0) (pa_cons (pv 0) pa_nil))))) pa_nil))) (pa_cons (pe_tup (pa_cons pe_str (pa_cons (pv 1) pa_nil))) pa_nil))))))
 (pss_cons (ps_set (i := 2) sc_law_menu.nd rfl (Or.inl rfl) (pe_op op_cat (pv 2) (pe_lst (pa_cons (pe_tup (pa_cons pe_str (pa_cons pe_str (pa_cons (pe_tup (pa_cons pe_str (pa_cons pe_str (pa_cons (pv 0) pa_nil)))) pa_nil)))) (pa_cons (pe_tup (pa_cons pe_str (pa_cons pe_str (pa_cons (pv 1) (pa_cons (pv 1) pa_nil))))) (pa_cons (pe_tup (pa_cons pe_str (pa_cons (pe_tup (pa_cons pe_str (pa_cons pe_str (pa_cons (pv 0) pa_nil)))) pa_nil))) pa_nil))))))
 (pss_cons (ps_set (i := 2) sc_law_menu.nd rfl (Or.inl rfl) (pe_op op_cat (pv 2) (pe_lst (pa_cons (pe_tup (pa_cons pe_str (pa_cons pe_str (pa_cons (pe_tup (pa_cons pe_str (pa_cons pe_str pa_nil))) (pa_cons (pv 0) pa_nil))))) (pa_cons (pe_tup (pa_cons pe_str (pa_cons pe_str (pa_cons (pv 0) (pa_cons (pe_tup (pa_cons pe_str (pa_cons pe_str (pa_cons (pv 0) (pa_cons (pv 0) pa_nil))))) pa_nil))))) pa_nil)))))
 (pss_one (ps_ret (pe_op op_cat (pv 2) (pe_lst (pa_cons (pe_tup (pa_cons pe_str (pa_cons pe_str (pa_cons (pv 1) pa_nil)))) (pa_cons (pe_tup (pa_cons pe_str (pa_cons pe_str (pa_cons (pv 0) (pa_cons (pv 0) pa_nil))))) pa_nil)))))))))))), ?_⟩
    refine q_unpD s (d1 := sHo) (d2 := sLo) (evd_tup (evd_cons (evd_tup (ds := [.str "hole"]) (evd_cons (evd_str ev_c (by decide)) evd_nil) (by simp)) (evd_cons (evd_tup (ds := [.str "load"]) (evd_cons (evd_str ev_c (by decide)) evd_nil) (by simp)) evd_nil)) (by simp)) (fun v1 v2 G1 H1 r1 h1 h2 => ?_)
    refine q_asgD r1.s (d := .list mu1) (by repeat (first | exact evd_nil | exact evd_var rfl h1 | exact evd_var rfl h2 | exact evd_str ev_c (by decide) | refine evd_cons ?_ ?_ | refine evd_tup ?_ (by simp) | refine evd_lst ?_ (by simp))) fun v3 G2 H2 r2 hd3 => ?_
    have r12 := r1.trans r2
    have h1 := h1.up r2.g
    have h2 := h2.up r2.g
    refine q_asgD r12.s (d := .list (mu1 ++ mu2)) (evd_catL (evd_var rfl hd3) (by repeat (first | exact evd_nil | exact evd_var rfl h1 | exact evd_var rfl h2 | exact evd_str ev_c (by decide) | refine evd_cons ?_ ?_ | refine evd_tup ?_ (by simp) | refine evd_lst ?_ (by simp))) (by simp)) fun v4 G3 H3 r3 hd4 => ?_
    have r13 := r12.trans r3
    have h1 := h1.up r3.g
    have h2 := h2.up r3.g
    refine q_asgD r13.s (d := .list ((mu1 ++ mu2) ++ mu3)) (evd_catL (evd_var rfl hd4) (by repeat (first | exact evd_nil | exact evd_var rfl h1 | exact evd_var rfl h2 | exact evd_str ev_c (by decide) | refine evd_cons ?_ ?_ | refine evd_tup ?_ (by simp) | refine evd_lst ?_ (by simp))) (by simp)) fun v5 G4 H4 r4 hd5 => ?_
    have r14 := r13.trans r4
    have h1 := h1.up r4.g
    have h2 := h2.up r4.g
    refine q_asgD r14.s (d := .list (((mu1 ++ mu2) ++ mu3) ++ mu4)) (evd_catL (evd_var rfl hd5) (by repeat (first | exact evd_nil | exact evd_var rfl h1 | exact evd_var rfl h2 | exact evd_str ev_c (by decide) | refine evd_cons ?_ ?_ | refine evd_tup ?_ (by simp) | refine evd_lst ?_ (by simp))) (by simp)) fun v6 G5 H5 r5 hd6 => ?_
    have r15 := r14.trans r5
    have h1 := h1.up r5.g
    have h2 := h2.up r5.g
    refine q_asgD r15.s (d := .list ((((mu1 ++ mu2) ++ mu3) ++ mu4) ++ mu5)) (evd_catL (evd_var rfl hd6) (by repeat (first | exact evd_nil | exact evd_var rfl h1 | exact evd_var rfl h2 | exact evd_str ev_c (by decide) | refine evd_cons ?_ ?_ | refine evd_tup ?_ (by simp) | refine evd_lst ?_ (by simp))) (by simp)) fun v7 G6 H6 r6 hd7 => ?_
    have r16 := r15.trans r6
    have h1 := h1.up r6.g
    have h2 := h2.up r6.g
    exact s_retD r16.s (d := .list menu) (evd_catL (evd_var rfl hd7) (by repeat (first | exact evd_nil | exact evd_var rfl h1 | exact evd_var rfl h2 | exact evd_str ev_c (by decide) | refine evd_cons ?_ ?_ | refine evd_tup ?_ (by simp) | refine evd_lst ?_ (by simp))) (by simp)) fun v8 G7 H7 r7 hd8 => k v8 G7 H7 (r16.trans r7) hd8
  · cases h3
def belT : List PyData → List PyData
  | w :: r => if isS "store" w = true then [r.getD 4 .none] else if isS "op" w = true then r.drop 1 else []
  | [] => []
end
end My
set_option maxHeartbeats 4000000
/-! for x, y in zip(l, r), lists of data -/
namespace Lf
open PySem L2 Evl
section
variable {K : PySem.W.Frag} {σ : L2.St} {G H : Hp} {ti tj : TE} {tb tz : TS} {D : Ends} {ds es : List PyData} {i j : Nat}
theorem q_forZL (s : Ex G H) (h : EvD ti σ G (.list ds)) (h2 : EvD tj σ G (.list es)) (k : ∀ G1 H1, Gr G H G1 H1 → ∃ Pv : Nat → L2.St → Hp → Prop, Pv 0 σ H1 ∧ (∀ n σ' H', Pv n σ' H' → Ex G1 H') ∧
    (∀ n d e v u σ' H' H'', ds[n]? = some d → es[n]? = some e → Da G1 v d → Da G1 u e → Pv n σ' H' → Ex H' H'' → tb { D with nx := Pv (n + 1), ct := Pv (n + 1), bk := tz D } ((σ'.set i (some v)).set j (some u)) H'') ∧ ∀ σ' H', Pv (min ds.length es.length) σ' H' → tz D σ' H') :
    tSeq (tFor (RZ.iZipA K (tCons ti (tCons tj tNil))) (gTup K 2 (gCons (gName i) (gCons (gName j) gNil))) tb) tz D σ H := h.go s fun v0 G1 H1 r1 hd1 => h2 G1 H1 r1.g r1.s _ fun v2 G2 H2 r2 hd2 => by
  obtain ⟨a, xs, rfl, ea, hs⟩ := (hd1.up r2.g).lst_
  obtain ⟨b, ys, rfl, eb, ht⟩ := hd2.lst_
  have r := r1.trans r2
  obtain ⟨Pv, h0, hl, hb, hz⟩ := k G2 H2 r
  refine ⟨a, b, xs, ys, rfl, .inl ⟨SqL.of (r2.s _ _ ea), SqL.of (r2.s _ _ eb), ?_⟩⟩
  refine ⟨fun n m σ' H' => m = min xs.length ys.length - n ∧ n ≤ min xs.length ys.length ∧ Pv n σ' H', ⟨_, rfl, Nat.zero_le _, h0⟩, ?_⟩
  rintro n m σ' H' ⟨rfl, hn, p⟩
  have x2 := hl n σ' H' p
  have qa : SqL K H' a xs := SqL.of (x2 _ _ ea)
  have qb : SqL K H' b ys := SqL.of (x2 _ _ eb)
  by_cases lt : n < min xs.length ys.length
  · have l1 : n < xs.length := by omega
    have l2 : n < ys.length := by omega
    refine .inr ⟨⟨xs, ys, xs[n], ys[n], qa, qb, List.getElem?_eq_getElem l1, List.getElem?_eq_getElem l2⟩, Pv (n + 1), fun σ2 H3 p' => ⟨min xs.length ys.length - (n + 1), by omega, rfl, lt, p'⟩, fun x H3 y => ?_⟩
    obtain ⟨T, x1, y1, rfl, nT, rfl, g1, g2⟩ := y
    have e1 := g1 xs qa
    have e2 := g2 ys qb
    obtain ⟨d, hd, hdv⟩ := hs.at e1
    obtain ⟨e, he, hev⟩ := ht.at e2
    exact ⟨T, [x1, y1], rfl, SqT.of upd_same, rfl, x1, [y1], rfl, y1, [], rfl, rfl, hb n d e x1 y1 σ' H' _ hd he hdv hev p (Ex.new nT)⟩
  · have e : n = min xs.length ys.length := by omega
    refine .inl ⟨⟨xs, ys, qa, qb, by omega⟩, hz σ' H' ?_⟩
    rw [← hs.len, ← ht.len, ← e]
    exact p
end
end Lf
set_option maxHeartbeats 4000000
/-! l[::-1] of data; x = a + b, a list that is still written afterwards -/
namespace Lf
open PySem L2 Evl StX
theorem DaAll.rev {H : Hp} : ∀ {vs : List V} {ds : List PyData}, DaAll H vs ds → DaAll H vs.reverse ds.reverse
  | _, _, .nil => .nil
  | _, _, .cons h t => by
    rw [List.reverse_cons, List.reverse_cons]
    exact (DaAll.rev t).app (.cons h .nil)
theorem evd_revL {K : PySem.W.Frag} {σ : L2.St} {G : Hp} {te : TE} {ds : List PyData} (h : EvD te σ G (.list ds)) : EvD (tRevL K te) σ G (.list ds.reverse) := fun G1 H1 x s Q q => h G1 H1 x s _ fun v G2 H2 r hd => by
  obtain ⟨a, xs, rfl, e, hs⟩ := hd.lst_
  refine ⟨a, xs, rfl, SqL.of (r.s _ _ e), fun p hp => ?_⟩
  have n := Gr.new (o := .lst xs.reverse) r.s hp rfl
  exact q (.ref p) _ _ (r.trans n) (.lst upd_same (hs.rev.up n.g))
/-- x = a + b -/
theorem q_catS {X : Addr → Prop} {G0 H0 G H : Hp} {Ls : List (Addr × Lo)} {σ : L2.St} {ta tb : TE} {tz : TS} {D : Ends} {i : Nat} {ds es : List PyData} (S : St X G0 H0 G H Ls) (ha : EvD ta σ G (.list ds)) (hb : EvD tb σ G (.list es)) (hl : ds.length + es.length ≤ 100000)
    (k : ∀ p G1 H1, ¬ X p → St X G0 H0 G1 H1 ((p, .lst (ds ++ es)) :: Ls) → Ex G G1 → tz D (σ.set i (some (.ref p))) H1) : tSeq (tAsg (tOp rCat ta tb) (gName i)) tz D σ H := ha.go S.s fun v G2 H2 r hd => hb G2 H2 r.g r.s _ fun v3 G3 H3 r3 he => by
  obtain ⟨a, xs, rfl, e1, h1⟩ := (hd.up r3.g).lst_
  obtain ⟨b, ys, rfl, e2, h2⟩ := he.lst_
  refine ⟨a, b, xs, ys, rfl, rfl, r3.s _ _ e1, r3.s _ _ e2, by rw [h1.len, h2.len]; exact sz_of hl, fun p hp => ?_⟩
  have S3 := (S.ev r).ev r3
  exact k p G3 _ (S3.notX hp) (S3.new hp ⟨xs ++ ys, rfl, h1.app h2⟩) (r.g.trans r3.g)
end Lf
set_option maxHeartbeats 4000000
/-! An expression whose value has a property that stays when the view grows; a + b of lists, drawn; l.append(e) ahead of others -/
namespace Lf
open PySem L2 Evl StX
/-- the value of te keeps R, told of a view -/
def EvW (te : TE) (σ : L2.St) (G : Hp) (R : Hp → V → Prop) : Prop := ∀ G1 H1, Ex G G1 → Ex G1 H1 → ∀ Q : VK, (∀ v G2 H2, Gr G1 H1 G2 H2 → R G2 v → Q v H2) → te σ H1 Q
def EvWs (ta : TA) (σ : L2.St) (G : Hp) (n : Nat) (R : Hp → V → Prop) : Prop := ∀ G1 H1, Ex G G1 → Ex G1 H1 → ∀ Q : List V → Hp → Prop, (∀ vs G2 H2, Gr G1 H1 G2 H2 → vs.length = n → (∀ v ∈ vs, R G2 v) → Q vs H2) → ta σ H1 Q
section
variable {σ : L2.St} {G : Hp} {te : TE} {ta : TA} {R : Hp → V → Prop} {n : Nat} {d : PyData}
theorem evw_of (h : EvD te σ G d) (hR : ∀ G v, Da G v d → R G v) : EvW te σ G R := fun G1 H1 x s Q q => h G1 H1 x s _ fun v G2 H2 r hd => q v G2 H2 r (hR G2 v hd)
theorem evw_nil : EvWs tNil σ G 0 R := fun G1 H1 _ s Q q => q [] G1 H1 (Gr.refl s) rfl fun v hv => by cases hv
theorem evw_cons (up : ∀ (G G' : Hp) (v : V), Ex G G' → R G v → R G' v) (h : EvW te σ G R) (t : EvWs ta σ G n R) : EvWs (tCons te ta) σ G (n + 1) R := fun G1 H1 x s Q q => h G1 H1 x s _ fun v G2 H2 r hv => t G2 H2 (x.trans r.g) r.s _ fun vs G3 H3 r3 hl hvs =>
  q (v :: vs) G3 H3 (r.trans r3) (by rw [List.length_cons, hl]) fun w hw => by
    rcases List.mem_cons.mp hw with rfl | hw
    · exact up _ _ _ r3.g hv
    · exact hvs w hw
theorem tLst_w {H : Hp} {Q : VK} (up : ∀ (G G' : Hp) (v : V), Ex G G' → R G v → R G' v) (h : EvWs ta σ G n R) (s : Ex G H) (hn : n ≤ sizeLine) (k : ∀ xs p G1 H1, Gr G H G1 H1 → xs.length = n → (∀ v ∈ xs, R G1 v) → G1 p = some (.lst xs) → Q (.ref p) H1) : tLst ta σ H Q := h G H (Ex.refl _) s _ fun xs G1 H1 r hl hx => ⟨by rw [hl]; exact hn, fun p hp => by
  have n := Gr.new (o := .lst xs) r.s hp rfl
  exact k xs p _ _ (r.trans n) hl (fun v hv => up _ _ _ n.g (hx v hv)) upd_same⟩
end
section
variable {X : Addr → Prop} {Lm : List V → Prop} {L p : Addr} {G0 H0 G H : Hp} {B : List (Addr × Lo)} {σ : L2.St} {te ta tb : TE} {tz : TS} {D : Ends} {i : Nat} {ds es : List PyData} {P : PyData → Prop} {R R' : List PyData → Prop}
theorem q_appR (S : St X G0 H0 G H ((p, .lst ds) :: B)) (m : (L, Lo.whl Lm) ∈ B) (hX : X L) (hσ : σ[i]? = some (some (.ref p))) (hl : ds.length ≤ 50000) (h : Dr Lm L te σ G P) (k : ∀ d G1 H1, P d → St X G0 H0 G1 H1 ((p, .lst (ds ++ [d])) :: B) → Ex G G1 → tz D σ H1) {K : PySem.W.Frag} : tSeq (tDrop (tBM K "list" rAppend (tVar i) (tCons te tNil))) tz D σ H :=
  s_appR (D := { D with nx := tz D }) S m hX hσ hl h k
/-- a + b of lists, both drawn -/
theorem dr_catL2 (ha : Dr Lm L ta σ G (fun d => ∃ ds, d = .list ds ∧ R ds)) (hb : Dr Lm L tb σ G (fun d => ∃ ds, d = .list ds ∧ R' ds)) (hl : ∀ ds es, R ds → R' es → ds.length + es.length ≤ 100000) : Dr Lm L (tOp rCat ta tb) σ G (fun d => ∃ ds es, d = .list (ds ++ es) ∧ R ds ∧ R' es) := fun G1 H1 x w Q q =>
  ha G1 H1 x w _ fun v d G2 H2 r ⟨ds, ed, hR⟩ hd => hb G2 H2 (x.trans r.g) r.w _ fun v2 d2 G3 H3 r3 ⟨es, ee, hR'⟩ he => by
    subst ed
    subst ee
    obtain ⟨a, xs, rfl, e1, h1⟩ := (hd.up r3.g).lst_
    obtain ⟨b, ys, rfl, e2, h2⟩ := he.lst_
    refine ⟨a, b, xs, ys, rfl, rfl, r3.s _ _ e1, r3.s _ _ e2, by rw [h1.len, h2.len]; exact sz_of (hl ds es hR hR'), fun p hp => ?_⟩
    have n := Gr.new (o := .lst (xs ++ ys)) r3.s hp rfl
    exact q (.ref p) _ _ _ ((r.trans r3).gr n) ⟨ds, es, rfl, hR, hR'⟩ (.lst upd_same ((h1.app h2).up n.g))
end
end Lf
set_option maxHeartbeats 4000000
namespace My
open PySem L2 Lf Evl Tr StX
abbrev s_law_patterns : Stmt := top 32
theorem sc_law_patterns : FnScope ["_law_urn_here", "_law_menu_here", "_law_shapes", "_law_names", "_law_found", "_law_name", "_law_shape", "_law_uses"] ["_law_urn_here"] (defScope s_law_patterns) := ⟨rfl, rfl, rfl, by decide +kernel, rfl, by decide +kernel, by decide +kernel⟩
theorem pe_callD0 {X : Cx} {CX : CXT} {k : Nat} {x : Str} {sp : Sp} {E : XK} {p pos : Pos} (D : DefOk X.prog X.w X.K X.mg X.base CX k x [] sp) (hr : Room k X.A) (hx : Passes CX X E) (hg : Gl X x := by rfl) (hdb : (x == ("__debug__" : Str)) = false := by decide) :
    PE X (.Call (.Name x p) [] [] pos) (tCallD sp E tNil) := by
  obtain ⟨f, fd, hm, hk, hb, F⟩ := D
  exact ⟨fun pins s σ H Q I h => (pe_call0 F hr hg hm hk hb (.nil) hx hdb).run pins s σ H Q I h⟩
def preE (ds : List PyData) : Prop := ds = []
abbrev nms : List PyData := [.str "one", .str "two", .str "c", .str "d", .str "e", .str "f", .str "add", .str "load"]
abbrev uss : List PyData := [.tuple [], .tuple [.tuple [.str "alu", .int 0]], .tuple [.tuple [.str "alu", .int 0], .tuple [.str "mem", .int 1]], .tuple [.tuple [.str "mem", .int 0]]]
def PatD (p : PyData) : Prop := ∃ (x s u : PyData) (t c : Int), p = .tuple [x, s, .int t, .int c, u] ∧ x ∈ nms ∧ s ∈ menu ∧ (1 ≤ t ∧ t ≤ 4) ∧ (0 ≤ c ∧ c ≤ 4) ∧ u ∈ uss
def postPs (ds : List PyData) (d : PyData) : Prop := ∃ ps, d = .list ps ∧ 1 ≤ ps.length ∧ ps.length ≤ 8 ∧ ∀ p ∈ ps, PatD p
def inM (a b : Nat) (d : PyData) : Prop := ∃ ds, d = .list ds ∧ (∀ x ∈ ds, x ∈ menu) ∧ a ≤ ds.length ∧ ds.length ≤ b
section
variable {K : PySem.W.Frag} {L : Addr} {σ : L2.St} {G : Hp} {ta tb te : TE} {R : List PyData → Prop} {B : Int → Prop}
theorem evd_menu {E : XK} : EvD (tCallD spMenu E tNil) σ G (.list menu) := evd_call evd_nil rfl
theorem dr_some {i : Nat} {E : XK} (hL : σ[i]? = some (some (.ref L))) (ha : Dr Lm L ta σ G (fun d => ∃ ds, d = .list ds ∧ R ds)) (hb : ∀ {G1}, Ex G G1 → Dr Lm L tb σ G1 (isI B)) (hR : ∀ ds, R ds → ds.length ≤ 100) (hB : ∀ m, B m → 0 ≤ m) :
    Dr Lm L (tCallD (spDr Lm preSoD postSoD) E (tCons (tVar i) (tCons ta (tCons tb tNil)))) σ G (fun d => ∃ ds m fs, R ds ∧ B m ∧ d = .list fs ∧ (∀ x ∈ fs, x ∈ ds) ∧ fs.length = min m.toNat ds.length) :=
  (dr_call (R := fun ds => ∃ l m, ds = [.list l, .int m] ∧ R l ∧ B m) hL ((drs_cons ha (drs_cons (hb (Ex.refl _)) drs_nil)).imp fun ds ⟨d, r, e, ⟨l, e2, hl⟩, d2, r2, e3, ⟨m, e4, hm⟩, e5⟩ => ⟨l, m, by rw [e, e2, e3, e4, e5], hl, hm⟩) (fun ds ⟨l, m, e, hl, hm⟩ => ⟨l, m, e, hR l hl, hB m hm⟩)).imp fun d ⟨ds, ⟨l, m, e, hl, hm⟩, p⟩ => by
    obtain ⟨fs, e2, h1, h2⟩ := p l m e
    exact ⟨l, m, fs, hl, hm, e2, h1, h2⟩
end
section
variable {P : Program} {w : World} {K : PySem.W.Frag} {mg : Str → Option Value} {base : Heap}
theorem ok_law_patterns (T : Txt K mg) (D : Df K mg "_law_patterns" s_law_patterns) (D_law_pull : DefOk P w K mg base CX0 1 "_law_pull" ["_law_urn_here", "_law_total"] (spDr Lm preT postT)) (D_law_one : DefOk P w K mg base CX0 2 "_law_one" ["_law_urn_here", "_law_items"] (spDr Lm preP postP))
    (D_law_some : DefOk P w K mg base CX0 2 "_law_some" ["_law_urn_here", "_law_items", "_law_many"] (spDr Lm preSoD postSoD)) (D_law_menu : DefOk P w K mg base CX0 1 "_law_menu" [] spMenu) : DefOk P w K mg base CX0 3 "_law_patterns" ["_law_urn_here"] (spDr Lm preE postPs) := by
  refine D.ok sc_law_patterns (fun _ _ _ _ _ _ us hl => match us, hl with | [_], _ => rfl) (fun vs H Q E h => spDr_len (n := 0) (fun ds e => by rw [e]; rfl) h) (fun f cdv A outer s H vs Q E hr h => ?_)
  obtain ⟨L, G, us, ds, rfl, w, hds, rfl, q⟩ := h
  cases hds
  refine ⟨_, (pss_cons (ps_set (i := 1) sc_law_patterns.nd rfl (Or.inl rfl) (pe_callD0 D_law_menu (hr.mono (by decide)) pass0))
 (pss_cons (ps_set (i := 2) sc_law_patterns.nd rfl (Or.inl rfl) (pe_ifExp (pt_cmpR op_gt (pe_callD D_law_pull (hr.mono (by decide)) pass0 (pa_cons (pv 0) (pa_cons pe_int pa_nil))) pe_int (nomark _)) (pe_slice sl_list (pv 1) po_none (po_some pe_int)) (pe_callD D_law_some (hr.mono (by decide)) pass0 (pa_cons (pv 0) (pa_cons (pe_slice sl_list (pv 1) po_none (po_some pe_int)) (pa_cons pe_int pa_nil))))))
 (pss_cons (ps_set (i := 2) sc_law_patterns.nd rfl (Or.inl rfl) (pe_callD D_law_some (hr.mono (by decide)) pass0 (pa_cons (pv 0) (pa_cons (pe_op op_cat (pv 2) (pe_callD D_law_some (hr.mono (by decide)) pass0 (pa_cons (pv 0) (pa_cons (pe_slice sl_list (pv 1) (po_some pe_int) po_none) (pa_cons (pe_op op_sub pe_int (pe_callB call_len_seq (by rfl) T.n_len (by decide +kernel) (pa_cons (pv 2) pa_nil))) pa_nil))))) (pa_cons pe_int pa_nil)))))
 (pss_cons (ps_set (i := 3) sc_law_patterns.nd rfl (Or.inl rfl) (pe_callD D_law_some (hr.mono (by decide)) pass0 (pa_cons (pv 0) (pa_cons (pe_lst (pa_cons pe_str (pa_cons pe_str (pa_cons pe_str (pa_cons pe_str (pa_cons pe_str (pa_cons pe_str (pa_cons pe_str (pa_cons pe_str pa_nil))))))))) (pa_cons (pe_callB call_len_seq (by rfl) T.n_len (by decide +kernel) (pa_cons (pv 2) pa_nil)) pa_nil)))))
 (pss_cons (ps_set (i := 4) sc_law_patterns.nd rfl (Or.inl rfl) (pe_lst pa_nil))
 (pss_cons (ps_for PassesOwn.never rfl (RZ.pi_zipA (by rfl) T.n_zip (pa_cons (pv 3) (pa_cons (pv 2) pa_nil))) (pg_tup (by rfl) (pgs_cons (pg_name (i := 5) sc_law_patterns.nd rfl (Or.inl rfl)) (pgs_cons (pg_name (i := 6) sc_law_patterns.nd rfl (Or.inl rfl)) pgs_nil)))
 (pss_cons (ps_set (i := 7) sc_law_patterns.nd rfl (Or.inl rfl) (pe_callD D_law_one (hr.mono (by decide)) pass0 (pa_cons (pv 0) (pa_cons (pe_lst (pa_cons (pe_tup pa_nil) (pa_cons (pe_tup (pa_cons (pe_tup (pa_cons pe_str (pa_cons pe_int pa_nil))) pa_nil)) (pa_cons (pe_tup (pa_cons (pe_tup (pa_cons pe_str (pa_cons pe_int pa_nil))) (pa_cons (pe_tup (pa_cons pe_str (pa_cons pe_int pa_nil))) pa_nil))) (pa_cons (pe_tup (pa_cons (pe_tup (pa_cons pe_str (pa_cons pe_int pa_nil))) pa_nil)) pa_nil))))) pa_nil))))
 (pss_one (ps_expr (pe_bm PySem.F.plainAttrs_list PySem.F.slot_list_append PySem.F.type_list_append mt_append (pv 4) (pa_cons (pe_tup (pa_cons (pv 5) (pa_cons (pv 6) (pa_cons (pe_op op_add pe_int (pe_callD D_law_pull (hr.mono (by decide)) pass0 (pa_cons (pv 0) (pa_cons pe_int pa_nil)))) (pa_cons (pe_callD D_law_pull (hr.mono (by decide)) pass0 (pa_cons (pv 0) (pa_cons pe_int pa_nil))) (pa_cons (pv 7) pa_nil)))))) pa_nil))))))
 (pss_one (ps_ret (pv 4))))))))), ?_⟩
  have S0 := St.dr w
  have m6 : ∀ {σ' : L2.St} {G' : Hp}, EvD (tVar 1) σ' G' (.list menu) → EvD (tSl (rSlL K) (tVar 1) tNoPart (tPart (tC (.int 6)))) σ' G' (.list (menu.take 6)) := fun h => EvD.is (evd_slL h EvO.none_ (EvO.some_ ev_c)) rfl
  have m6d : ∀ {σ' : L2.St} {G' : Hp}, EvD (tVar 1) σ' G' (.list menu) → EvD (tSl (rSlL K) (tVar 1) (tPart (tC (.int 6))) tNoPart) σ' G' (.list (menu.drop 6)) := fun h => EvD.is (evd_slL h (EvO.some_ ev_c) EvO.none_) rfl
  have lenM : menu.length = 18 := rfl
  refine q_asgS S0 evd_menu fun v1 G1 H1 S1 x1 hd1 => ?_
  try dsimp only
  refine q_rollS (P := inM 4 6) S1 (.head _) rfl (dr_if (drt_test (dr_cmpI (dr_turn rfl ev_c (by decide) (by decide)) (dr_int ev_c))) (fun _ => (dr_of (m6 (evd_var rfl hd1))).imp fun d e => ⟨_, e, fun x hx => List.mem_of_mem_take hx, by decide, by decide⟩) (fun _ => (dr_some rfl (R := fun ds => ds = menu.take 6) (B := fun m => m = 4) ((dr_of (m6 (evd_var rfl hd1))).imp fun d e => ⟨_, e, rfl⟩) (fun _ => dr_int ev_c) (fun ds e => by rw [e]; decide) (fun m e => by rw [e]; decide)).imp fun d ⟨ds, m, fs, e1, e2, e3, h1, h2⟩ => by
    subst e1
    subst e2
    exact ⟨fs, e3, fun x hx => List.mem_of_mem_take (h1 x hx), by rw [h2]; decide, by rw [h2]; decide⟩)) fun v2 d2 G2 H2 S2 x2 p2 hd2 => ?_
  obtain ⟨sh, rfl, hsh, l4, l6⟩ := p2
  try dsimp only
  refine q_rollS (P := inM 4 8) S2 (.head _) rfl ((dr_some rfl (R := fun ds => (∀ x ∈ ds, x ∈ menu) ∧ 4 ≤ ds.length ∧ ds.length ≤ 30) ((dr_catL2 (R := fun ds => ds = sh) (R' := fun ds => (∀ x ∈ ds, x ∈ menu) ∧ ds.length ≤ 12) ((dr_of (evd_var rfl hd2)).imp fun d e => ⟨_, e, rfl⟩) ((dr_some rfl (R := fun ds => ds = menu.drop 6) (B := fun m => m = 8 - (sh.length : Int)) ((dr_of (m6d (evd_var rfl (hd1.up x2)))).imp fun d e => ⟨_, e, rfl⟩) (fun x3 => dr_int (ev_op ev_c (ev_lenL (evd_var rfl (hd2.up x3))) rv_I0)) (fun ds e => by rw [e]; decide) (fun m e => by rw [e]; omega)).imp fun d ⟨ds, m, fs, e1, e2, e3, h1, h2⟩ => ?_) (fun ds es e he => by rw [e]; omega)).imp fun d ⟨ds, es, e, e1, h1, h2⟩ => ?_) (fun _ => dr_int ev_c) (fun ds h => by omega) (fun m e => by rw [e]; decide)).imp fun d ⟨ds, m, fs, h0, e2, e3, h1, h2⟩ => ?_) fun v3 d3 G3 H3 S3 x3 p3 hd3 => ?_
  · subst e1
    refine ⟨fs, e3, fun x hx => List.mem_of_mem_drop (h1 x hx), ?_⟩
    rw [h2]
    exact Nat.le_trans (Nat.min_le_right _ _) (by decide)
  · subst e1
    refine ⟨_, e, fun x hx => (List.mem_append.mp hx).elim (hsh x) (h1 x), ?_, ?_⟩ <;> (rw [List.length_append]; omega)
  · subst e2
    refine ⟨fs, e3, fun x hx => h0.1 x (h1 x hx), ?_, ?_⟩ <;> (rw [h2]; have := h0.2; omega)
  obtain ⟨sh3, rfl, hsh3, l4, l8⟩ := p3
  try dsimp only
  refine q_rollS (P := fun d => ∃ ns, d = .list ns ∧ (∀ x ∈ ns, x ∈ nms) ∧ ns.length = sh3.length) S3 (.head _) rfl ((dr_some rfl (R := fun ds => ds = nms) (B := fun m => m = (sh3.length : Int)) ((dr_of (evd_lst (ds := nms) (by repeat (first | exact evd_nil | exact evd_str ev_c (by decide) | refine evd_cons ?_ ?_)) (by simp))).imp fun d e => ⟨_, e, rfl⟩) (fun x4 => dr_int (ev_lenL (evd_var rfl (hd3.up x4)))) (fun ds e => by rw [e]; decide) (fun m e => by rw [e]; omega)).imp fun d ⟨ds, m, fs, e1, e2, e3, h1, h2⟩ => ?_) fun v4 d4 G4 H4 S4 x4 p4 hd4 => ?_
  · subst e1
    subst e2
    refine ⟨fs, e3, h1, ?_⟩
    rw [h2]
    have : nms.length = 8 := rfl
    omega
  obtain ⟨ns, rfl, hns, lns⟩ := p4
  have hd3 := hd3.up x4
  try dsimp only
  refine q_newL S4 fun p H5 np S5 => ?_
  refine q_forZL S5.s (evd_var rfl hd4) (evd_var rfl hd3) fun G6 H6 r6 => ?_
  have S6 := S5.ev r6
  refine ⟨fun n σ' H' => ∃ (G' : Hp) (ps : List PyData) (u1 u2 u3 : Option V), σ' = [some (.ref L), some v1, some v3, some v4, some (.ref p), u1, u2, u3] ∧ Ex G6 G' ∧ St (fun a => a = L) G H G' H' [(p, .lst ps), (L, .whl Lm)] ∧ ps.length = n ∧ n ≤ 8 ∧ ∀ p ∈ ps, PatD p, ⟨G6, [], _, _, _, rfl, Ex.refl _, S6, rfl, Nat.zero_le _, fun p hp => by cases hp⟩, ?_, ?_, ?_⟩
  · rintro n σ' H' ⟨G', ps, u1, u2, u3, rfl, y, S, _⟩
    exact y.trans S.s
  · rintro n d e v u σ' H' H'' hdn hen hdv hev ⟨G', ps, u1, u2, u3, rfl, y, S, hl, h8, hps⟩ x7
    have S := S.keep x7
    have nl := (List.getElem?_eq_some_iff.mp hdn).1
    dsimp only [List.set]
    refine q_rollS (P := fun d => d ∈ uss) S (.tail _ (.head _)) rfl (dr_pick rfl (evd_lst (ds := uss) (by repeat (first | exact evd_nil | exact evd_str ev_c (by decide) | exact evd_int ev_c | refine evd_cons ?_ ?_ | refine evd_tup ?_ (by simp))) (by simp)) (by simp) (by simp)) fun v8 d8 G8 H8 S8 x8 p8 hd8 => ?_
    have y8 := y.trans x8
    dsimp only [List.set]
    refine s_appR S8 (.head _) rfl rfl (by omega) (dr_tup (drs_cons (dr_of (evd_var rfl (hdv.up y8))) (drs_cons (dr_of (evd_var rfl (hev.up y8))) (drs_cons (dr_opI (dr_int ev_c) (dr_turn rfl ev_c (by decide) (by decide))) (drs_cons (dr_turn rfl ev_c (by decide) (by decide)) (drs_cons (dr_of (evd_var rfl hd8)) drs_nil))))) ?_) fun d9 G9 H9 p9 S9 x9 => ?_
    · rintro ds ⟨_, _, rfl, _, _, _, rfl, _, _, _, rfl, _, _, _, rfl, _, _, _, rfl, _, rfl⟩
      simp
    · obtain ⟨ds, rfl, _, _, rfl, rfl, _, _, rfl, rfl, _, _, rfl, ⟨t, rfl, i, j, hi, hj, ht⟩, _, _, rfl, ⟨c, rfl, c0, c1⟩, _, _, rfl, rfl, rfl⟩ := p9
      refine ⟨G9, _, _, _, _, rfl, y8.trans x9, S9, by rw [List.length_append, hl]; rfl, by omega, fun p hp => ?_⟩
      rcases List.mem_append.mp hp with hp | hp
      · exact hps p hp
      · cases List.mem_singleton.mp hp
        exact ⟨_, _, _, t, c, rfl, hns _ (List.mem_of_getElem? hdn), hsh3 _ (List.mem_of_getElem? hen), ⟨by omega, by omega⟩, ⟨by omega, by omega⟩, p8⟩
  · rintro σ' H' ⟨G', ps, u1, u2, u3, rfl, y, S, hl, h8, hps⟩
    obtain ⟨G2, x2, S2, hd2⟩ := S.putL np
    refine ⟨_, rfl, q (.ref p) (.list ps) G2 H' (S2.grB (.head _)) ⟨ps, rfl, by omega, by omega, hps⟩ hd2⟩
end
end My
set_option maxHeartbeats 4000000
/-! What a value that is bent in one place keeps; plain -/
namespace Tr
open PySem Lf
structure Bent (v d : PyData) : Prop where
  ok : okD d = true
  dep : d.depth ≤ v.depth + 2
  wei : d.weight ≤ 2 * v.weight + 40
  wd : wid d ≤ 2 * wid v + 3
abbrev odd1 : List PyData := [.none, .int 0, .bool true, .str "", .str "A", .str "op", .tuple [], .tuple [.str "hole"], .tuple [.str "load"], .list [], .int (-1), .int 21, .int 5, .str "store"]
abbrev odd2 : List PyData := [.tuple [.tuple [.str "alu", .int 1], .tuple [.str "alu", .int 0]], .tuple [.tuple [.str "alu", .int 4]], .tuple [.tuple [.str "alu", .int 0], .tuple [.str "alu", .int 0]], .tuple [.str "store", .tuple [.str "hole"]], .tuple [.str "op", .str "f", .tuple [.str "hole"]]]
def odds : List PyData := odd1 ++ odd2
theorem odds_ok : (odds.all fun o => ncQ 2 13 3 o) = true := by decide +kernel
theorem odd_nc {o : PyData} (h : o ∈ odds) : Nc 2 13 3 o := ncQ_iff.mp (List.all_eq_true.mp odds_ok o h)
section
variable {vs : List PyData}
theorem tup_depth (vs : List PyData) : (PyData.tuple vs).depth = PyData.depthAll vs + 1 := by rw [PyData.depth]
theorem tup_weight (vs : List PyData) : (PyData.tuple vs).weight = PyData.weightAll vs := by rw [PyData.weight]
theorem tup_wid (vs : List PyData) : wid (.tuple vs) = max vs.length (wids vs) := by rw [wid]
theorem _root_.Tr.Nc.asOne {k b m : Nat} {d : PyData} (h : Nc k b m d) : Ncs k (b + 1) m [d] := Ncs.one h
theorem bent_mk {xs : List PyData} {b : Nat} (k : Ncs (PyData.depthAll vs + 2) b (2 * max vs.length (wids vs) + 3) xs) (hb : b ≤ 2 * PyData.weightAll vs + 40) (hl : xs.length ≤ 2 * vs.length + 3) : Bent (.tuple vs) (.tuple xs) := by
  refine ⟨k.ok, ?_, ?_, ?_⟩
  · rw [tup_depth, tup_depth]; have := k.dep; omega
  · rw [tup_weight, tup_weight]; have := k.wei; omega
  · rw [tup_wid, tup_wid]; have := k.wd; omega
theorem self_ncs (h : okD (.tuple vs) = true) : Ncs (PyData.depthAll vs) (PyData.weightAll vs) (wids vs) vs := ⟨h, Nat.le_refl _, Nat.le_refl _, Nat.le_refl _⟩
/-- left out -/
theorem bent_out (h : okD (.tuple vs) = true) (j : Nat) : Bent (.tuple vs) (.tuple (vs.take j ++ vs.drop (j + 1))) := by
  obtain ⟨c1, c2, c3⟩ := (self_ncs h).cut j
  obtain ⟨d1, d2, d3⟩ := (self_ncs h).cut (j + 1)
  have e : PyData.weightAll (vs.drop (j + 1)) ≤ PyData.weightAll (vs.drop j) := by
    have : vs.drop (j + 1) = (vs.drop j).drop 1 := by rw [List.drop_drop]
    rw [this]
    cases vs.drop j with
    | nil => exact Nat.le_refl _
    | cons a l => rw [List.drop_succ_cons, List.drop_zero, PyData.weightAll]; omega
  refine bent_mk ((c1.app d2).mono (by omega) (Nat.le_refl _) (by omega)) (by omega) ?_
  rw [List.length_append, List.length_take, List.length_drop]
  omega
/-- put in -/
theorem bent_in (h : okD (.tuple vs) = true) (j : Nat) {o : PyData} (ho : o ∈ odds) : Bent (.tuple vs) (.tuple ((vs.take j ++ [o]) ++ vs.drop j)) := by
  obtain ⟨c1, c2, c3⟩ := (self_ncs h).cut j
  have n := odd_nc ho
  refine bent_mk (((c1.mono (k' := PyData.depthAll vs + 2) (by omega) (Nat.le_refl _) (m' := 2 * max vs.length (wids vs) + 3) (by omega)).app ((n.mono (by omega) (Nat.le_refl _) (by omega)).asOne)).app (c2.mono (by omega) (Nat.le_refl _) (by omega))) (by omega) ?_
  rw [List.length_append, List.length_append, List.length_take, List.length_drop, List.length_singleton]
  omega
/-- doubled -/
theorem bent_two (h : okD (.tuple vs) = true) : Bent (.tuple vs) (.tuple (vs ++ vs)) := by
  have n := self_ncs h
  refine bent_mk ((n.app n).mono (by omega) (Nat.le_refl _) (by omega)) (by omega) ?_
  rw [List.length_append]
  omega
theorem bent_list (h : okD (.tuple vs) = true) : Bent (.tuple vs) (.list vs) := by
  refine ⟨h, ?_, ?_, ?_⟩
  · rw [tup_depth, PyData.depth]; omega
  · rw [tup_weight, PyData.weight]; omega
  · rw [tup_wid, wid]; omega
theorem bent_self (h : okD (.tuple vs) = true) : Bent (.tuple vs) (.tuple vs) := ⟨h, by omega, by omega, by omega⟩
theorem weight_split {j : Nat} {x : PyData} (hx : vs[j]? = some x) : PyData.weightAll (vs.take j) + (x.weight + 1) + PyData.weightAll (vs.drop (j + 1)) = PyData.weightAll vs := by
  have hj := (List.getElem?_eq_some_iff.mp hx).1
  have e : vs.drop j = x :: vs.drop (j + 1) := by
    rw [List.drop_eq_getElem_cons hj]
    rw [List.getElem?_eq_getElem hj] at hx
    rw [Option.some.inj hx]
  have := weightAll_app (a := vs.take j) (b := vs.drop j)
  rw [List.take_append_drop, e, PyData.weightAll] at this
  omega
/-- exchanged -/
theorem bent_ex (h : okD (.tuple vs) = true) {j : Nat} {x y : PyData} (hx : vs[j]? = some x) (hy : Bent x y ∨ y ∈ odds) : Bent (.tuple vs) (.tuple ((vs.take j ++ [y]) ++ vs.drop (j + 1))) := by
  obtain ⟨c1, _, _⟩ := (self_ncs h).cut j
  obtain ⟨_, d2, _⟩ := (self_ncs h).cut (j + 1)
  have e := weight_split hx
  have m := List.mem_of_getElem? hx
  have a1 := depthAll_mem m
  have a2 := wids_mem m
  have n : Nc (PyData.depthAll vs + 2) (2 * x.weight + 40) (2 * max vs.length (wids vs) + 3) y := by
    rcases hy with hy | hy
    · exact ⟨hy.ok, by have := hy.dep; omega, hy.wei, by have := hy.wd; omega⟩
    · exact (odd_nc hy).mono (by omega) (by omega) (by omega)
  refine bent_mk (((c1.mono (k' := PyData.depthAll vs + 2) (by omega) (Nat.le_refl _) (m' := 2 * max vs.length (wids vs) + 3) (by omega)).app n.asOne).app (d2.mono (by omega) (Nat.le_refl _) (by omega))) (by omega) ?_
  rw [List.length_append, List.length_append, List.length_take, List.length_drop, List.length_singleton]
  omega
end
end Tr
set_option maxHeartbeats 4000000
namespace My
open PySem L2 Lf Evl Tr StX
abbrev s_law_bent : Stmt := top 38
theorem sc_law_bent : FnScope ["_law_urn_here", "_law_value", "_law_at", "_law_odd", "_law_some_here", "_law_inner"] ["_law_urn_here", "_law_value"] (defScope s_law_bent) := ⟨rfl, rfl, rfl, by decide +kernel, rfl, by decide +kernel, by decide +kernel⟩
def preB (n : Nat) (ds : List PyData) : Prop := ∃ vs, ds = [.tuple vs] ∧ okD (.tuple vs) = true ∧ PyData.depthAll vs < n ∧ vs.length ≤ 50 ∧ wids vs ≤ 50 ∧ (PyData.tuple vs).depth ≤ 20
def postB (ds : List PyData) (d : PyData) : Prop := ∀ vs, ds = [.tuple vs] → Bent (.tuple vs) d
/-- which the parts are again -/
theorem pre_part {n : Nat} {vs ws : List PyData} (h : preB (n + 1) [.tuple vs]) (hm : PyData.tuple ws ∈ vs) : preB n [.tuple ws] := by
  obtain ⟨vs', e, h1, h2, h3, h4, h5⟩ := h
  cases e
  have a1 := depthAll_mem hm
  have a2 := wids_mem hm
  rw [tup_depth] at a1 h5
  rw [tup_wid] at a2
  exact ⟨ws, rfl, okDs_iff.mp h1 _ hm, by omega, by omega, by omega, by rw [tup_depth]; omega⟩
section
variable {P : Program} {w : World} {K : PySem.W.Frag} {mg : Str → Option Value} {base : Heap}
theorem ok_law_bt0 (D : Df K mg "_law_bent" s_law_bent) : DefOk P w K mg base CX0 2 "_law_bent" ["_law_urn_here", "_law_value"] (spDr Lm (preB 0) postB) := by
  refine D.ok sc_law_bent (fun _ _ _ _ _ _ us hl => match us, hl with | [_, _], _ => rfl) (fun vs H Q E h => spDr_len (n := 1) (fun ds ⟨m, e, _⟩ => by rw [e]; rfl) h) (fun f cdv A outer s H vs Q E hr h => ?_)
  obtain ⟨L, G, us, ds, rfl, w, hds, ⟨m, rfl, _, m0, _⟩, q⟩ := h
  exact absurd m0 (Nat.not_lt_zero _)
theorem ok_law_btS (T : Txt K mg) (D : Df K mg "_law_bent" s_law_bent) {n l : Nat} (hl3 : 2 ≤ l) (D_law_bent : DefOk P w K mg base CX0 l "_law_bent" ["_law_urn_here", "_law_value"] (spDr Lm (preB n) postB)) (D_law_pull : DefOk P w K mg base CX0 1 "_law_pull" ["_law_urn_here", "_law_total"] (spDr Lm preT postT))
    (D_law_one : DefOk P w K mg base CX0 2 "_law_one" ["_law_urn_here", "_law_items"] (spDr Lm preP postP)) : DefOk P w K mg base CX0 (l + 1) "_law_bent" ["_law_urn_here", "_law_value"] (spDr Lm (preB (n + 1)) postB) := by
  refine D.ok sc_law_bent (fun _ _ _ _ _ _ us hl => match us, hl with | [_, _], _ => rfl) (fun vs H Q E h => spDr_len (n := 1) (fun ds ⟨m, e, _⟩ => by rw [e]; rfl) h) (fun f cdv A outer s H vs Q E hr h => ?_)
  obtain ⟨L, G, us, ds, rfl, w, hds, hpre, q⟩ := h
  obtain ⟨vs, rfl, hok, hdn, hlen, hwid, hdep⟩ := id hpre
  cases hds with
  | @cons v0 _ _ _ hv t =>
  cases t
  refine ⟨_, (pss_cons (ps_par (by rfl) sc_law_bent.nd (i := 2) (j := 3) rfl rfl (by decide) rfl rfl (pa_cons (pe_callD D_law_pull (hr.mono (by omega)) pass0 (pa_cons (pv 0) (pa_cons (pe_op op_add (pe_callB call_len_seq (by rfl) T.n_len (by decide +kernel) (pa_cons (pv 1) pa_nil)) pe_int) pa_nil))) (pa_cons (pe_lst (pa_cons pe_non (pa_cons pe_int (pa_cons pe_bl (pa_cons pe_str (pa_cons pe_str (pa_cons pe_str (pa_cons (pe_tup pa_nil) (pa_cons (pe_tup (pa_cons pe_str pa_nil)) (pa_cons (pe_tup (pa_cons pe_str pa_nil)) (pa_cons (pe_lst pa_nil) (pa_cons (pe_un un_neg pe_int) (pa_cons pe_int (pa_cons pe_int (pa_cons pe_str pa_nil))))))))))))))) pa_nil)) (by rfl))
 (pss_cons (ps_set (i := 3) sc_law_bent.nd rfl (Or.inl rfl) (pe_op op_cat (pv 3) (pe_lst (pa_cons (pe_tup (pa_cons (pe_tup (pa_cons pe_str (pa_cons pe_int pa_nil))) (pa_cons (pe_tup (pa_cons pe_str (pa_cons pe_int pa_nil))) pa_nil))) (pa_cons (pe_tup (pa_cons (pe_tup (pa_cons pe_str (pa_cons pe_int pa_nil))) pa_nil)) (pa_cons (pe_op op_repT (pe_tup (pa_cons (pe_tup (pa_cons pe_str (pa_cons pe_int pa_nil))) pa_nil)) pe_int) (pa_cons (pe_tup (pa_cons pe_str (pa_cons (pe_tup (pa_cons pe_str pa_nil)) pa_nil))) (pa_cons (pe_tup (pa_cons pe_str (pa_cons pe_str (pa_cons (pe_tup (pa_cons pe_str pa_nil)) pa_nil)))) pa_nil))))))))
 (pss_cons (ps_set (i := 4) sc_law_bent.nd rfl (Or.inl rfl) (pe_lst (pa_cons (pe_op (show OpR _ _ (rCatA K) from op_catA) (pe_slice sl_tupA (pv 1) po_none (po_some (pv 2))) (pe_slice sl_tupA (pv 1) (po_some (pe_op op_add (pv 2) pe_int)) po_none)) (pa_cons (pe_op (show OpR _ _ (rCatA K) from op_catA) (pe_op (show OpR _ _ (rCatA K) from op_catA) (pe_slice sl_tupA (pv 1) po_none (po_some (pv 2))) (pe_tup (pa_cons (pe_callD D_law_one (hr.mono (by omega)) pass0 (pa_cons (pv 0) (pa_cons (pv 3) pa_nil))) pa_nil))) (pe_slice sl_tupA (pv 1) (po_some (pv 2)) po_none)) (pa_cons (pe_op (show OpR _ _ (rCatA K) from op_catA) (pv 1) (pv 1)) (pa_cons (pe_callTy call_list_of (by rfl) T.n_list (by decide +kernel) (pa_cons (pv 1) pa_nil)) pa_nil))))))
 (pss_cons (ps_if (pt_cmpR op_lt (pv 2) (pe_callB call_len_seq (by rfl) T.n_len (by decide +kernel) (pa_cons (pv 1) pa_nil)) (nomark _))
 (pss_cons (ps_set (i := 5) sc_law_bent.nd rfl (Or.inl rfl) (pe_ifExp (PW.pt (pw_and (pt_val (pe_callB call_isi (by rfl) T.n_isinstance (by decide +kernel) (pa_cons (pe_ix ix_tup (pv 1) (pv 2) (fun _ _ => rfl)) (pa_cons (pe_bltn (v := .ty "tuple") (by rfl) T.n_tuple (by decide +kernel) rfl) pa_nil)))) (pw_and1 (pt_cmpR (op_neD hr.units) (pe_ix ix_tup (pv 1) (pv 2) (fun _ _ => rfl)) (pe_tup pa_nil) (nomark _))))) (pe_callD D_law_bent (hr.mono (by omega)) pass0 (pa_cons (pv 0) (pa_cons (pe_ix ix_tup (pv 1) (pv 2) (fun _ _ => rfl)) pa_nil))) (pe_callD D_law_one (hr.mono (by omega)) pass0 (pa_cons (pv 0) (pa_cons (pv 3) pa_nil)))))
 (pss_one (ps_set (i := 4) sc_law_bent.nd rfl (Or.inl rfl) (pe_op op_cat (pv 4) (pe_op op_rep (pe_lst (pa_cons (pe_op (show OpR _ _ (rCatA K) from op_catA) (pe_op (show OpR _ _ (rCatA K) from op_catA) (pe_slice sl_tupA (pv 1) po_none (po_some (pv 2))) (pe_tup (pa_cons (pv 5) pa_nil))) (pe_slice sl_tupA (pv 1) (po_some (pe_op op_add (pv 2) pe_int)) po_none)) pa_nil)) pe_int)))))
 pss_nil)
 (pss_one (ps_ret (pe_callD D_law_one (hr.mono (by omega)) pass0 (pa_cons (pv 0) (pa_cons (pe_op op_cat (pv 4) (pe_lst (pa_cons (pv 1) pa_nil))) pa_nil))))))))), ?_⟩
  have hlen1 : vs.length + 1 < 1073741824 := by omega
  refine q_parR (R := fun ds => ∃ z : Int, ds = [.int z, .list odd1] ∧ 0 ≤ z ∧ z ≤ vs.length) w ((drs_cons (dr_turn rfl (ev_op (ev_lenT (evd_var rfl hv)) ev_c rv_I0) (by omega) (by omega)) (drs_cons (dr_of (evd_lst (ds := odd1) (by repeat (first | exact evd_nil | exact evd_str ev_c (by decide) | exact evd_int ev_c | exact evd_int (ev_un ev_c ru_neg) | exact evd_bl ev_c | exact evd_non ev_c | refine evd_cons ?_ ?_ | refine evd_tup ?_ (by simp) | refine evd_lst ?_ (by simp))) (by simp))) drs_nil)).imp fun ds ⟨d, r, e, ⟨z, e2, z0, z1⟩, d2, r2, e3, e4, e5⟩ => ⟨z, by rw [e, e2, e3, e4, e5], z0, by omega⟩) (fun v2 v3 d2 d3 G1 H1 r1 p hd2 hd3 => ?_) (fun ds ⟨z, e, _⟩ => by rw [e]; rfl)
  obtain ⟨z, e, z0, z1⟩ := p
  cases e
  obtain ⟨j, rfl⟩ := Int.eq_ofNat_of_zero_le z0
  have hj : j ≤ vs.length := by omega
  cases hd2.int_
  have hv1 := hv.up r1.g
  try dsimp only [List.set]
  refine q_asgR (P := fun d => d = .list odds) r1.w ((dr_of (evd_catL (evd_var rfl hd3) (evd_lst (ds := odd2) (by repeat (first | exact evd_nil | exact evd_str ev_c (by decide) | exact evd_int ev_c | refine evd_cons ?_ ?_ | exact evd_repT (ds := [.tuple [.str "alu", .int 0]]) (evd_tup (evd_cons (evd_tup (evd_cons (evd_str ev_c (by decide)) (evd_cons (evd_int ev_c) evd_nil)) (by simp)) evd_nil) (by simp)) ev_c (by decide) (by decide) (by simp) (by simp) | refine evd_tup ?_ (by simp))) (by simp)) (by simp))).imp fun d e => e) fun v4 d4 G2 H2 r2 e hd4 => ?_
  subst e
  have r12 := r1.trans r2
  have hv2 := hv1.up r2.g
  try dsimp only [List.set]
  have s1 : ∀ {σ' : L2.St} {G' : Hp}, EvD (tVar 1) σ' G' (.tuple vs) → Ev (tVar 2) σ' G' (.int (j : Nat)) → EvD (tSl (rSlA K) (tVar 1) tNoPart (tPart (tVar 2))) σ' G' (.tuple (vs.take j)) := fun h h2 => EvD.is (evd_sl h EvO.none_ (EvO.some_ h2)) (by rw [cutD_to])
  have s2 : ∀ {σ' : L2.St} {G' : Hp}, EvD (tVar 1) σ' G' (.tuple vs) → Ev (tVar 2) σ' G' (.int (j : Nat)) → EvD (tSl (rSlA K) (tVar 1) (tPart (tVar 2)) tNoPart) σ' G' (.tuple (vs.drop j)) := fun h h2 => EvD.is (evd_sl h (EvO.some_ h2) EvO.none_) (by rw [cutD_from])
  have s3 : ∀ {σ' : L2.St} {G' : Hp}, EvD (tVar 1) σ' G' (.tuple vs) → Ev (tVar 2) σ' G' (.int (j : Nat)) → EvD (tSl (rSlA K) (tVar 1) (tPart (tOp (rI0 fun i j => .int (i + j)) (tVar 2) (tC (.int 1)))) tNoPart) σ' G' (.tuple (vs.drop (j + 1))) := fun h h2 => EvD.is (evd_sl h (EvO.some_ (ev_op h2 ev_c rv_I0)) EvO.none_) (by rw [show ((j : Int) + 1) = ((j + 1 : Nat) : Int) by omega, cutD_from])
  have lodd : odds.length = 19 := rfl
  have one : ∀ {σ' : L2.St} {G' : Hp}, σ'[0]? = some (some (.ref L)) → EvD (tVar 3) σ' G' (.list odds) → Dr Lm L (tCallD (spDr Lm preP postP) E0 (tCons (tVar 0) (tCons (tVar 3) tNil))) σ' G' (fun d => d ∈ odds) := fun hL h => dr_pick hL h (by rw [lodd]; decide) (by rw [lodd]; decide)
  refine q_asgR (P := fun d => ∃ ds, d = .list ds ∧ ds.length = 4 ∧ ∀ x ∈ ds, Bent (.tuple vs) x) r2.w ((dr_lst (drs_cons (dr_cat (R := fun ds => ds = vs.take j) (R' := fun ds => ds = vs.drop (j + 1)) ((dr_of (s1 (evd_var rfl hv2) (ev_var rfl))).imp fun d e => ⟨_, e, rfl⟩) ((dr_of (s3 (evd_var rfl hv2) (ev_var rfl))).imp fun d e => ⟨_, e, rfl⟩) (fun ds es e e2 => by rw [e, e2, List.length_take, List.length_drop]; omega))
    (drs_cons (dr_cat (R := fun ds => ∃ o ∈ odds, ds = vs.take j ++ [o]) (R' := fun ds => ds = vs.drop j) ((dr_cat (R := fun ds => ds = vs.take j) (R' := fun ds => ∃ o ∈ odds, ds = [o]) ((dr_of (s1 (evd_var rfl hv2) (ev_var rfl))).imp fun d e => ⟨_, e, rfl⟩) ((dr_tup (drs_cons (one rfl (evd_var rfl hd4)) drs_nil) (fun ds ⟨_, _, e, _, e2⟩ => by rw [e, e2]; simp)).imp fun d ⟨ds, e, o, r, e2, ho, e3⟩ => ⟨ds, e, o, ho, by rw [e2, e3]⟩) (fun ds es e ⟨o, _, e2⟩ => by rw [e, e2, List.length_take, List.length_singleton]; omega)).imp fun d ⟨ds, es, e, e2, o, ho, e3⟩ => ⟨_, e, o, ho, by rw [e2, e3]⟩) ((dr_of (s2 (evd_var rfl hv2) (ev_var rfl))).imp fun d e => ⟨_, e, rfl⟩) (fun ds es ⟨o, _, e⟩ e2 => by rw [e, e2, List.length_append, List.length_take, List.length_drop, List.length_singleton]; omega))
    (drs_cons (dr_of (evd_cat (evd_var rfl hv2) (evd_var rfl hv2) (by omega))) (drs_cons (dr_of (evd_listOf (evd_var rfl hv2))) drs_nil)))) ?_).imp fun d ⟨ds, e, hR⟩ => ?_) fun v5 d5 G3 H3 r3 p5 hd5 => ?_
  · rintro ds ⟨_, _, rfl, _, _, _, rfl, _, _, _, rfl, _, _, _, rfl, _, rfl⟩
    simp
  · obtain ⟨_, _, rfl, ⟨_, _, rfl, rfl, rfl⟩, _, _, rfl, ⟨_, _, rfl, ⟨o, ho, rfl⟩, rfl⟩, _, _, rfl, rfl, _, _, rfl, rfl, rfl⟩ := hR
    refine ⟨_, e, rfl, fun x hx => ?_⟩
    simp only [List.mem_cons, List.not_mem_nil, or_false] at hx
    rcases hx with rfl | rfl | rfl | rfl
    · exact bent_out hok j
    · exact bent_in hok j ho
    · exact bent_two hok
    · exact bent_list hok
  obtain ⟨so, rfl, l4, hso⟩ := p5
  have r13 := r12.trans r3
  have hv3 := hv2.up r3.g
  have hd4 := hd4.up r3.g
  have fin : ∀ {G4 H4 : Hp} {xs : List PyData} {v6 : V} {u : Option V}, GrB Lm L G H G4 H4 → Da G4 v0 (.tuple vs) → Da G4 v6 (.list xs) → xs.length ≤ 20 → (∀ x ∈ xs, Bent (.tuple vs) x) → tRet (tCallD (spDr Lm preP postP) E0 (tCons (tVar 0) (tCons (tOp rCat (tVar 4) (tLst (tCons (tVar 1) tNil))) tNil))) { nx := fun x H' => Q V.non H', rt := Q } [some (.ref L), some v0, some (.int (j : Nat)), some v4, some v6, u] H4 := fun {G4 H4 xs v6 u} r hv6 hd6 hl hx => by
    refine s_retR r.w (dr_pick rfl (evd_catL (evd_var rfl hd6) (evd_lst (ds := [.tuple vs]) (evd_cons (evd_var rfl hv6) evd_nil) (by simp)) (by rw [List.length_singleton]; omega)) (by rw [List.length_append, List.length_singleton]; omega) (by rw [List.length_append, List.length_singleton]; omega)) (fun v d G5 H5 r5 p hd => q v d G5 H5 (r.trans r5) (fun vs' e => ?_) hd)
    cases e
    rcases List.mem_append.mp p with p | p
    · exact hx d p
    · rw [List.mem_singleton.mp p]
      exact bent_self hok
  refine q_ifR r3.w (drt_of (et_test (ev_op (ev_var rfl) (ev_lenT (evd_var rfl hv3)) rv_I0))) (fun c G4 H4 r4 => ?_) (fun c G4 H4 r4 => ?_)
  · have hlt : j < vs.length := by
      have := of_decide_eq_true c.symm
      omega
    obtain ⟨x, hx⟩ : ∃ x, vs[j]? = some x := ⟨_, List.getElem?_eq_getElem hlt⟩
    have hm := List.mem_of_getElem? hx
    have hxk : okD x = true := okDs_iff.mp hok x hm
    have hxn : Nc x.depth x.weight (wid x) x := ⟨hxk, Nat.le_refl _, Nat.le_refl _, Nat.le_refl _⟩
    have hxd : x.depth ≤ 20 := by
      have := depthAll_mem hm
      rw [tup_depth] at hdep
      omega
    have r14 := r13.trans r4
    have hv4 := hv3.up r4.g
    have hd4 := hd4.up r4.g
    have hd5 := hd5.up r4.g
    have ix : ∀ {σ' : L2.St} {G' : Hp}, EvD (tVar 1) σ' G' (.tuple vs) → Ev (tVar 2) σ' G' (.int (j : Nat)) → EvD (tOp (rIxT K) (tVar 1) (tVar 2)) σ' G' x := fun h h2 => evd_ixT h h2 (atI_nat hx)
    refine q_asgR (P := fun d => Bent x d ∨ d ∈ odds) r4.w (dr_if (drt_of (et_and (et_B (ev_isTup (ix (evd_var rfl hv4) (ev_var rfl)))) fun _ => et_test (ev_neD (ix (evd_var rfl hv4) (ev_var rfl)) (evd_tup evd_nil (by decide)) (okD_flat _ hxk) rfl (hxn.shaped (by omega)) rfl))) (fun hb => ?_) (fun hb => (one rfl (evd_var rfl hd4)).imp fun d h => .inr h)) fun v6 d6 G5 H5 r5 p6 hd6 => ?_
    · have hb : (kd x == "tuple") = true := (Bool.and_eq_true_iff.mp hb.symm).1
      obtain ⟨ws, rfl⟩ := kd_tup (eq_of_beq hb)
      exact (dr_call (Pre := preB n) (Post := postB) rfl (drs_of (evd_cons (ix (evd_var rfl hv4) (ev_var rfl)) evd_nil)) (fun ds e => by rw [e]; exact pre_part hpre hm)).imp fun d ⟨ds, e, p⟩ => .inl (p ws e)
    · have hv5 := hv4.up r5.g
      have hd5 := hd5.up r5.g
      have ex := bent_ex hok hx p6
      have ex1 : EvD (tOp (rCatA K) (tOp (rCatA K) (tSl (rSlA K) (tVar 1) tNoPart (tPart (tVar 2))) (tTup (tCons (tVar 5) tNil))) (tSl (rSlA K) (tVar 1) (tPart (tOp (rI0 fun i j => .int (i + j)) (tVar 2) (tC (.int 1)))) tNoPart)) [some (.ref L), some v0, some (.int (j : Nat)), some v4, some v5, some v6] G5 (.tuple ((vs.take j ++ [d6]) ++ vs.drop (j + 1))) :=
        evd_cat (evd_cat (s1 (evd_var rfl hv5) (ev_var rfl)) (evd_tup (ds := [d6]) (evd_cons (evd_var rfl hd6) evd_nil) (by simp)) (by rw [List.length_take, List.length_singleton]; omega)) (s3 (evd_var rfl hv5) (ev_var rfl)) (by rw [List.length_append, List.length_take, List.length_drop, List.length_singleton]; omega)
      refine s_asgD r5.w.s (d := .list (so ++ (List.replicate 3 [PyData.tuple ((vs.take j ++ [d6]) ++ vs.drop (j + 1))]).flatten)) (evd_catL (evd_var rfl hd5) (evd_repL (evd_lst (evd_cons ex1 evd_nil) (by simp)) ev_c (by decide) (by decide) (by simp)) (by simp; omega)) fun v7 G6 H6 r6 hd7 => ?_
      refine fin ((r14.trans r5).gr r6) (hv5.up r6.g) hd7 (by simp; omega) fun y hy => ?_
      rcases List.mem_append.mp hy with hy | hy
      · exact hso y hy
      · simp only [List.replicate_succ, List.replicate_zero, List.flatten_cons, List.flatten_nil, List.singleton_append, List.append_nil, List.mem_cons, List.not_mem_nil, or_false, or_self] at hy
        rw [hy]
        exact ex
  · exact fin (r13.trans r4) (hv3.up r4.g) (hd5.up r4.g) (by omega) hso
end
end My
set_option maxHeartbeats 4000000
/-! repr of data, or of an empty dict -/
namespace Lf
open PySem PySem.Spec PyProof.Rows L2 Evl
def rReprX (K : PySem.W.Frag) : List V → Hp → VK → Prop := fun xs H Q => rReprD K xs H Q ∨ ∃ a, xs = [.ref a] ∧ H a = some (.dK []) ∧ Q (.str "{}") H
section
variable {X : Cx} {n : Nat}
theorem call_reprX (hgd : X.A.guards = some []) (hr : Room n X.A) : CallR X (.builtin "repr") (rReprX X.K) := by
  intro pins s σ H xs us Q I r h
  rcases h with h | ⟨a, rfl, e, q⟩
  · exact call_reprD hgd hr pins s σ H xs us Q I r h
  · obtain ⟨u, rfl, ru⟩ := r.one
    cases ru
    obtain ⟨_, nsm, vs, kv, o, es, ep, ho, hx, hd, _, hp, _⟩ := I.hok a _ e
    cases kv
    have he : es.toList = [] := by
      generalize es.toList = l at hp
      cases hp
      rfl
    have rd : Reads s.heap (.ref a) (.dict []) ([a] ++ []) := .dict ho hx.1 hd (by rw [he]; exact .nil) (by rw [he]; exact .nil)
    have hu := hr.units
    have es : (PyData.dict []).shown = "{}" := by decide +kernel
    refine repr_of_reads' rd rfl (fun _ m => ?_) hgd (by show X.A.units + (0 + 1 + 1) < cLine; omega) (fun b o e => e) (fun h' u tk hk => ⟨.str _, H, I.kept hk, ⟨u, rfl⟩, ?_⟩) (by rw [es]; decide)
    · rw [List.append_nil, List.mem_singleton] at m
      rw [← m] at nsm
      exact absurd nsm (by simp)
    · rw [es]
      exact q
end
end Lf
set_option maxHeartbeats 4000000
namespace My
open PySem L2 Lf Evl Tr StX
abbrev s_law_right : Stmt := top 39
theorem sc_law_right : FnScope ["_law_value", "_law_text", "_law_due", "_law_turn"] ["_law_value"] (defScope s_law_right) := ⟨rfl, rfl, rfl, by decide +kernel, rfl, by decide +kernel, by decide +kernel⟩
/-- what can be shown -/
structure Shw (d : PyData) : Prop where
  flat : flatD d = true
  show_ : d.showable = true
  dict : d.hasDict = false
  dep : d.depth ≤ 32
  len : d.shown.length ≤ sizeLine
structure RtOk (d : PyData) : Prop where
  shw : Shw d ∨ d = .dict []
  judge : okZ 9 d = true
  judge8 : okZ 8 d = true
  dep : d.depth ≤ 8
def spRt : Sp := fun vs H Q _ => ∃ G v d, vs = [v] ∧ Ex G H ∧ Da G v d ∧ RtOk d ∧ ∀ H', Ex H H' → Q (.bl true) H'
theorem nc_rt {k b m : Nat} {d : PyData} (h : Nc k b m d) (hk : k ≤ 7) (hb : b ≤ 1000) (hm : m ≤ 60) : RtOk d := by
  have n : ncB d = true := ncB_iff.mpr (h.mono (by omega) (by omega) hm)
  have dd := h.dep
  refine ⟨.inl ⟨okD_flat d h.ok, okD_show d h.ok, okD_dict d h.ok, by omega, h.shown (by omega) (by omega)⟩, ?_, ?_, by omega⟩
  · unfold okZ
    rw [okV_of n, decide_eq_true (show d.depth < 9 by omega), Bool.or_true]
    rfl
  · unfold okZ
    rw [okV_of n, decide_eq_true (show d.depth < 8 by omega), Bool.or_true]
    rfl
section
variable {K : PySem.W.Frag} {σ : L2.St} {G : Hp} {te : TE} {d : PyData}
theorem eva_one {v : V} (h : Ev te σ G v) : EvA (tCons te tNil) σ G [v] := fun H1 x Q q => h H1 x _ fun H2 x2 => q H2 x2
theorem ev_reprV (h : EvD te σ G d) (hd : Shw d ∨ d = .dict []) : Ev (tCB (rReprX K) (tCons te tNil)) σ G (.str d.shown) := fun H1 x Q q => h G H1 (Ex.refl _) x _ fun v G2 H2 r hd2 => by
  rcases hd with hd | rfl
  · exact .inl ⟨v, d, rfl, Da.dp d v (hd2.up r.s) hd.flat, hd.show_, hd.dict, hd.dep, hd.len, q H2 r.h⟩
  · have e : (PyData.dict []).shown = "{}" := by decide +kernel
    cases hd2 with
    | dct e2 hk =>
      cases hk
      exact .inr ⟨_, rfl, r.s _ _ e2, by rw [← e]; exact q H2 r.h⟩
theorem bools_shw (a b : Bool) : Shw (.list [.bool a, .bool b]) := by
  cases a <;> cases b <;> exact ⟨rfl, rfl, rfl, by decide, by decide +kernel⟩
end
section
variable {P : Program} {w : World} {K : PySem.W.Frag} {mg : Str → Option Value} {base : Heap}
theorem ok_law_right (T : Txt K mg) (D : Df K mg "_law_right" s_law_right) (D_law_size : DefOk P w K mg base CX0 9 "_law_size" ["_law_value", "_law_is_top"] (spF (fZ 8))) (D_law_is_rule : DefOk P w K mg base CX0 10 "_law_is_rule" ["_law_value"] (spO (fR 8)))
    (D_is_shape : DefOk P w K mg base CX0 8 "is_shape" ["value"] (spB isSh)) (D_is_pattern : DefOk P w K mg base CX0 9 "is_pattern" ["value"] (spO (fV isPat))) : DefOkG P w K mg base CX0 11 "_law_right" ["_law_value"] spRt := by
  refine D.okG sc_law_right (fun _ _ _ _ _ _ us hl => match us, hl with | [_], _ => rfl) (fun vs H Q E h => ?_) (fun f cdv A outer s H vs Q E hg hr h => ?_)
  · obtain ⟨_, _, _, rfl, _⟩ := h
    rfl
  obtain ⟨G, v, d, rfl, s, hd, ok, q⟩ := h
  refine ⟨_, (pss_cons (ps_par (by rfl) sc_law_right.nd (i := 1) (j := 2) rfl rfl (by decide) rfl rfl (pa_cons (pe_callB (call_reprX hg hr) (by rfl) T.n_repr (by decide +kernel) (pa_cons (pv 0) pa_nil)) (pa_cons (pe_lst (pa_cons (pe_cmpR op_le (pe_callD D_law_size (hr.mono (by decide)) pass0 (pa_cons (pv 0) (pa_cons pe_bl pa_nil))) pe_int (nomark _)) (pa_cons (pe_callD D_law_is_rule (hr.mono (by decide)) pass0 (pa_cons (pv 0) pa_nil)) pa_nil))) pa_nil)) (by rfl))
 (pss_cons (ps_for PassesOwn.never rfl (pi_range1 (by rfl) T.n_range (pa_cons pe_int pa_nil)) (pg_name (i := 3) sc_law_right.nd rfl (Or.inl rfl))
 (pss_one (ps_if (PW.pt (pw_or (pt_cmpR op_ne (pe_callB (call_reprX hg hr) (by rfl) T.n_repr (by decide +kernel) (pa_cons (pe_lst (pa_cons (pe_callD D_is_shape (hr.mono (by decide)) pass0 (pa_cons (pv 0) pa_nil)) (pa_cons (pe_callD D_is_pattern (hr.mono (by decide)) pass0 (pa_cons (pv 0) pa_nil)) pa_nil))) pa_nil)) (pe_callB (call_reprX hg hr) (by rfl) T.n_repr (by decide +kernel) (pa_cons (pv 2) pa_nil)) (nomark _)) (pw_or1 (pt_cmpR op_ne (pe_callB (call_reprX hg hr) (by rfl) T.n_repr (by decide +kernel) (pa_cons (pv 0) pa_nil)) (pv 1) (nomark _)))))
 (pss_one (ps_ret pe_bl))
 pss_nil)))
 (pss_one (ps_ret pe_bl)))), ?_⟩
  have e1 := sh_sz 8 d ok.dep
  have e2 := rl_pat 8 d (Nat.le_succ_of_le ok.dep)
  have hv : okV d = true := (Bool.and_eq_true_iff.mp (Bool.and_eq_true_iff.mp ok.judge).2).1
  refine ev_reprV (evd_var rfl hd) ok.shw H s _ fun H1 x1 => ?_
  refine (evd_lst (ds := [.bool (isSh d), .bool (isPat d)]) (evd_cons (evd_bl (ev_is (ev_op (EvD.int_ (evd_callZ (top := true) (evd_var rfl hd) ev_c ok.judge8)) ev_c rv_I0) (by rw [e1]))) (evd_cons (evd_bl (ev_is (EvD.bl_ (evd_callO (e := .bool (isRl 8 d)) (evd_var rfl hd) (by unfold fR; rw [if_pos ok.judge]))) (by rw [e2]))) evd_nil)) (by simp)) G H1 (Ex.refl _) (s.trans x1) _ fun v2 G2 H2 r2 hd2 => ?_
  refine ⟨_, _, rfl, ?_⟩
  have hdd := hd.up r2.g
  have s2 := r2.s
  refine q_forR1 (n := 2) (eva_one ev_c) ⟨by omega, by omega⟩ (fun i σ' H' => (∃ u, σ' = [some v, some (.str d.shown), some v2, u]) ∧ Ex H2 H') (fun H3 x3 => ⟨⟨_, rfl⟩, x3⟩) ?_ ?_
  · rintro i σ' H' hi ⟨⟨u, rfl⟩, y⟩
    refine Lf.s_ifD (s2.trans y) (b := false) (et_or (b := false) (et_test (ev_neR (ev_reprV (evd_lst (ds := [.bool (isSh d), .bool (isPat d)]) (evd_cons (evd_bl (ev_callB (evd_var rfl hdd))) (evd_cons (evd_bl (ev_callV (evd_var rfl hdd) hv)) evd_nil)) (by simp)) (.inl (bools_shw _ _))) (ev_reprV (evd_var rfl hd2) (.inl (bools_shw _ _))) rfl)) fun _ => et_test (ev_neR (ev_reprV (evd_var rfl hdd) ok.shw) (ev_var rfl) rfl)) (fun z => by cases z) (fun _ H4 x4 => ⟨⟨_, rfl⟩, y.trans x4⟩)
  · rintro σ' H' ⟨⟨u, rfl⟩, y⟩
    exact q H' ((x1.trans r2.h).trans y)
end
end My
set_option maxHeartbeats 4000000
/-! The end of a law with one table of code objects (a def with lambdas), where no repr is under way. law_callT1 follows the library's law_callTs, for one table and with the premise of LfGuard. -/
namespace LfT
open PySem PySem.Spec PyProof.Rows L2 LamX
/-- what may be tracked at the law's own call: the script and the table -/
def H0 (a T : Addr) (o : Obj) (xs : List V) : Hp := fun b => if b = T then some (.tbl #[]) else if b = a then some (.frz o (.lst xs)) else none
section
variable {P : Program} {w : World} {K : PySem.W.Frag} {mg mb : Str → Option Value} {CX : CXT} {k : Nat} {fa a c T : Addr} {fd : FuncData} {x : Str} {sp : Sp} {s₁ : Shared} {vs : List Value} {ns : List Int}
theorem law_core {H : Hp} (KX : K.In s₁.heap) (hns : s₁.heap.Ns mainGlobals mg) (hb : s₁.heap.Ns builtinsNs mb) (hbb : ∀ x : Str, x ≠ "__name__" → mb x = bootBuiltins x) (hlim : s₁.heap.NoLimit) (hg : s₁.gens = #[])
    (hT : s₁.heap.get? T = some { cls := .none, data := .fields #[] }) (nT : K.lookup T = none) (C : PySem.W.CodeHd s₁.heap c T)
    (hbm : ∃ (bm : Addr) (ob : Obj), mg "__builtins__" = some (.ref bm) ∧ bm ≠ builtinsNs ∧ s₁.heap.get? bm = some ob ∧ ob.cls = .type "module" ∧ ob.dict = some builtinsNs ∧ ob.data = .plain)
    (ha : s₁.heap.get? a = some { cls := .type "list", data := .seq vs.toArray }) (hr : Room k callerA)
    (F : ∀ base : Heap, K.In base → base.Ns mainGlobals mg → TabB base mg c T → FnOkG P w K mg base CX k fa fd [x] sp) (hbind : ∀ (s : Shared) (u : Value), BindsTo s fd ⟨[u], []⟩ [(x, u)])
    (hsp : sp [.ref a] H (fun v _ => v = .bl true) fun _ _ _ => False) (hCX : ∀ H e s', CX [] H s₁ (fun _ _ _ => False) e s' → False)
    (hH : H T = some (.tbl #[])) (hO : ∀ b u, H b = some u → b = T ∨ (b = a ∧ K.lookup a = none ∧ ∃ o xs, u = .frz o (.lst xs))) (hok : HOk P w H s₁.heap) :
    codeAny (model P w) callerA (.call (.ref fa) ⟨[.ref a], []⟩) (fun r s' => r = .ok (.ret (.bool true)) ∧ OldK s₁.heap s'.heap ∧ s'.os = s₁.os ∧ AllBare s'.gens) s₁ := by
  have free : ∀ {b : Addr} {o : Obj}, s₁.heap.get? b = some o → (∀ us n, o.data ≠ .seq us n) → o.data ≠ .fields #[] → H b = none := fun {b o} e n1 n2 => by
    cases q : H b with
    | none => rfl
    | some u =>
      rcases hO b u q with z | ⟨z, _⟩
      · rw [z, hT] at e; cases e; exact (n2 rfl).elim
      · rw [z, ha] at e; cases e; exact (n1 _ _ rfl).elim
  have put : ∀ {b : Addr} {o : Obj}, s₁.heap.get? b = some o → H b = none → (hidT s₁.heap H).get? b = some o := fun e n => hidT_get e n
  have nsK : ∀ {b : Addr} {m : Str → Option Value}, s₁.heap.Ns b m → (hidT s₁.heap H).Ns b m := fun {b m} ⟨o, es, ep, e, d, r⟩ =>
    ⟨o, es, ep, put e (free e (fun us n z => by rw [d] at z; cases z) fun z => by rw [d] at z; cases z), d, r⟩
  have inB : K.In (hidT s₁.heap H) := fun b o e => put (KX b o e) (by
    cases q : H b with
    | none => rfl
    | some u =>
      rcases hO b u q with z | ⟨z, z2, _⟩
      · rw [z, nT] at e; cases e
      · rw [z, z2] at e; cases e)
  have TB : TabB (hidT s₁.heap H) mg c T := by
    refine ⟨?_, ?_, fun z => ?_⟩
    · obtain ⟨o, us, f, tf, fl, tg, inF, tx, tt, e1, r1, r2, r3, r4⟩ := C
      exact ⟨o, us, f, tf, fl, tg, inF, tx, tt, put e1 (free e1 (fun us n z => by rw [r2] at z; cases z) fun z => by rw [r2] at z; cases z; simp at r3), r1, r2, r3, r4⟩
    · obtain ⟨bm, ob, b1, b2, b3, b4, b5, b6⟩ := hbm
      refine ⟨bm, ob, b1, b2, fun q => ?_, fun q => ?_, put b3 (free b3 (fun us n z => by rw [b6] at z; cases z) fun z => by rw [b6] at z; cases z), b4, b5, b6⟩
      · obtain ⟨o, es, ep, e, hd, _⟩ := hns
        rw [q, e] at b3; cases b3; rw [hd] at b6; cases b6
      · rw [q, hT] at b3; cases b3; cases b6
    · obtain ⟨o, es, ep, e, hd, _⟩ := hns
      rw [z, hT] at e; cases e; cases hd
  have md : L2.Mod K mg (hidT s₁.heap H) := ⟨inB, nsK hns, ⟨mb, nsK hb, hbb⟩, let ⟨mc, h1, h2⟩ := hlim; ⟨mc, nsK h1, h2⟩⟩
  have e0 : Env0 P w K mg (hidT s₁.heap H) callerA [] s₁ H := ⟨rfl, md, fun b o e => of_hidT e, Nat.le_of_eq (hidT_size _ _), trivial, fun b z => absurd (show b ∈ ([] : List Addr) from z) (by simp), hok, .of_eq hg⟩
  refine codeAny_mono ((F _ inB (nsK hns) TB).run callerA [] s₁ H ⟨[.ref a], []⟩ [.ref a] [.ref a] _ _ rfl hr e0 (hbind s₁ (.ref a)) (.cons rfl .nil) hsp) fun r s' z => ?_
  cases r with
  | error e => exact (hCX H e s' z).elim
  | ok fl =>
    cases fl with
    | next => exact False.elim z
    | brk => exact False.elim z
    | cont => exact False.elim z
    | ret u =>
      obtain ⟨v, H', os, bare, un, hok', r', q⟩ := z
      obtain rfl : v = .bl true := q
      obtain rfl : u = Value.bool true := r'
      have same : ∀ b o, b ≠ T → s₁.heap.get? b = some o → s'.heap.get? b = some o := fun b o nb e => by
        cases q : H b with
        | none => exact un.keep b o e q (by intro z; exact absurd (show b ∈ ([] : List Addr) from z) (by simp)) (by simp)
        | some u =>
          rcases hO b u q with z | ⟨_, _, ob, xs, rfl⟩
          · exact absurd z nb
          · obtain ⟨e1, _⟩ := hok b _ q
            obtain ⟨e2, _⟩ := hok' b _ (un.frzs b ob _ q)
            rw [e] at e1; cases e1
            exact e2
      obtain ⟨more, hm⟩ : ∃ more : Array Value, s'.heap.get? T = some { cls := .none, data := .fields more } := by
        obtain ⟨more, z⟩ := un.tbls T #[] hH
        exact ⟨_, hok' T _ z⟩
      refine ⟨rfl, ⟨fun b o e => ?_, fun b o e => ?_⟩, os, bare⟩
      · by_cases nb : b = T
        · subst nb
          rw [hT] at e; cases e
          exact .inr (.inl ⟨(C.tab hT).isCodeTable, rfl, #[], more, rfl, by rw [Array.empty_append]; exact hm⟩)
        · exact .inl (same b o nb e)
      · by_cases nb : b = T
        · subst nb
          exact ⟨_, hm⟩
        · exact ⟨o, same b o nb e⟩
theorem law_callT1 (KX : K.In s₁.heap) (hns : s₁.heap.Ns mainGlobals mg) (hb : s₁.heap.Ns builtinsNs mb) (hbb : ∀ x : Str, x ≠ "__name__" → mb x = bootBuiltins x) (hlim : s₁.heap.NoLimit) (hg : s₁.gens = #[])
    (hT : s₁.heap.get? T = some { cls := .none, data := .fields #[] }) (nT : K.lookup T = none) (C : PySem.W.CodeHd s₁.heap c T)
    (hbm : ∃ (bm : Addr) (ob : Obj), mg "__builtins__" = some (.ref bm) ∧ bm ≠ builtinsNs ∧ s₁.heap.get? bm = some ob ∧ ob.cls = .type "module" ∧ ob.dict = some builtinsNs ∧ ob.data = .plain)
    (ha : s₁.heap.get? a = some { cls := .type "list", data := .seq vs.toArray }) (hi : IntsAre vs ns) (hl : ns.length ≤ sizeLine) (hr : Room k callerA)
    (F : ∀ base : Heap, K.In base → base.Ns mainGlobals mg → TabB base mg c T → FnOkG P w K mg base CX k fa fd [x] sp) (hbind : ∀ (s : Shared) (u : Value), BindsTo s fd ⟨[u], []⟩ [(x, u)])
    (hsp : ∀ H : Hp, H T = some (.tbl #[]) → SqL K H a (ns.map V.int) → sp [.ref a] H (fun v _ => v = .bl true) fun _ _ _ => False) (hCX : ∀ H e s', CX [] H s₁ (fun _ _ _ => False) e s' → False) :
    codeAny (model P w) callerA (.call (.ref fa) ⟨[.ref a], []⟩) (fun r s' => r = .ok (.ret (.bool true)) ∧ OldK s₁.heap s'.heap ∧ s'.os = s₁.os ∧ AllBare s'.gens) s₁ := by
  have rv := vals_ints hi
  have lenV := hi.length
  have ne : a ≠ T := fun z => by
    rw [z, hT] at ha
    have q : Data.fields #[] = Data.seq vs.toArray _ := congrArg Obj.data (Option.some.inj ha)
    cases q
  cases hk : K.lookup a with
  | some o =>
    have e := KX a o hk
    rw [ha] at e
    cases e
    refine law_core (H := fun b => if b = T then some (.tbl #[]) else none) KX hns hb hbb hlim hg hT nT C hbm ha hr F hbind (hsp _ (if_pos rfl) (.inr ⟨_, vs.toArray, _, hk, rfl, rfl, rfl, by rw [List.size_toArray, lenV]; exact hl, by simpa using rv⟩)) hCX (if_pos rfl) (fun b u z => ?_) (fun b u z => ?_)
    · by_cases q : b = T
      · exact .inl q
      · have z' := (if_neg q).symm.trans z
        cases z'
    · by_cases q : b = T
      · have z' := (if_pos q).symm.trans z
        cases z'
        subst q
        exact hT
      · have z' := (if_neg q).symm.trans z
        cases z'
  | none =>
    refine law_core (H := H0 a T { cls := .type "list", data := .seq vs.toArray } (ns.map V.int)) KX hns hb hbb hlim hg hT nT C hbm ha hr F hbind (hsp _ (if_pos rfl) (.inl (.inr ⟨_, (if_neg ne).trans (if_pos rfl)⟩))) hCX (if_pos rfl) (fun b u z => ?_) (fun b u z => ?_)
    · by_cases q : b = T
      · exact .inl q
      · have z1 := (if_neg q).symm.trans z
        by_cases q2 : b = a
        · have z' := (if_pos q2).symm.trans z1
          cases z'
          exact .inr ⟨q2, hk, _, _, rfl⟩
        · have z' := (if_neg q2).symm.trans z1
          cases z'
    · by_cases q : b = T
      · have z' := (if_pos q).symm.trans z
        cases z'
        subst q
        exact hT
      · have z1 := (if_neg q).symm.trans z
        by_cases q2 : b = a
        · have z' := (if_pos q2).symm.trans z1
          cases z'
          subst q2
          exact ⟨ha, by rw [List.length_map]; exact hl, vs, _, rv, ha⟩
        · have z' := (if_neg q2).symm.trans z1
          cases z'
end
/-- the walk: the def y of the text has the lambdas -/
theorem walk_ofT1 {l : PySem.W.OpenLaw} {n k : Nat} {q : Program} {loose : List Str} {XP : (Str → Option Value) → Heap → Prop} {YP : World → Heap → Prop} {d : DefRec} {K : Params → PySem.W.Frag} {CX : CXT} {sp : PySem.W.Frag → Addr → Sp} {x y : Str} {dy : DefRec}
    (hn : l.most = some n) (hn2 : n ≤ sizeLine) (hdf : d.params.defaults = []) (hr : Room k callerA) (hrec : (recsOf q).find? (fun e => e.name == y) = some dy)
    (hY : ∀ (w : World) (h : Heap), YP w h → (K w.params).In h)
    (F : ∀ (w : World) (mg : Str → Option Value) (fa : Addr) (h : Heap), (K w.params).In h → h.Ns mainGlobals mg → mg d.name = some (.ref fa) →
      ∃ (fd : FuncData) (c T : Addr), PySem.W.tabIn (K w.params) y = some (c, T) ∧ (K w.params).lookup T = none ∧ (∀ (s : Shared) (u : Value), BindsTo s fd ⟨[u], []⟩ [(x, u)]) ∧
        ∀ base : Heap, (K w.params).In base → base.Ns mainGlobals mg → TabB base mg c T → FnOkG l.prog w (K w.params) mg base CX k fa fd [x] (sp (K w.params) T))
    (hsp : ∀ (K : PySem.W.Frag) (H : Hp) (a T : Addr) (ns : List Int), ns.length ≤ n → H T = some (.tbl #[]) → SqL K H a (ns.map V.int) → sp K T [.ref a] H (fun v _ => v = .bl true) fun _ _ _ => False)
    (hCX : ∀ (H : Hp) (s : Shared) (e : Value) (s' : Shared), CX [] H s (fun _ _ _ => False) e s' → False) :
    PySem.W.WalkO q loose XP YP l.row.toRowW d [] (fun f vs => PySem.call f vs) := by
  refine Att.attach_call hn hdf fun w s₀ s₁ mg mb fa o pm cd doc a vs ns G Y ho hd hcd hmg hobj hints hlen hg => ?_
  have KX := hY w _ Y
  obtain ⟨fd, c, T, ht, nT, hb, hF⟩ := F w mg fa _ KX G.T.g hmg
  obtain ⟨C, hT⟩ := PySem.W.tab_of G.T KX hrec ht
  exact law_callT1 KX G.T.g G.T.b G.T.builtins G.T.nolimit hg hT nT C G.T.bmain hobj hints (Nat.le_trans hlen hn2) hr hF hb (fun H hH hS => hsp (K w.params) H a T ns hlen hH hS) fun H e s' => hCX H s₁ e s'
end LfT
set_option maxHeartbeats 4000000
/-! x(lambda: e) where x is «def x(a): try: return a() / except E: return 'text'», with few premises; a def whose code object is known -/
namespace LfT
open PySem PySem.Spec PyProof.Rows L2 LamX
def DfC (K : PySem.W.Frag) (mg : Str → Option Value) (x : Str) (st : Stmt) (c : Addr) : Prop := ∃ f fd, Fun K x x st f fd ∧ mg x = some (.ref f) ∧ fd.code = .ref c
section
variable {P : Program} {w : World} {K : PySem.W.Frag} {mg : Str → Option Value} {base : Heap}
theorem DfC.okG {x : Str} {st : Stmt} {c : Addr} {N ps : List Str} {k : Nat} {sp : Sp} (D : DfC K mg x st c) (S : FnScope N ps (defScope st))
    (bd : ∀ (kV doc pm : Value) (an : Option Addr) (cdv ct : Value) (us : List Value), us.length = ps.length → bindArgs (PySem.W.fnOf x x (defArgs st) (defBody st) (defScope st) .none kV doc pm an cdv ct) ⟨us, []⟩ = pure (ps.zip us))
    (len : ∀ vs H Q E, sp vs H Q E → vs.length = ps.length)
    (hbody : ∀ (f : Addr) (A : Around) (outer : List Env) (s : Shared) (H : Hp) (vs : List V) (Q : VK) (E : XK), (A.deeper (envOfC x (defScope st) s.heap.objs.size f (.ref c))).guards = some [] → Room k (A.deeper (envOfC x (defScope st) s.heap.objs.size f (.ref c))) → sp vs H Q E →
      ∃ t, PSs (cxOf CX0 P w K mg base N x (defScope st) f (.ref c) A outer s H E).nox (defBody st) t ∧ t { nx := fun _ H' => Q .non H', rt := Q } (start N vs) H) : DefOkG P w K mg base CX0 (k + 1) x ps sp := by
  obtain ⟨f, fd, F, hm, hc⟩ := D
  refine ⟨f, fd, hm, F.kp, F.binds bd, ?_⟩
  obtain ⟨oc, od, kV, doc, pm, an, cdv, ct, osl, rfl, lk, hcd⟩ := F.ex
  obtain rfl : cdv = .ref c := hc
  refine fn_ofG lk hcd S len fun A outer s H vs Q E hg hr hsp => ?_
  obtain ⟨t, h, q⟩ := hbody f A outer s H vs Q E hg hr hsp
  exact ⟨t, h.nox, q⟩
end
section
variable {X : Cx}
theorem pe_told {x a e ret : Str} {st : Stmt} {Ng : List Str} {j : Nat} {p1 p2 p3 p4 p5 p6 p7 p8 p lpos pos : Pos} {c P CS : Addr} {k : Nat} {params : Arguments} {body : Expr} {scope : Scope} {t : XK → TE} (D : Df X.K X.mg x st)
    (hst : defBody st = [.Try [.Return (some (.Call (.Name a p1) [] [] p2)) p3] [.ExceptHandler (some (.Name e p4)) none [.Return (some (.Constant (.str ret) j p5)) p6] p7] [] [] p8])
    (Sg : FnScope Ng [a] (defScope st)) (hNg : Ng[0]? = some a) (hva : Vis (defScope st) a)
    (bd : ∀ (kV doc pm : Value) (an : Option Addr) (cdv ct : Value) (us : List Value), us.length = [a].length → bindArgs (PySem.W.fnOf x x (defArgs st) (defBody st) (defScope st) .none kV doc pm an cdv ct) ⟨us, []⟩ = pure ([a].zip us))
    (hge : (defScope st).names.lookup e = some .globalImplicit) (hme : X.mg e = some (.ref CS)) (h0 : ∀ f : Addr, (L2.start Ng [V.ref f])[0]? = some (some (V.ref f)))
    (TB : TabB X.base X.mg c P) (hcode : X.env.code = .ref c) (hg : Gl X x) (hr : Room (k + 2) X.A) (L : LamS X.env.scope scope) (hdef : defaultsOf params X.env = ([], []))
    (hbind : ∀ (q : Str) (cl : List (Str × Addr)) (pm cv ctv : Value), bindArgs (PySem.W.kla_fn "<lambda>" q params body scope cl pm cv ctv) ⟨[], []⟩ = pure [])
    (hbody : ∀ (A : Around) (outer : List Env) (s : Shared) (H : Hp) (E : XK) (f c' : Addr), Room k (A.deeper (lamEnv X scope s.heap.objs.size f c')) → PE (lamCx X A outer s H E scope f c') body (t E))
    (hde : (e == ("__debug__" : Str)) = false := by decide) (hdb : (x == ("__debug__" : Str)) = false := by decide) (hd : (a == ("__debug__" : Str)) = false := by decide) (hcd : (a == ("__classdict__" : Str)) = false := by decide) :
    PE X (.Call (.Name x p) [.Lambda params body scope lpos] [] pos) (tLam [(P, X.env.qual ++ "<lambda>")] (TTold X.K CS ret) t) := by
  obtain ⟨g, fd, F, hm⟩ := D
  have hb := F.binds bd
  obtain ⟨oc, od, kV, doc, pm, an, cdv, ct, osl, rfl, lk, hcg⟩ := F.ex
  refine pe_lamcall hg hm F.kp lk hcg hb Sg hNg hva ?_ TB hcode (by simp) (fun p hp _ => by cases List.mem_singleton.mp hp; rfl) hr L hdef hbind hbody hdb hd hcd
  rw [hst]
  exact told_gives hge hme hde h0
end
end LfT
set_option maxHeartbeats 4000000
/-! try: body / except A as n: .. / except B: .. : several clauses, with names or without (LfTry, and clauses without a name) -/
namespace L2
open PySem PySem.Spec PyProof.Rows
/-- the ends of a suite, with or without a name -/
def sufEndsM : Option Nat → Ends → Ends
  | none, D => D
  | some i, D => sufEnds i D
/-- what the clauses wish of an exception of the body, one behind the other: its class, the name's slot, the suite -/
def wMix (K : PySem.W.Frag) (Wout : WX) (D : Ends) : List (Value × Option Nat × (Addr → Value → Option Addr → TS)) → WX
  | [] => Wout
  | (c, i, ts) :: r => fun cls d σ H => ∃ b, PySem.W.exmOne K cls c = some b ∧ (b = true → ∀ a, H a = none → ts a cls d (sufEndsM i D) (match i with | none => σ | some i => σ.set i (some (.ref a))) H) ∧ (b = false → wMix K Wout D r cls d σ H)
inductive HdM (X : Cx) : List ExceptHandler → List (Value × Option Nat × (Addr → Value → Option Addr → TS)) → Prop
  | nil : HdM X [] []
  | cons {x n : Str} {c : Value} {i : Nat} {ts : Addr → Value → Option Addr → TS} {b₀ : Stmt} {suite : List Stmt} {np pos' : Pos} {hds : List ExceptHandler} {l : List (Value × Option Nat × (Addr → Value → Option Addr → TS))}
      (hi : X.N[i]? = some n) (hln : X.env.kindOf n = some .local) (hc : Names X x c)
      (hsu : ∀ (a : Addr) (oe : Obj) (cls : Value) (d : Option Addr) (pn : List (Addr × Obj)), Zc cls d oe → (∃ vs, oe.data = .fields vs) → PSs (X.suite a ((a, oe) :: pn)) (b₀ :: suite) (ts a cls d)) (r : HdM X hds l) :
      HdM X (.ExceptHandler (some (.Name x np)) (some n) (b₀ :: suite) pos' :: hds) ((c, some i, ts) :: l)
  | plain {x : Str} {c : Value} {ts : Addr → Value → Option Addr → TS} {b₀ : Stmt} {suite : List Stmt} {np pos' : Pos} {hds : List ExceptHandler} {l : List (Value × Option Nat × (Addr → Value → Option Addr → TS))} (hc : Names X x c)
      (hsu : ∀ (a : Addr) (oe : Obj) (cls : Value) (d : Option Addr) (pn : List (Addr × Obj)), Zc cls d oe → (∃ vs, oe.data = .fields vs) → PSs (X.suite a ((a, oe) :: pn)) (b₀ :: suite) (ts a cls d)) (r : HdM X hds l) :
      HdM X (.ExceptHandler (some (.Name x np)) none (b₀ :: suite) pos' :: hds) ((c, none, ts) :: l)
section
variable {X : Cx} {body : List Stmt} {h₀ : ExceptHandler} {hds : List ExceptHandler} {l : List (Value × Option Nat × (Addr → Value → Option Addr → TS))} {pos : Pos} {tb : WX → TS} {Wout : WX}
theorem ps_tryMix (hs : X.stack = X.env :: X.outer) (hf : X.env.frame = some X.env.locals) (hN : X.N.Nodup) (tk : Takes X Wout)
    (hb : ∀ (W : WX) (pn : List (Addr × Obj)) (xe : Value → Shared → Prop), Takes (X.tr pn xe) W → PassesOwn (model X.prog X.w) X.A X.env xe → PSs (X.tr pn xe) body (tb W))
    (hh : HdM X (h₀ :: hds) l) : PS X (.Try body (h₀ :: hds) [] [] pos) (fun D σ H => tb (wMix X.K Wout D l) D σ H) := by
  refine ⟨fun pins s σ H D I h => ?_⟩
  have ok := I.ok
  have hfr : X.A.frames = some (X.env :: X.outer) := by rw [ok.frames, hs]
  refine wpAny_Try_except ?_
  refine wpAny_mono ((hb (wMix X.K Wout D l) (X.pn ++ pins) (fun e s₁ => wpAny (model X.prog X.w) X.A (noteFrame e X.env) (fun _ s₂ => wpAny (model X.prog X.w) X.A (setFlight e none) (fun _ s₃ =>
    wpAny (model X.prog X.w) X.A (handleBy e X.env (h₀ :: hds)) (SP X pins D) X.xe s₃) X.xe s₂) X.xe s₁) (fun u s' xx => ?_) PassesOwn.looking).run [] s σ H D (I.toTry _) h) (fun f s1 hsp => ?_) (fun e s1 he => he)
  · obtain ⟨a, B, sI, pins', σ', H', cls, d, rfl, J', nb, up, sky, na, os, ag, w⟩ := xx
    have J : Inv X pins σ' H' sI := J'.ofTry ok
    have sky' : Sky B (X.env :: X.outer) a (Zc cls d) X.env.locals s'.heap := by rw [← hs]; exact sky
    show wpAny (model X.prog X.w) X.A (noteFrame (.ref a) X.env) _ _ _
    refine Sky.land Zc.steady hfr hf sky' fun h3 fl3 up3 => ?_
    have J3 : Inv X pins σ' H' { s' with heap := h3 } := J.landed nb fl3.1 (up.trans up3) os ag
    obtain ⟨oe3, vs3, he3, hz3, hd3⟩ := fl3.there
    have nfr : a ∉ frs (X.env :: X.outer) := fun hm => by
      obtain ⟨_, o', e', hnf⟩ := fl3.2.2.1.mem hm
      rw [he3] at e'; cases e'
      exact hnf _ hd3
    have nL : a ≠ X.env.locals := fun z => nfr (List.mem_filterMap.mpr ⟨X.env, List.mem_cons_self, by rw [hf, z]⟩)
    have nF : a ∉ X.fs := fun hm => by
      obtain ⟨e, he, q⟩ := List.mem_filterMap.mp hm
      exact nfr (List.mem_filterMap.mpr ⟨e, List.mem_cons_of_mem _ he, q⟩)
    have S3 := J3.suite he3 hd3 na nL nF
    have go : ∀ {hds' : List ExceptHandler} {l' : List (Value × Option Nat × (Addr → Value → Option Addr → TS))}, HdM X hds' l' → wMix X.K Wout D l' cls d σ' H' →
        wpAny (model X.prog X.w) X.A (handleBy (.ref a) X.env hds') (SP X pins D) X.xe { s' with heap := h3 } := by
      intro hds' l' hk
      induction hk with
      | nil =>
        intro w
        refine wpAny_handleBy_nil ?_
        obtain ⟨k1, k2, k3, oe, vs, T, oT, ts', he, hz, hd, h1, hr⟩ := id fl3
        unfold PySem.passOn
        refine wpAny_bind (wpAny_field he hd h1 ?_)
        rw [if_neg (show ¬ ((Value.ref T == Value.none) = true) from by simp)]
        have fin : wpAny (model X.prog X.w) X.A (setFlight (.ref a) X.env.frame) (fun _ s4 => wpAny (model X.prog X.w) X.A (throw (.ref a) : Sem Flow) (SP X pins D) X.xe s4) X.xe { s' with heap := h3 } := by
          rw [hf]
          refine HandSPX.setFlight_upZ fl3 fun h4 hh4 up4 => wpAny_throw (tk _ _ ?_)
          exact ⟨a, B, sI, pins, σ', H', cls, d, rfl, J, nb, (up.trans up3).trans up4, .inr (.inr (by rw [hs]; exact hh4)), na, os, ag, w⟩
        first
          | exact wpAny_bind (wpAny_pure (wpAny_bind fin))
          | exact wpAny_bind fin
      | @cons x n c i ts b₀ suite np pos' hds2 l2 hi hln hc hsu r ih =>
        intro w
        obtain ⟨b, hb1, hyes, hno⟩ := w
        have hloc : Loc X.env.scope n := .inl hln
        refine wpAny_handleBy_cons (codeAny_handlers_test ?_) (by intro q; cases q)
        have LT : PySem.W.Looks (model X.prog X.w) h3 (typeOf (.ref a)) cls := fun A Q E s k q => wpAny_typeOf_ref (k _ _ he3) (by rw [hz3.1]; exact q)
        have LM := PySem.W.exm_one (M := model X.prog X.w) (J3.kIn) LT hb1
        have test : ∀ {Q : Value → Shared → Prop} {E : Value → Shared → Prop}, Q c { s' with heap := h3 } → wpAny (model X.prog X.w) (X.A.mark (some (.ref a))) (eval (.Name x np) X.env) Q E { s' with heap := h3 } := fun {Q E} q => by
          obtain ⟨hg, hdbg, hm | ⟨hm, hv, hnn⟩⟩ := hc
          · exact ld_glob (X := X.suite a ((a, oe3) :: (X.pn ++ pins))) S3 hg hm q hdbg
          · exact ld_blt (X := X.suite a ((a, oe3) :: (X.pn ++ pins))) S3 hg hm hv q hnn hdbg
        refine test (LM.here ?_)
        cases b with
        | true =>
          refine codeAny_handlers_suite_as ?_
          refine HandSPX.lands_againZ fl3 fun h4 fl4 up4 => ?_
          have J4 : Inv X pins σ' H' { s' with heap := h4 } := J.landed nb fl4.1 ((up.trans up3).trans up4) os ag
          obtain ⟨oe4, vs4, he4, hz4, hd4⟩ := fl4.there
          have S4 := J4.suite he4 hd4 na nL nF
          refine store_ok (X := X.suite a ((a, oe4) :: (X.pn ++ pins))) (v := .ref a) S4 hN hi hloc rfl (fun s5 S5 => ?_) (.inr hln)
          refine wpAny_mono ((hsu a oe4 cls d (X.pn ++ pins) hz4 ⟨_, hd4⟩).run [] s5 _ H' _ S5 (hyes rfl a na)) (fun f s6 hsp => ?_) (fun _ _ z => False.elim z)
          have end_ : ∀ {σ6 : St} {H6 : Hp} {Q : Shared → Prop}, Inv (X.suite a ((a, oe4) :: (X.pn ++ pins))) [] σ6 H6 s6 → (∀ s7, Inv X pins (σ6.set i none) H6 s7 → Q s7) →
              wpAny (model X.prog X.w) X.A (do bindName X.env n .none; unbindBehindTheSuite X.env n pos') (fun _ s7 => Q s7) X.xe s6 := fun {σ6 H6 Q} S6 hq => gone_ok (S6.unsuite ok) hN hi hln hq
          cases f with
          | next =>
            obtain ⟨σ6, H6, S6, q6⟩ := hsp
            exact end_ S6 fun s7 J7 => ⟨_, _, J7, q6⟩
          | brk =>
            obtain ⟨σ6, H6, S6, q6⟩ := hsp
            exact end_ S6 fun s7 J7 => ⟨_, _, J7, q6⟩
          | cont =>
            obtain ⟨σ6, H6, S6, q6⟩ := hsp
            exact end_ S6 fun s7 J7 => ⟨_, _, J7, q6⟩
          | ret u =>
            obtain ⟨v6, σ6, H6, S6, r6, q6⟩ := hsp
            exact end_ S6 fun s7 J7 => ⟨_, _, _, J7, r6, q6⟩
        | false =>
          show wpAny _ X.A (handleBy (.ref a) X.env hds2) _ _ _
          exact ih (hno rfl)
      | @plain x c ts b₀ suite np pos' hds2 l2 hc hsu r ih =>
        intro w
        obtain ⟨b, hb1, hyes, hno⟩ := w
        refine wpAny_handleBy_cons (codeAny_handlers_test ?_) (by intro q; cases q)
        have LT : PySem.W.Looks (model X.prog X.w) h3 (typeOf (.ref a)) cls := fun A Q E s k q => wpAny_typeOf_ref (k _ _ he3) (by rw [hz3.1]; exact q)
        have LM := PySem.W.exm_one (M := model X.prog X.w) (J3.kIn) LT hb1
        have test : ∀ {Q : Value → Shared → Prop} {E : Value → Shared → Prop}, Q c { s' with heap := h3 } → wpAny (model X.prog X.w) (X.A.mark (some (.ref a))) (eval (.Name x np) X.env) Q E { s' with heap := h3 } := fun {Q E} q => by
          obtain ⟨hg, hdbg, hm | ⟨hm, hv, hnn⟩⟩ := hc
          · exact ld_glob (X := X.suite a ((a, oe3) :: (X.pn ++ pins))) S3 hg hm q hdbg
          · exact ld_blt (X := X.suite a ((a, oe3) :: (X.pn ++ pins))) S3 hg hm hv q hnn hdbg
        refine test (LM.here ?_)
        cases b with
        | true =>
          refine codeAny_handlers_suite ?_
          refine HandSPX.lands_againZ fl3 fun h4 fl4 up4 => ?_
          have J4 : Inv X pins σ' H' { s' with heap := h4 } := J.landed nb fl4.1 ((up.trans up3).trans up4) os ag
          obtain ⟨oe4, vs4, he4, hz4, hd4⟩ := fl4.there
          have S4 := J4.suite he4 hd4 na nL nF
          refine wpAny_mono ((hsu a oe4 cls d (X.pn ++ pins) hz4 ⟨_, hd4⟩).run [] _ _ H' _ S4 (hyes rfl a na)) (fun f s6 hsp => ?_) (fun _ _ z => False.elim z)
          cases f with
          | next => obtain ⟨σ6, H6, S6, q6⟩ := hsp; exact ⟨_, _, S6.unsuite ok, q6⟩
          | brk => obtain ⟨σ6, H6, S6, q6⟩ := hsp; exact ⟨_, _, S6.unsuite ok, q6⟩
          | cont => obtain ⟨σ6, H6, S6, q6⟩ := hsp; exact ⟨_, _, S6.unsuite ok, q6⟩
          | ret u => obtain ⟨v6, σ6, H6, S6, r6, q6⟩ := hsp; exact ⟨_, _, _, S6.unsuite ok, r6, q6⟩
        | false =>
          show wpAny _ X.A (handleBy (.ref a) X.env hds2) _ _ _
          exact ih (hno rfl)
    exact go hh w
  · cases f with
    | next =>
      obtain ⟨σ', H', J', q⟩ := hsp
      exact wpAny_execs_nil ⟨σ', H', J'.ofTry ok, q⟩
    | brk =>
      obtain ⟨σ', H', J', q⟩ := hsp
      exact ⟨σ', H', J'.ofTry ok, q⟩
    | cont =>
      obtain ⟨σ', H', J', q⟩ := hsp
      exact ⟨σ', H', J'.ofTry ok, q⟩
    | ret u =>
      obtain ⟨v, σ', H', J', r, q⟩ := hsp
      exact ⟨v, σ', H', J'.ofTry ok, r, q⟩
end
end L2
set_option maxHeartbeats 4000000
/-! x(lambda: e) where x is «def x(a): try: return a() / except A as e: .. / except B: ..» -/
namespace LfT
open PySem PySem.Spec PyProof.Rows L2 LamX
/-- what such a def makes of the lambda's reading: the clauses l, n names -/
def TMix (K : PySem.W.Frag) (n : Nat) (l : List (Value × Option Nat × (Addr → Value → Option Addr → TS))) : (XK → Hp → VK → Prop) → Hp → VK → Prop := fun tl H Q =>
  tl (fun cls d H' => ∀ σ' : L2.St, σ'.length = n → wMix K (fun _ _ _ _ => False) { nx := fun _ H' => Q .non H', rt := Q } l cls d σ' H') H Q
theorem takes_len {X : Cx} {W : WX} (t : Takes X W) : Takes X (fun cls d σ H => σ.length = X.N.length → W cls d σ H) := fun u s' ⟨a, B, sI, pins, σ, H, cls, d, e, I, nb, up, sky, na, os, ag, w⟩ =>
  t u s' ⟨a, B, sI, pins, σ, H, cls, d, e, I, nb, up, sky, na, os, ag, w I.len⟩
section
variable {X : Cx}
theorem mix_gives {Ng : List Str} {x a q : Str} {sg : Scope} {g : Addr} {cdg : Value} {h₀ : ExceptHandler} {hds : List ExceptHandler} {l : List (Value × Option Nat × (Addr → Value → Option Addr → TS))} {p1 p2 p3 p8 : Pos} (hN : Ng.Nodup)
    (hh : ∀ (s : Shared) (H : Hp), HdM (cxOf C8.CX0 X.prog X.w X.K X.mg X.base Ng x sg g cdg X.A X.stack s H C8.E0).nox (h₀ :: hds) l) (h0 : ∀ f : Addr, (L2.start Ng [V.ref f])[0]? = some (some (V.ref f))) :
    GivesTo X Ng x sg g cdg [.Try [.Return (some (.Call (.Name a p1) [] [] p2)) p3] (h₀ :: hds) [] [] p8] a q (TMix X.K Ng.length l) := by
  intro f c' s H Q tl act hc h
  refine ⟨_, pss_one (ps_tryMix (X := (cxOf C8.CX0 X.prog X.w X.K X.mg X.base Ng x sg g cdg X.A X.stack s H C8.E0).nox) (Wout := fun _ _ _ _ => False)
      (tb := fun W D σ H => ∃ Ech : XK, (∀ cls d (σ' : L2.St) H', Ech cls d H' → σ'.length = Ng.length → W cls d σ' H') ∧ σ[0]? = some (some (.ref f)) ∧ H c' = some (CodeO c' q) ∧ tl Ech H D.rt)
      rfl rfl hN LamX.takes0 (fun W pn xe tk _ => ?_) (hh s H)), ?_⟩
  · refine ⟨fun pins s' σ H' D I h' => ?_⟩
    obtain ⟨Ech, hW, h1, h2, h3⟩ := h'
    have hp := act _ pn xe Ech p1 p2 (takes_len tk) hW
    exact (pss_one (ps_ret (pos := p3) hp)).run pins s' σ H' D I ⟨h1, h2, h3⟩
  · exact ⟨_, fun cls d σ' H' h hl => h σ' hl, h0 f, hc, h⟩
theorem pe_toldM {x a : Str} {st : Stmt} {Ng : List Str} {h₀ : ExceptHandler} {hds : List ExceptHandler} {l : List (Value × Option Nat × (Addr → Value → Option Addr → TS))} {p1 p2 p3 p8 p lpos pos : Pos} {c P : Addr} {k : Nat} {params : Arguments} {body : Expr} {scope : Scope} {t : XK → TE} (D : Df X.K X.mg x st)
    (hst : defBody st = [.Try [.Return (some (.Call (.Name a p1) [] [] p2)) p3] (h₀ :: hds) [] [] p8])
    (Sg : FnScope Ng [a] (defScope st)) (hNg : Ng[0]? = some a) (hva : Vis (defScope st) a)
    (bd : ∀ (kV doc pm : Value) (an : Option Addr) (cdv ct : Value) (us : List Value), us.length = [a].length → bindArgs (PySem.W.fnOf x x (defArgs st) (defBody st) (defScope st) .none kV doc pm an cdv ct) ⟨us, []⟩ = pure ([a].zip us))
    (hh : ∀ (g : Addr) (cdg : Value) (s : Shared) (H : Hp), HdM (cxOf C8.CX0 X.prog X.w X.K X.mg X.base Ng x (defScope st) g cdg X.A X.stack s H C8.E0).nox (h₀ :: hds) l) (h0 : ∀ f : Addr, (L2.start Ng [V.ref f])[0]? = some (some (V.ref f)))
    (TB : TabB X.base X.mg c P) (hcode : X.env.code = .ref c) {Tb : List (Addr × Str)} (hmT : (P, X.env.qual ++ "<lambda>") ∈ Tb) (hu : ∀ p ∈ Tb, p.1 = P → p.2 = X.env.qual ++ "<lambda>") (hg : Gl X x) (hr : Room (k + 2) X.A) (L : LamS X.env.scope scope) (hdef : defaultsOf params X.env = ([], []))
    (hbind : ∀ (q : Str) (cl : List (Str × Addr)) (pm cv ctv : Value), bindArgs (PySem.W.kla_fn "<lambda>" q params body scope cl pm cv ctv) ⟨[], []⟩ = pure [])
    (hbody : ∀ (A : Around) (outer : List Env) (s : Shared) (H : Hp) (E : XK) (f c' : Addr), Room k (A.deeper (lamEnv X scope s.heap.objs.size f c')) → PE (lamCx X A outer s H E scope f c') body (t E))
    (hdb : (x == ("__debug__" : Str)) = false := by decide) (hd : (a == ("__debug__" : Str)) = false := by decide) (hcd : (a == ("__classdict__" : Str)) = false := by decide) :
    PE X (.Call (.Name x p) [.Lambda params body scope lpos] [] pos) (tLam Tb (TMix X.K Ng.length l) t) := by
  obtain ⟨g, fd, F, hm⟩ := D
  have hb := F.binds bd
  obtain ⟨oc, od, kV, doc, pm, an, cdv, ct, osl, rfl, lk, hcg⟩ := F.ex
  refine pe_lamcall hg hm F.kp lk hcg hb Sg hNg hva ?_ TB hcode hmT hu hr L hdef hbind hbody hdb hd hcd
  rw [hst]
  exact mix_gives Sg.nd (hh g cdv) h0
end
theorem tab_one {a b : Addr} {q r : Str} (h : a ≠ b) : ∀ p ∈ [(a, q), (b, r)], p.1 = a → p.2 = q := fun p hp e => by
  rcases List.mem_cons.mp hp with rfl | hp
  · rfl
  · cases List.mem_singleton.mp hp
    exact absurd e.symm h
theorem tab_two {a b : Addr} {q r : Str} (h : a ≠ b) : ∀ p ∈ [(a, q), (b, r)], p.1 = b → p.2 = r := fun p hp e => by
  rcases List.mem_cons.mp hp with rfl | hp
  · exact absurd e h
  · cases List.mem_singleton.mp hp
    rfl
end LfT
set_option maxHeartbeats 4000000
/-! The end of a law with several tables of code objects (defs with lambdas), where no repr is under way: LfTab for a list of tables -/
namespace LfT
open PySem PySem.Spec PyProof.Rows L2 LamX
def HS (a : Addr) (Ts : List Addr) (o : Obj) (xs : List V) : Hp := fun b => if b ∈ Ts then some (.tbl #[]) else if b = a then some (.frz o (.lst xs)) else none
section
variable {P : Program} {w : World} {K : PySem.W.Frag} {mg mb : Str → Option Value} {CX : CXT} {k : Nat} {fa a : Addr} {cs : List (Addr × Addr)} {fd : FuncData} {x : Str} {sp : Sp} {s₁ : Shared} {vs : List Value} {ns : List Int}
theorem law_coreS {H : Hp} (KX : K.In s₁.heap) (hns : s₁.heap.Ns mainGlobals mg) (hb : s₁.heap.Ns builtinsNs mb) (hbb : ∀ x : Str, x ≠ "__name__" → mb x = bootBuiltins x) (hlim : s₁.heap.NoLimit) (hg : s₁.gens = #[])
    (hT : ∀ p ∈ cs, s₁.heap.get? p.2 = some { cls := .none, data := .fields #[] }) (nT : ∀ p ∈ cs, K.lookup p.2 = none) (C : ∀ p ∈ cs, PySem.W.CodeHd s₁.heap p.1 p.2)
    (hbm : ∃ (bm : Addr) (ob : Obj), mg "__builtins__" = some (.ref bm) ∧ bm ≠ builtinsNs ∧ s₁.heap.get? bm = some ob ∧ ob.cls = .type "module" ∧ ob.dict = some builtinsNs ∧ ob.data = .plain)
    (ha : s₁.heap.get? a = some { cls := .type "list", data := .seq vs.toArray }) (hr : Room k callerA)
    (F : ∀ base : Heap, K.In base → base.Ns mainGlobals mg → (∀ p ∈ cs, TabB base mg p.1 p.2) → FnOkG P w K mg base CX k fa fd [x] sp) (hbind : ∀ (s : Shared) (u : Value), BindsTo s fd ⟨[u], []⟩ [(x, u)])
    (hsp : sp [.ref a] H (fun v _ => v = .bl true) fun _ _ _ => False) (hCX : ∀ H e s', CX [] H s₁ (fun _ _ _ => False) e s' → False)
    (hH : ∀ p ∈ cs, H p.2 = some (.tbl #[])) (hO : ∀ b u, H b = some u → b ∈ cs.map (·.2) ∨ (b = a ∧ K.lookup a = none ∧ ∃ o xs, u = .frz o (.lst xs))) (hok : HOk P w H s₁.heap) :
    codeAny (model P w) callerA (.call (.ref fa) ⟨[.ref a], []⟩) (fun r s' => r = .ok (.ret (.bool true)) ∧ OldK s₁.heap s'.heap ∧ s'.os = s₁.os ∧ AllBare s'.gens) s₁ := by
  have isT : ∀ b ∈ cs.map (·.2), s₁.heap.get? b = some { cls := .none, data := .fields #[] } := fun b hb => by
    obtain ⟨p, hp, e⟩ := List.mem_map.mp hb
    rw [← e]
    exact hT p hp
  have free : ∀ {b : Addr} {o : Obj}, s₁.heap.get? b = some o → (∀ us n, o.data ≠ .seq us n) → o.data ≠ .fields #[] → H b = none := fun {b o} e n1 n2 => by
    cases q : H b with
    | none => rfl
    | some u =>
      rcases hO b u q with z | ⟨z, _⟩
      · rw [isT b z] at e; cases e; exact (n2 rfl).elim
      · rw [z, ha] at e; cases e; exact (n1 _ _ rfl).elim
  have put : ∀ {b : Addr} {o : Obj}, s₁.heap.get? b = some o → H b = none → (hidT s₁.heap H).get? b = some o := fun e n => hidT_get e n
  have nsK : ∀ {b : Addr} {m : Str → Option Value}, s₁.heap.Ns b m → (hidT s₁.heap H).Ns b m := fun {b m} ⟨o, es, ep, e, d, r⟩ =>
    ⟨o, es, ep, put e (free e (fun us n z => by rw [d] at z; cases z) fun z => by rw [d] at z; cases z), d, r⟩
  have inB : K.In (hidT s₁.heap H) := fun b o e => put (KX b o e) (by
    cases q : H b with
    | none => rfl
    | some u =>
      rcases hO b u q with z | ⟨z, z2, _⟩
      · obtain ⟨p, hp, ep⟩ := List.mem_map.mp z
        rw [← ep, nT p hp] at e; cases e
      · rw [z, z2] at e; cases e)
  have TB : ∀ p ∈ cs, TabB (hidT s₁.heap H) mg p.1 p.2 := fun p hp => by
    have hTp := hT p hp
    refine ⟨?_, ?_, fun z => ?_⟩
    · obtain ⟨o, us, f, tf, fl, tg, inF, tx, tt, e1, r1, r2, r3, r4⟩ := C p hp
      exact ⟨o, us, f, tf, fl, tg, inF, tx, tt, put e1 (free e1 (fun us n z => by rw [r2] at z; cases z) fun z => by rw [r2] at z; cases z; simp at r3), r1, r2, r3, r4⟩
    · obtain ⟨bm, ob, b1, b2, b3, b4, b5, b6⟩ := hbm
      refine ⟨bm, ob, b1, b2, fun q => ?_, fun q => ?_, put b3 (free b3 (fun us n z => by rw [b6] at z; cases z) fun z => by rw [b6] at z; cases z), b4, b5, b6⟩
      · obtain ⟨o, es, ep, e, hd, _⟩ := hns
        rw [q, e] at b3; cases b3; rw [hd] at b6; cases b6
      · rw [q, hTp] at b3; cases b3; cases b6
    · obtain ⟨o, es, ep, e, hd, _⟩ := hns
      rw [z, hTp] at e; cases e; cases hd
  have md : L2.Mod K mg (hidT s₁.heap H) := ⟨inB, nsK hns, ⟨mb, nsK hb, hbb⟩, let ⟨mc, h1, h2⟩ := hlim; ⟨mc, nsK h1, h2⟩⟩
  have e0 : Env0 P w K mg (hidT s₁.heap H) callerA [] s₁ H := ⟨rfl, md, fun b o e => of_hidT e, Nat.le_of_eq (hidT_size _ _), trivial, fun b z => absurd (show b ∈ ([] : List Addr) from z) (by simp), hok, .of_eq hg⟩
  refine codeAny_mono ((F _ inB (nsK hns) TB).run callerA [] s₁ H ⟨[.ref a], []⟩ [.ref a] [.ref a] _ _ rfl hr e0 (hbind s₁ (.ref a)) (.cons rfl .nil) hsp) fun r s' z => ?_
  cases r with
  | error e => exact (hCX H e s' z).elim
  | ok fl =>
    cases fl with
    | next => exact False.elim z
    | brk => exact False.elim z
    | cont => exact False.elim z
    | ret u =>
      obtain ⟨v, H', os, bare, un, hok', r', q⟩ := z
      obtain rfl : v = .bl true := q
      obtain rfl : u = Value.bool true := r'
      have same : ∀ b o, b ∉ cs.map (·.2) → s₁.heap.get? b = some o → s'.heap.get? b = some o := fun b o nb e => by
        cases q : H b with
        | none => exact un.keep b o e q (by intro z; exact absurd (show b ∈ ([] : List Addr) from z) (by simp)) (by simp)
        | some u =>
          rcases hO b u q with z | ⟨_, _, ob, xs, rfl⟩
          · exact absurd z nb
          · obtain ⟨e1, _⟩ := hok b _ q
            obtain ⟨e2, _⟩ := hok' b _ (un.frzs b ob _ q)
            rw [e] at e1; cases e1
            exact e2
      have grown : ∀ p ∈ cs, ∃ more : Array Value, s'.heap.get? p.2 = some { cls := .none, data := .fields more } := fun p hp => by
        obtain ⟨more, z⟩ := un.tbls p.2 #[] (hH p hp)
        exact ⟨_, hok' p.2 _ z⟩
      refine ⟨rfl, ⟨fun b o e => ?_, fun b o e => ?_⟩, os, bare⟩
      · by_cases nb : b ∈ cs.map (·.2)
        · obtain ⟨p, hp, ep⟩ := List.mem_map.mp nb
          obtain ⟨more, hm⟩ := grown p hp
          rw [← ep] at e ⊢
          rw [hT p hp] at e; cases e
          exact .inr (.inl ⟨((C p hp).tab (hT p hp)).isCodeTable, rfl, #[], more, rfl, by rw [Array.empty_append]; exact hm⟩)
        · exact .inl (same b o nb e)
      · by_cases nb : b ∈ cs.map (·.2)
        · obtain ⟨p, hp, ep⟩ := List.mem_map.mp nb
          obtain ⟨more, hm⟩ := grown p hp
          rw [← ep]
          exact ⟨_, hm⟩
        · exact ⟨o, same b o nb e⟩
theorem law_callTG (KX : K.In s₁.heap) (hns : s₁.heap.Ns mainGlobals mg) (hb : s₁.heap.Ns builtinsNs mb) (hbb : ∀ x : Str, x ≠ "__name__" → mb x = bootBuiltins x) (hlim : s₁.heap.NoLimit) (hg : s₁.gens = #[])
    (hT : ∀ p ∈ cs, s₁.heap.get? p.2 = some { cls := .none, data := .fields #[] }) (nT : ∀ p ∈ cs, K.lookup p.2 = none) (C : ∀ p ∈ cs, PySem.W.CodeHd s₁.heap p.1 p.2)
    (hbm : ∃ (bm : Addr) (ob : Obj), mg "__builtins__" = some (.ref bm) ∧ bm ≠ builtinsNs ∧ s₁.heap.get? bm = some ob ∧ ob.cls = .type "module" ∧ ob.dict = some builtinsNs ∧ ob.data = .plain)
    (ha : s₁.heap.get? a = some { cls := .type "list", data := .seq vs.toArray }) (hi : IntsAre vs ns) (hl : ns.length ≤ sizeLine) (hr : Room k callerA)
    (F : ∀ base : Heap, K.In base → base.Ns mainGlobals mg → (∀ p ∈ cs, TabB base mg p.1 p.2) → FnOkG P w K mg base CX k fa fd [x] sp) (hbind : ∀ (s : Shared) (u : Value), BindsTo s fd ⟨[u], []⟩ [(x, u)])
    (hsp : ∀ H : Hp, (∀ p ∈ cs, H p.2 = some (.tbl #[])) → SqL K H a (ns.map V.int) → sp [.ref a] H (fun v _ => v = .bl true) fun _ _ _ => False) (hCX : ∀ H e s', CX [] H s₁ (fun _ _ _ => False) e s' → False) :
    codeAny (model P w) callerA (.call (.ref fa) ⟨[.ref a], []⟩) (fun r s' => r = .ok (.ret (.bool true)) ∧ OldK s₁.heap s'.heap ∧ s'.os = s₁.os ∧ AllBare s'.gens) s₁ := by
  have rv := vals_ints hi
  have lenV := hi.length
  have mem : ∀ p ∈ cs, p.2 ∈ cs.map (·.2) := fun p hp => List.mem_map.mpr ⟨p, hp, rfl⟩
  have isT : ∀ b ∈ cs.map (·.2), s₁.heap.get? b = some { cls := .none, data := .fields #[] } := fun b hb => by
    obtain ⟨p, hp, e⟩ := List.mem_map.mp hb
    rw [← e]
    exact hT p hp
  have ne : a ∉ cs.map (·.2) := fun z => by
    rw [isT a z] at ha
    have q : Data.fields #[] = Data.seq vs.toArray _ := congrArg Obj.data (Option.some.inj ha)
    cases q
  cases hk : K.lookup a with
  | some o =>
    have e := KX a o hk
    rw [ha] at e
    cases e
    refine law_coreS (H := fun b => if b ∈ cs.map (·.2) then some (.tbl #[]) else none) KX hns hb hbb hlim hg hT nT C hbm ha hr F hbind (hsp _ (fun p hp => if_pos (mem p hp)) (.inr ⟨_, vs.toArray, _, hk, rfl, rfl, rfl, by rw [List.size_toArray, lenV]; exact hl, by simpa using rv⟩)) hCX (fun p hp => if_pos (mem p hp)) (fun b u z => ?_) (fun b u z => ?_)
    · by_cases q : b ∈ cs.map (·.2)
      · exact .inl q
      · have z' := (if_neg q).symm.trans z
        cases z'
    · by_cases q : b ∈ cs.map (·.2)
      · have z' := (if_pos q).symm.trans z
        cases z'
        exact isT b q
      · have z' := (if_neg q).symm.trans z
        cases z'
  | none =>
    refine law_coreS (H := HS a (cs.map (fun p : Addr × Addr => p.2)) { cls := .type "list", data := .seq vs.toArray } (ns.map V.int)) KX hns hb hbb hlim hg hT nT C hbm ha hr F hbind (hsp _ (fun p hp => if_pos (mem p hp)) (.inl (.inr ⟨_, (if_neg ne).trans (if_pos rfl)⟩))) hCX (fun p hp => if_pos (mem p hp)) (fun b u z => ?_) (fun b u z => ?_)
    · by_cases q : b ∈ cs.map (·.2)
      · exact .inl q
      · have z1 := (if_neg q).symm.trans z
        by_cases q2 : b = a
        · have z' := (if_pos q2).symm.trans z1
          cases z'
          exact .inr ⟨q2, hk, _, _, rfl⟩
        · have z' := (if_neg q2).symm.trans z1
          cases z'
    · by_cases q : b ∈ cs.map (·.2)
      · have z' := (if_pos q).symm.trans z
        cases z'
        exact isT b q
      · have z1 := (if_neg q).symm.trans z
        by_cases q2 : b = a
        · have z' := (if_pos q2).symm.trans z1
          cases z'
          subst q2
          exact ⟨ha, by rw [List.length_map]; exact hl, vs, _, rv, ha⟩
        · have z' := (if_neg q2).symm.trans z1
          cases z'
end
/-- the walk: the defs ys of the text have the lambdas -/
theorem walk_ofTG {l : PySem.W.OpenLaw} {n k : Nat} {q : Program} {loose : List Str} {XP : (Str → Option Value) → Heap → Prop} {YP : World → Heap → Prop} {d : DefRec} {K : Params → PySem.W.Frag} {CX : CXT} {sp : PySem.W.Frag → List (Addr × Addr) → Sp} {x : Str} {ys : List Str}
    (hn : l.most = some n) (hn2 : n ≤ sizeLine) (hdf : d.params.defaults = []) (hr : Room k callerA) (hrec : ∀ y ∈ ys, ∃ dy, (recsOf q).find? (fun e => e.name == y) = some dy)
    (hY : ∀ (w : World) (h : Heap), YP w h → (K w.params).In h)
    (F : ∀ (w : World) (mg : Str → Option Value) (fa : Addr) (h : Heap), (K w.params).In h → h.Ns mainGlobals mg → mg d.name = some (.ref fa) →
      ∃ (fd : FuncData) (cs : List (Addr × Addr)), (∀ p ∈ cs, ∃ y ∈ ys, PySem.W.tabIn (K w.params) y = some p) ∧ (∀ p ∈ cs, (K w.params).lookup p.2 = none) ∧ (∀ (s : Shared) (u : Value), BindsTo s fd ⟨[u], []⟩ [(x, u)]) ∧
        ∀ base : Heap, (K w.params).In base → base.Ns mainGlobals mg → (∀ p ∈ cs, TabB base mg p.1 p.2) → FnOkG l.prog w (K w.params) mg base CX k fa fd [x] (sp (K w.params) cs))
    (hsp : ∀ (K : PySem.W.Frag) (H : Hp) (a : Addr) (cs : List (Addr × Addr)) (ns : List Int), ns.length ≤ n → (∀ p ∈ cs, H p.2 = some (.tbl #[])) → SqL K H a (ns.map V.int) → sp K cs [.ref a] H (fun v _ => v = .bl true) fun _ _ _ => False)
    (hCX : ∀ (H : Hp) (s : Shared) (e : Value) (s' : Shared), CX [] H s (fun _ _ _ => False) e s' → False) :
    PySem.W.WalkO q loose XP YP l.row.toRowW d [] (fun f vs => PySem.call f vs) := by
  refine Att.attach_call hn hdf fun w s₀ s₁ mg mb fa o pm cd doc a vs ns G Y ho hd hcd hmg hobj hints hlen hg => ?_
  have KX := hY w _ Y
  obtain ⟨fd, cs, ht, nT, hb, hF⟩ := F w mg fa _ KX G.T.g hmg
  have both : ∀ p ∈ cs, PySem.W.CodeHd s₁.heap p.1 p.2 ∧ s₁.heap.get? p.2 = some { cls := .none, data := .fields #[] } := fun p hp => by
    obtain ⟨y, hy, e⟩ := ht p hp
    obtain ⟨dy, hd⟩ := hrec y hy
    exact PySem.W.tab_of G.T KX hd e
  exact law_callTG KX G.T.g G.T.b G.T.builtins G.T.nolimit hg (fun p hp => (both p hp).2) nT (fun p hp => (both p hp).1) G.T.bmain hobj hints (Nat.le_trans hlen hn2) hr hF hb (fun H hH hS => hsp (K w.params) H a cs ns hlen hH hS) fun H e s' => hCX H s₁ e s'
end LfT
set_option maxHeartbeats 4000000
/-! Tables of code objects while data is drawn and told; lists of what calls tell -/
namespace Lf
open PySem L2 Evl LamX PyProof.Rows
def KeepN (L : Addr) (H H' : Hp) : Prop := ∀ a o, a ≠ L → H a = some o → (∀ ps, o ≠ .tbl ps) → H' a = some o
theorem KeepN.trans {L : Addr} {H H1 H2 : Hp} (a : KeepN L H H1) (b : KeepN L H1 H2) : KeepN L H H2 := fun x o n h t => b x o n (a x o n h t) t
theorem KeepN.ofB {L : Addr} {H H1 : Hp} (a : ExB L H H1) : KeepN L H H1 := fun x o n h _ => a x o n h
theorem KeepN.ofN {L : Addr} {H H1 : Hp} (a : ExtN H H1) : KeepN L H H1 := fun x o _ h t => a x o h t
theorem KeepN.of {L : Addr} {H H1 : Hp} (a : Ex H H1) : KeepN L H H1 := fun x o _ h _ => a x o h
theorem tabs_exB {Tb : List (Addr × Str)} {L : Addr} {H H' : Hp} {xs : List V} (t : Tabs Tb H) (x : ExB L H H') (hL : H L = some (.lst xs)) : Tabs Tb H' := fun p hp => by
  obtain ⟨ps, h1, h2, h3⟩ := t p hp
  refine ⟨ps, x _ _ (fun z => by rw [z, hL] at h1; cases h1) h1, h2, fun pos cv hc => ?_⟩
  obtain ⟨c, e1, e2⟩ := h3 pos cv hc
  exact ⟨c, e1, x _ _ (fun z => by rw [z, hL] at e2; unfold CodeO at e2; cases e2) e2⟩
theorem tabs_up {Tb : List (Addr × Str)} {H : Hp} {p : Addr} {xs ys : List V} (t : Tabs Tb H) (h : H p = some (.lst xs)) : Tabs Tb (upd H p (.lst ys)) := tabs_exB t (fun a o n h => by rw [upd_ne n]; exact h) h
theorem exn_view {G H H1 : Hp} (hG : ∀ a o, G a = some o → dataO o = true) (s : Ex G H) (e : ExtN H H1) : Ex G H1 := fun a o h => e a o (s a o h) fun ps z => by
  have := hG a o h
  rw [z] at this
  cases this
theorem gr_data {G H G' H' : Hp} (hG : ∀ a o, G a = some o → dataO o = true) (r : Gr G H G' H') : ∀ a o, G' a = some o → dataO o = true := fun a o h => by
  rcases r.t a o h with h | h
  · exact hG a o h
  · exact h
theorem grb_data {Lm : List V → Prop} {L : Addr} {G H G' H' : Hp} (hG : ∀ a o, G a = some o → dataO o = true) (r : GrB Lm L G H G' H') : ∀ a o, G' a = some o → dataO o = true := fun a o h => by
  rcases r.t a o h with h | h
  · exact hG a o h
  · exact h
theorem none_data : ∀ (a : Addr) (o : HO), (fun _ => none : Hp) a = some o → dataO o = true := fun a o h => by cases h
theorem none_ex {H : Hp} : Ex (fun _ => none) H := fun a o h => by cases h
/-- no object but a table stands at p -/
def NoT (H : Hp) (p : Addr) : Prop := ∀ o, H p = some o → ∃ ps, o = .tbl ps
/-- an expression that tells a text, whatever it adds to the tables -/
def Says (te : TE) (σ : L2.St) (G : Hp) (Tb : List (Addr × Str)) (z : Str) : Prop := ∀ H, Ex G H → Tabs Tb H → ∀ Q : VK, (∀ H', ExtN H H' → Tabs Tb H' → Ex G H' → Q (.str z) H') → te σ H Q
section
variable {K : PySem.W.Frag} {σ : L2.St} {G H H0 : Hp} {te : TE} {tz : TS} {D : Ends} {Tb : List (Addr × Str)} {z : Str} {i : Nat} {p : Addr}
theorem q_tl0 (s : Ex G H) (t : Tabs Tb H) (h : Says te σ G Tb z) (k : ∀ p H', ExtN H H' → Tabs Tb H' → Ex G H' → H' p = some (.lst (([z] : List Str).map V.str)) → NoT H p → G p = none → tz D (σ.set i (some (.ref p))) H') : tSeq (tAsg (tLst (tCons te tNil)) (gName i)) tz D σ H := h H s t _ fun H1 e1 t1 s1 => ⟨show 1 ≤ sizeLine by decide, fun p hp => k p _ (e1.trans (ExtN.of (Ex.new hp))) (t1.ext (Ex.new hp)) (s1.trans (Ex.new hp)) upd_same (fun o ho => by
    cases o with
    | tbl ps => exact ⟨ps, rfl⟩
    | _ => rw [e1 p _ ho (fun ps z => by cases z)] at hp; cases hp) (fresh_back s1 hp)⟩
theorem q_tlA {zs : List Str} (s : Ex G H) (t : Tabs Tb H) (hσ : σ[i]? = some (some (.ref p))) (hp : H p = some (.lst (zs.map V.str))) (hl : zs.length ≤ 1000) (hG : G p = none) (h : Says te σ G Tb z) (e0 : ExtN H0 H) (h0 : NoT H0 p)
    (k : ∀ H', ExtN H0 H' → Tabs Tb H' → Ex G H' → H' p = some (.lst ((zs ++ [z]).map V.str)) → tz D σ H') : tSeq (tDrop (tBM K "list" rAppend (tVar i) (tCons te tNil))) tz D σ H := ⟨_, hσ, .inl ⟨rfl, _, SqL.of hp⟩, h H s t _ fun H1 e1 t1 s1 => by
  have hp1 := e1 p _ hp (fun ps z => by cases z)
  refine ⟨p, zs.map V.str, .str z, rfl, rfl, hp1, by rw [List.length_map]; exact Nat.lt_of_le_of_lt hl (by decide), k _ (fun a o ha nt => ?_) (tabs_up t1 hp1) (Ex.mut s1 hG) (by rw [upd_same, List.map_append]; rfl)⟩
  have ne : a ≠ p := fun e => by
    subst e
    obtain ⟨ps, e⟩ := h0 o ha
    exact nt ps e
  rw [upd_ne ne]
  exact e1 a o (e0 a o ha nt) nt⟩
theorem da_strsI {H : Hp} : ∀ {ws : List Str}, (∀ x ∈ ws, x.length ≤ 1000) → DaAll H (ws.map V.str) (ws.map PyData.str)
  | [], _ => .nil
  | a :: ws, h => .cons (.str _ (h a (List.mem_cons_self ..))) (da_strsI fun x hx => h x (List.mem_cons_of_mem _ hx))
/-- the list of texts at p comes into the view -/
theorem tl_view {zs : List Str} (s : Ex G H) (hG : G p = none) (hp : H p = some (.lst (zs.map V.str))) (hz : ∀ x ∈ zs, x.length ≤ 1000) : ∃ G', Ex G G' ∧ Ex G' H ∧ Da G' (.ref p) (.list (zs.map PyData.str)) := by
  refine ⟨upd G p (.lst (zs.map V.str)), Ex.new hG, fun a o h => ?_, .lst upd_same (da_strsI hz)⟩
  by_cases e : a = p
  · subst e
    rw [upd_same] at h
    rw [← h]
    exact hp
  · rw [upd_ne e] at h
    exact s _ _ h
end
/-- the script is there, apart from the wheel at p -/
def Sc (K : PySem.W.Frag) (a : Addr) (xs : List V) (p : Addr) (H : Hp) : Prop := (a ≠ p ∧ Rd H a (.lst xs)) ∨ SqL K (fun _ => none) a xs
theorem sc_of {K : PySem.W.Frag} {a p : Addr} {xs : List V} {H : Hp} (h : SqL K H a xs) (hp : H p = none) : Sc K a xs p H := by
  rcases h with h | h
  · refine .inl ⟨fun e => ?_, h⟩
    rcases h with h | ⟨o, h⟩
    · rw [e, hp] at h; cases h
    · rw [e, hp] at h; cases h
  · exact .inr (.inr h)
theorem sc_sq {K : PySem.W.Frag} {a p : Addr} {xs : List V} {H : Hp} (h : Sc K a xs p H) : SqL K H a xs := by
  rcases h with h | h
  · exact .inl h.2
  · rcases h with h | h
    · rcases h with h | ⟨o, h⟩ <;> cases h
    · exact .inr h
theorem sc_keep {K : PySem.W.Frag} {a p : Addr} {xs : List V} {H H' : Hp} (h : Sc K a xs p H) (k : KeepN p H H') : Sc K a xs p H' := by
  rcases h with ⟨n, h⟩ | h
  · refine .inl ⟨n, ?_⟩
    rcases h with h | ⟨o, h⟩
    · exact .inl (k a _ n h (fun ps z => by cases z))
    · exact .inr ⟨o, k a _ n h (fun ps z => by cases z)⟩
  · exact .inr h
end Lf
namespace L2
open PySem PySem.Spec PyProof.Rows
/-- a def whose code object is known, as LfGuard's Fun.okG -/
theorem Fun.okGC {P : Program} {w : World} {K : PySem.W.Frag} {mg : Str → Option Value} {base : Heap} {x qual : Str} {st : Stmt} {f c : Addr} {fd : FuncData} {N ps : List Str} {k : Nat} {sp : Sp} (F : Fun K x qual st f fd) (hc : fd.code = .ref c) (S : FnScope N ps (defScope st)) (len : ∀ vs H Q E, sp vs H Q E → vs.length = ps.length)
    (hbody : ∀ (A : Around) (outer : List Env) (s : Shared) (H : Hp) (vs : List V) (Q : VK) (E : XK), (A.deeper (envOfC qual (defScope st) s.heap.objs.size f (.ref c))).guards = some [] → Room k (A.deeper (envOfC qual (defScope st) s.heap.objs.size f (.ref c))) → sp vs H Q E →
      ∃ t, PSs (cxOf CX0 P w K mg base N qual (defScope st) f (.ref c) A outer s H E).nox (defBody st) t ∧ t { nx := fun _ H' => Q .non H', rt := Q } (start N vs) H) : FnOkG P w K mg base CX0 (k + 1) f fd ps sp := by
  obtain ⟨oc, od, kV, doc, pm, an, cdv, ct, osl, rfl, lk, hcd⟩ := F.ex
  obtain rfl : cdv = .ref c := hc
  refine fn_ofG lk hcd S len fun A outer s H vs Q E hg hr hsp => ?_
  obtain ⟨t, h, q⟩ := hbody A outer s H vs Q E hg hr hsp
  exact ⟨t, h.nox, q⟩
end L2
set_option maxHeartbeats 4000000
namespace My
open PySem L2 Lf Evl Tr StX
abbrev s_law : Stmt := top 40
theorem sc_law : FnScope ["_law_script", "_law_at", "_law_urn_here", "_law_turn", "_law_rule", "_law_wide", "_law_value", "_law_deep", "_law_told"] ["_law_script"] (defScope s_law) := ⟨rfl, rfl, rfl, by decide +kernel, rfl, by decide +kernel, by decide +kernel⟩
def spLaw (K : PySem.W.Frag) : Sp := fun vs H Q _ => ∃ (a : Addr) (ns : List Int), vs = [.ref a] ∧ SqL K H a (ns.map V.int) ∧ ∀ H', Q (.bl true) H'
section
variable {K : PySem.W.Frag} {L : Addr} {σ : L2.St} {G H : Hp} {tl ta tb te : TE} {g : TG} {tbd : TS} {D : Ends} {P : PyData → Prop} {d : PyData}
theorem s_forTR (w : At Lm L G H) (h : Dr Lm L tl σ G P) (k : ∀ d G1 H1, GrB Lm L G H G1 H1 → P d → ∃ ds, d = .tuple ds ∧ LoopOk g tbd (fun D => D.nx) D σ ds G1 H1) : tFor (iTup K tl) g tbd D σ H := h.go w fun v d G1 H1 r p hd => by
  obtain ⟨ds, rfl, Pv, h0, hl, ht, hz⟩ := k d G1 H1 r p
  obtain ⟨a, xs, rfl, ea, hs⟩ := hd.tup_
  refine ⟨a, rfl, ⟨xs, SqT.of (r.s _ _ ea)⟩, for_tup (K := K) (a := a) (xs := xs) Pv h0 (fun i σ' H' _ p => SqT.of (hl i σ' H' p _ _ ea)) (fun i x σ' H' hx p => ?_) (fun σ' H' p => hz σ' H' (by rw [← hs.len]; exact p))⟩
  obtain ⟨d, hdi, hdv⟩ := hs.at hx
  exact ht i d x σ' H' hdi hdv p
theorem ev_callRt {E : XK} (h : EvD te σ G d) (hd : RtOk d) : Ev (tCallD spRt E (tCons te tNil)) σ G (.bl true) := fun H1 x Q q => h G H1 (Ex.refl _) x _ fun v G2 H2 r hv => ⟨G2, v, d, rfl, r.s, hv, hd, fun H3 x3 => q H3 (r.h.trans x3)⟩
theorem ev_opI {C : Int → Int → Prop} {f : Int → Int → V} {i j : Int} (ha : Ev ta σ G (.int i)) (hb : Ev tb σ G (.int j)) (hc : C i j) : Ev (tOp (rI C f) ta tb) σ G (f i j) := fun H1 x Q q => ha H1 x _ fun H2 x2 => hb H2 (x.trans x2) _ fun H3 x3 => ⟨i, j, rfl, rfl, hc, q H3 (x2.trans x3)⟩
end
/-! ### the values -/
theorem menu_nc : (menu.all fun s => ncQ 3 35 4 s) = true := by decide +kernel
theorem uss_nc : (uss.all fun s => ncQ 2 14 2 s) = true := by decide +kernel
theorem nms_nc : (nms.all fun s => ncQ 0 4 0 s) = true := by decide +kernel
theorem int_nc {i : Int} (h0 : 0 ≤ i) (h : i ≤ 4) : Nc 0 3 0 (.int i) := by
  have : i = 0 ∨ i = 1 ∨ i = 2 ∨ i = 3 ∨ i = 4 := by omega
  rcases this with rfl | rfl | rfl | rfl | rfl <;> exact ncQ_iff.mp (by decide +kernel)
theorem pat_nc {p : PyData} (h : PatD p) : Nc 4 100 5 p ∧ ∃ x s r, p = .tuple (x :: s :: r) ∧ s ∈ menu := by
  obtain ⟨x, s, u, t, c, rfl, hx, hs, ht, hc, hu⟩ := h
  have h1 := ncQ_iff.mp (List.all_eq_true.mp nms_nc x hx)
  have h2 := ncQ_iff.mp (List.all_eq_true.mp menu_nc s hs)
  have h3 := ncQ_iff.mp (List.all_eq_true.mp uss_nc u hu)
  have h4 := int_nc (by omega) ht.2
  have h5 := int_nc hc.1 hc.2
  have all : Ncs 3 (4 + 1 + (35 + 1 + (3 + 1 + (3 + 1 + (14 + 1))))) 4 ([x] ++ ([s] ++ ([.int t] ++ ([.int c] ++ [u])))) :=
    ((h1.mono (by decide) (Nat.le_refl _) (by decide)).asOne).app ((h2.asOne).app (((h4.mono (by decide) (Nat.le_refl _) (by decide)).asOne).app (((h5.mono (by decide) (Nat.le_refl _) (by decide)).asOne).app ((h3.mono (by decide) (Nat.le_refl _) (by decide)).asOne))))
  refine ⟨(Ncs.tup (all.mono (Nat.le_refl _) (by decide) (show 4 ≤ 5 by decide)) (Nat.le_refl _)), x, s, _, rfl, hs⟩
def WideD (p : PyData) : Prop := ∃ s m, p = .tuple [.str "op", .str "add", s, m] ∧ s ∈ menu ∧ m ∈ menu
theorem wide_nc {p : PyData} (h : WideD p) : Nc 4 100 5 p := by
  obtain ⟨s, m, rfl, hs, hm⟩ := h
  have h2 := ncQ_iff.mp (List.all_eq_true.mp menu_nc s hs)
  have h3 := ncQ_iff.mp (List.all_eq_true.mp menu_nc m hm)
  have o1 : Nc 3 3 4 (.str "op") := ncQ_iff.mp (by decide +kernel)
  have o2 : Nc 3 3 4 (.str "add") := ncQ_iff.mp (by decide +kernel)
  have all : Ncs 3 (3 + 1 + (3 + 1 + (35 + 1 + (35 + 1)))) 4 ([.str "op"] ++ ([.str "add"] ++ ([s] ++ [m]))) := o1.asOne.app (o2.asOne.app (h2.asOne.app h3.asOne))
  exact Ncs.tup (all.mono (Nat.le_refl _) (by decide) (show 4 ≤ 5 by decide)) (show 4 ≤ 5 by decide)
theorem bent_rt {v d : PyData} (h : Bent v d) (hv : Nc 4 100 5 v) : RtOk d := by
  have a := h.dep
  have b := h.wei
  have c := h.wd
  have a2 := hv.dep
  have b2 := hv.wei
  have c2 := hv.wd
  exact nc_rt (k := 6) (b := 240) (m := 13) ⟨h.ok, by omega, by omega, by omega⟩ (by decide) (by decide) (by decide)
theorem pre_nc {vs : List PyData} (h : Nc 4 100 5 (.tuple vs)) : preB 4 [.tuple vs] := by
  have h1 := h.items.1
  exact ⟨vs, rfl, h.ok, Nat.lt_succ_of_le h1.dep, Nat.le_trans h.items.2 (by decide), Nat.le_trans h1.wd (by decide), Nat.le_trans h.dep (by decide)⟩
abbrev fixD : List PyData := [.none, .int 0, .str "", .str "hole", .list [.str "load"], .dict [], .bool true, .tuple [], .tuple [.str "hole"], .tuple [.str "load"], .tuple [.str "store"], .tuple [.str "op"], .int (10 ^ Int.toNat 31)]
def rtB (d : PyData) : Bool := (flatD d && (d.showable && (!d.hasDict && decide (d.shown.length ≤ sizeLine)))) && (okZ 9 d && (okZ 8 d && decide (d.depth ≤ 8)))
theorem rtB_ok {d : PyData} (h : rtB d = true) : RtOk d := by
  unfold rtB at h
  simp only [Bool.and_eq_true, decide_eq_true_eq, Bool.not_eq_true'] at h
  exact ⟨.inl ⟨h.1.1, h.1.2.1, h.1.2.2.1, by have := h.2.2.2; omega, h.1.2.2.2⟩, h.2.1, h.2.2.1, h.2.2.2⟩
theorem fix_rt : ∀ d ∈ fixD, RtOk d := fun d hd => by
  have all : (fixD.all fun d => rtB d || decide (d.hasDict = true)) = true := by decide +kernel
  by_cases c : d = .dict []
  · subst c
    exact ⟨.inr rfl, by decide +kernel, by decide +kernel, by decide⟩
  · have := List.all_eq_true.mp all d hd
    rcases Bool.or_eq_true_iff.mp this with h | h
    · exact rtB_ok h
    · simp only [List.mem_cons, List.not_mem_nil, or_false] at hd
      rcases hd with rfl | rfl | rfl | rfl | rfl | rfl | rfl | rfl | rfl | rfl | rfl | rfl | rfl <;> first | exact absurd rfl c | exact absurd h (by decide +kernel)
abbrev deepD : PyData := .tuple [.str "op", .str "f", .tuple [.str "op", .str "f", .tuple [.str "op", .str "f", .tuple [.str "op", .str "f", .tuple [.str "hole"]]]]]
abbrev deep3 : PyData := .tuple [.str "op", .str "f", .tuple [.str "op", .str "f", .tuple [.str "op", .str "f", .tuple [.str "hole"]]]]
section
variable {P : Program} {w : World} {K : PySem.W.Frag} {mg : Str → Option Value} {base : Heap}
theorem ok_law {f : Addr} {fd : FuncData} (T : Txt K mg) (F : Fun K "law" "law" s_law f fd)
    (D_law_urn : DefOk P w K mg base CX0 1 "_law_urn" ["_law_script", "_law_at"] (spUrn K)) (D_law_one : DefOk P w K mg base CX0 2 "_law_one" ["_law_urn_here", "_law_items"] (spDr Lm preP postP)) (D_law_menu : DefOk P w K mg base CX0 1 "_law_menu" [] spMenu)
    (D_law_patterns : DefOk P w K mg base CX0 3 "_law_patterns" ["_law_urn_here"] (spDr Lm preE postPs)) (D_law_bent : DefOk P w K mg base CX0 6 "_law_bent" ["_law_urn_here", "_law_value"] (spDr Lm (preB 4) postB))
    (D_is_shape : DefOk P w K mg base CX0 8 "is_shape" ["value"] (spB isSh)) (D_law_right : DefOkG P w K mg base CX0 11 "_law_right" ["_law_value"] spRt) : FnOkG P w K mg base CX0 12 f fd ["_law_script"] (spLaw K) := by
  refine F.okG sc_law (fun vs H Q E h => ?_) (fun cdv A outer s H vs Q E hg hr h => ?_)
  · obtain ⟨a, ns, rfl, _⟩ := h
    rfl
  obtain ⟨a, ns, rfl, hS, q⟩ := h
  refine ⟨_, (pss_cons (ps_for PassesOwn.never rfl (pi_range1 (by rfl) T.n_range (pa_cons (pe_callB (call_max2 rfl) (by rfl) T.n_max (by decide +kernel) (pa_cons pe_int (pa_cons (pe_callB (call_min2 rfl) (by rfl) T.n_min (by decide +kernel) (pa_cons pe_int (pa_cons (pe_callB call_len_seq (by rfl) T.n_len (by decide +kernel) (pa_cons (pv 0) pa_nil)) pa_nil))) pa_nil))) pa_nil)) (pg_name (i := 1) sc_law.nd rfl (Or.inl rfl))
 (pss_cons (ps_set (i := 2) sc_law.nd rfl (Or.inl rfl) (pe_callD D_law_urn (hr.mono (by decide)) pass0 (pa_cons (pv 0) (pa_cons (pv 1) pa_nil))))
 (pss_cons (ps_for PassesOwn.never rfl (pi_range1 (by rfl) T.n_range (pa_cons pe_int pa_nil)) (pg_name (i := 3) sc_law.nd rfl (Or.inl rfl))
 (pss_cons (ps_set (i := 4) sc_law.nd rfl (Or.inl rfl) (pe_callD D_law_one (hr.mono (by decide)) pass0 (pa_cons (pv 2) (pa_cons (pe_callD D_law_patterns (hr.mono (by decide)) pass0 (pa_cons (pv 2) pa_nil)) pa_nil))))
 (pss_cons (ps_set (i := 5) sc_law.nd rfl (Or.inl rfl) (pe_tup (pa_cons pe_str (pa_cons pe_str (pa_cons (pe_ix ix_tup (pv 4) pe_int (fun _ _ => rfl)) (pa_cons (pe_callD D_law_one (hr.mono (by decide)) pass0 (pa_cons (pv 2) (pa_cons (pe_callD0 D_law_menu (hr.mono (by decide)) pass0) pa_nil))) pa_nil))))))
 (pss_one (ps_for PassesOwn.never rfl (pi_tup (pe_tup (pa_cons (pv 4) (pa_cons (pe_ix ix_tup (pv 4) pe_int (fun _ _ => rfl)) (pa_cons (pv 5) (pa_cons (pe_callD D_law_bent (hr.mono (by decide)) pass0 (pa_cons (pv 2) (pa_cons (pv 4) pa_nil))) (pa_cons (pe_callD D_law_bent (hr.mono (by decide)) pass0 (pa_cons (pv 2) (pa_cons (pe_ix ix_tup (pv 4) pe_int (fun _ _ => rfl)) pa_nil))) (pa_cons (pe_callD D_law_bent (hr.mono (by decide)) pass0 (pa_cons (pv 2) (pa_cons (pv 5) pa_nil))) pa_nil)))))))) (pg_name (i := 6) sc_law.nd rfl (Or.inl rfl))
 (pss_one (ps_if (pt_not (pt_val (pe_callDG D_law_right hg (hr.mono (by decide)) pass0 (pa_cons (pv 6) pa_nil))))
 (pss_one (ps_ret pe_bl))
 pss_nil)))))))
 (pss_one (ps_for PassesOwn.never rfl (pi_tup (pe_tup (pa_cons pe_non (pa_cons pe_int (pa_cons pe_str (pa_cons pe_str (pa_cons (pe_lst (pa_cons pe_str pa_nil)) (pa_cons pe_dnewK (pa_cons pe_bl (pa_cons (pe_tup pa_nil) (pa_cons (pe_tup (pa_cons pe_str pa_nil)) (pa_cons (pe_tup (pa_cons pe_str pa_nil)) (pa_cons (pe_tup (pa_cons pe_str pa_nil)) (pa_cons (pe_tup (pa_cons pe_str pa_nil)) (pa_cons (pe_op op_pow pe_int pe_int) pa_nil))))))))))))))) (pg_name (i := 6) sc_law.nd rfl (Or.inl rfl))
 (pss_one (ps_if (pt_not (pt_val (pe_callDG D_law_right hg (hr.mono (by decide)) pass0 (pa_cons (pv 6) pa_nil))))
 (pss_one (ps_ret pe_bl))
 pss_nil)))))))
 (pss_cons (ps_set (i := 7) sc_law.nd rfl (Or.inl rfl) (pe_tup (pa_cons pe_str (pa_cons pe_str (pa_cons (pe_tup (pa_cons pe_str (pa_cons pe_str (pa_cons (pe_tup (pa_cons pe_str (pa_cons pe_str (pa_cons (pe_tup (pa_cons pe_str (pa_cons pe_str (pa_cons (pe_tup (pa_cons pe_str pa_nil)) pa_nil)))) pa_nil)))) pa_nil)))) pa_nil)))))
 (pss_cons (ps_set (i := 8) sc_law.nd rfl (Or.inl rfl) (pe_lst (pa_cons (pe_callD D_is_shape (hr.mono (by decide)) pass0 (pa_cons (pv 7) pa_nil)) (pa_cons (pe_callD D_is_shape (hr.mono (by decide)) pass0 (pa_cons (pe_tup (pa_cons pe_str (pa_cons pe_str (pa_cons (pv 7) pa_nil)))) pa_nil)) (pa_cons (pe_callD D_is_shape (hr.mono (by decide)) pass0 (pa_cons (pe_tup (pa_cons pe_str (pa_cons (pv 7) pa_nil))) pa_nil)) (pa_cons (pe_callD D_is_shape (hr.mono (by decide)) pass0 (pa_cons (pe_tup (pa_cons pe_str (pa_cons (pe_ix ix_tup (pv 7) pe_int (fun _ _ => rfl)) pa_nil))) pa_nil)) pa_nil))))))
 (pss_one (ps_ret (pe_and (pe_cmpR (op_eqD hr.units) (pv 8) (pe_lst (pa_cons pe_bl (pa_cons pe_bl (pa_cons pe_bl (pa_cons pe_bl pa_nil))))) (nomark _)) (pe_one (pe_cmpR (op_eqD hr.units) (pe_tup (pa_cons (pe_gInt (by rfl) T.g_MAX_SHAPE) (pa_cons (pe_gInt (by rfl) T.g_MAX_COST) pa_nil))) (pe_tup (pa_cons pe_int (pa_cons pe_int pa_nil))) (nomark _))))))))), ?_⟩
  have hn : (1 : Int) ≤ (if (if ((ns.map V.int).length : Int) < 3 then ((ns.map V.int).length : Int) else 3) > 1 then (if ((ns.map V.int).length : Int) < 3 then ((ns.map V.int).length : Int) else 3) else 1) ∧ (if (if ((ns.map V.int).length : Int) < 3 then ((ns.map V.int).length : Int) else 3) > 1 then (if ((ns.map V.int).length : Int) < 3 then ((ns.map V.int).length : Int) else 3) else 1) ≤ 3 := by
    generalize ((ns.map V.int).length : Int) = z
    split <;> split <;> omega
  refine ⟨_, rfl, _, _, rfl, .inl hS, _, _, rfl, _, _, rfl, _, rfl, by omega, by omega, for_range (lo := 0) (fun i σ' H' => ∃ v1 v2 v3 v4 v5 v6, σ' = [some (.ref a), v1, v2, v3, v4, v5, v6, none, none] ∧ SqL K H' a (ns.map V.int)) ⟨_, _, _, _, _, _, rfl, hS⟩ ?_ ?_⟩
  · rintro i σ' H' hi ⟨v1, v2, v3, v4, v5, v6, rfl, hS⟩
    refine ⟨_, rfl, _, rfl, a, ns, i, by rw [Int.zero_add], by omega, hS, fun p xs hp hx => ?_⟩
    refine ⟨6, rfl, by decide, by decide, for_range (lo := 0) (n := 6) (fun k σ'' H'' => ∃ u3 u4 u5 u6 xs', σ'' = [some (.ref a), some (.int (0 + (i : Int))), some (.ref p), u3, u4, u5, u6, none, none] ∧ H'' p = some (.lst xs') ∧ Lm xs' ∧ Sc K a (ns.map V.int) p H'')
      ⟨_, _, _, _, xs, rfl, upd_same, hx, sc_keep (sc_of hS hp) (KeepN.of (Ex.new hp))⟩ ?_ ?_⟩
    · rintro k σ'' H'' _ ⟨u3, u4, u5, u6, xs', rfl, hp2, hx2, sc2⟩
      have w0 : At Lm p (fun _ => none) H'' := ⟨none_ex, rfl, xs', hp2, hx2⟩
      refine q_asgR (P := PatD) w0 ((dr_call (Pre := preP) (Post := postP) (R := fun ds => ∃ ps, ds = [.list ps] ∧ 1 ≤ ps.length ∧ ps.length ≤ 8 ∧ ∀ p ∈ ps, PatD p) rfl ((drs_cons ((dr_call (Pre := preE) (Post := postPs) rfl drs_nil (fun ds e => e)).imp (P' := fun d => ∃ ps, d = .list ps ∧ 1 ≤ ps.length ∧ ps.length ≤ 8 ∧ ∀ p ∈ ps, PatD p) fun d ⟨_, _, p⟩ => p) drs_nil).imp fun ds ⟨d, r, e, ⟨ps, e2, h1, h8, hps⟩, e3⟩ => ⟨ps, by rw [e, e2, e3], h1, h8, hps⟩) (fun ds ⟨ps, e, h1, h8, _⟩ => ⟨ps, e, by omega, by omega⟩)).imp fun d ⟨ds, ⟨ps, e, h1, h8, hps⟩, xs2, e2, hm⟩ => ?_) fun v4 d4 G1 H1 r1 p4 hd4 => ?_
      · rw [e] at e2
        cases e2
        exact hps d hm
      obtain ⟨n4, px, ps, pr, rfl, hps⟩ := pat_nc p4
      have lenM : menu.length = 18 := rfl
      refine q_asgR (P := WideD) r1.w ((dr_tup (drs_cons (dr_of (evd_str ev_c (by decide))) (drs_cons (dr_of (evd_str ev_c (by decide))) (drs_cons (dr_of (evd_ixT (evd_var rfl hd4) ev_c (atI_nat (j := 1) rfl))) (drs_cons (dr_pick rfl evd_menu (by rw [lenM]; decide) (by rw [lenM]; decide)) drs_nil)))) ?_).imp fun d ⟨ds, e, hR⟩ => ?_) fun v5 d5 G2 H2 r2 p5 hd5 => ?_
      · rintro ds ⟨_, _, rfl, _, _, _, rfl, _, _, _, rfl, _, _, _, rfl, _, rfl⟩
        simp
      · obtain ⟨_, _, rfl, rfl, _, _, rfl, rfl, d3, _, rfl, e3, m, _, rfl, hm, rfl⟩ := hR
        exact ⟨ps, m, by rw [e, e3], hps, hm⟩
      have n5 := wide_nc p5
      obtain ⟨ws, rfl⟩ : ∃ ws, d5 = .tuple ws := by
        obtain ⟨s, m, rfl, _⟩ := p5
        exact ⟨_, rfl⟩
      have hd4' := hd4.up r2.g
      have ns1 := ncQ_iff.mp (List.all_eq_true.mp menu_nc ps hps)
      obtain ⟨ss, rfl⟩ : ∃ ss, ps = .tuple ss := by
        have all : (menu.all fun s => kd s == "tuple") = true := by decide +kernel
        exact kd_tup (eq_of_beq (List.all_eq_true.mp all ps hps))
      have ix1 : ∀ {σ' : L2.St} {G' : Hp} {te : TE}, EvD te σ' G' (.tuple (px :: .tuple ss :: pr)) → EvD (tOp (rIxT K) te (tC (.int 1))) σ' G' (.tuple ss) := fun h => evd_ixT h ev_c (atI_nat (j := 1) rfl)
      have bt : ∀ {σ' : L2.St} {G' : Hp} {te : TE} {zs : List PyData}, σ'[2]? = some (some (.ref p)) → EvD te σ' G' (.tuple zs) → Nc 4 100 5 (.tuple zs) → Dr Lm p (tCallD (spDr Lm (preB 4) postB) E0 (tCons (tVar 2) (tCons te tNil))) σ' G' RtOk := fun hL h hz =>
        (dr_call (Pre := preB 4) (Post := postB) hL (drs_of (evd_cons h evd_nil)) (fun ds e => by rw [e]; exact pre_nc hz)).imp fun d ⟨ds, e, p⟩ => bent_rt (p _ e) hz
      have n1 : Nc 4 100 5 (.tuple ss) := ns1.mono (by decide) (by decide) (by decide)
      refine s_forTR (P := fun d => ∃ ds, d = .tuple ds ∧ ∀ x ∈ ds, RtOk x) r2.w ((dr_tup (drs_cons ((dr_of (evd_var rfl hd4')).imp (P' := RtOk) fun d e => by rw [e]; exact nc_rt n4 (by decide) (by decide) (by decide)) (drs_cons ((dr_of (ix1 (evd_var rfl hd4'))).imp (P' := RtOk) fun d e => by rw [e]; exact nc_rt n1 (by decide) (by decide) (by decide)) (drs_cons ((dr_of (evd_var rfl hd5)).imp (P' := RtOk) fun d e => by rw [e]; exact nc_rt n5 (by decide) (by decide) (by decide)) (drs_cons (bt rfl (evd_var rfl hd4') n4) (drs_cons (bt rfl (ix1 (evd_var rfl hd4')) n1) (drs_cons (bt rfl (evd_var rfl hd5) n5) drs_nil)))))) ?_).imp fun d ⟨ds, e, hR⟩ => ?_) fun d6 G3 H3 r3 ⟨ds, e6, all⟩ => ⟨ds, e6, ?_⟩
      · rintro ds ⟨_, _, rfl, _, _, _, rfl, _, _, _, rfl, _, _, _, rfl, _, _, _, rfl, _, _, _, rfl, _, rfl⟩
        simp
      · obtain ⟨d1, _, rfl, h1, d2, _, rfl, h2, d3, _, rfl, h3, d4, _, rfl, h4, d5, _, rfl, h5, d6, _, rfl, h6, rfl⟩ := hR
        refine ⟨_, e, fun x hx => ?_⟩
        simp only [List.mem_cons, List.not_mem_nil, or_false] at hx
        rcases hx with rfl | rfl | rfl | rfl | rfl | rfl <;> assumption
      have r13 := (r1.trans r2).trans r3
      refine ⟨fun j σ' H' => (∃ u6, σ' = [some (.ref a), some (.int (0 + (i : Int))), some (.ref p), some (.int (0 + (k : Int))), some v4, some v5, u6, none, none]) ∧ Ex H3 H', ⟨⟨_, rfl⟩, Ex.refl _⟩, fun j σ' H' ⟨_, y⟩ => r3.s.trans y, ?_, ?_⟩
      · rintro j d x σ' H' hdj hdx ⟨⟨u6, rfl⟩, y⟩
        exact Lf.s_ifD (r3.s.trans y) (et_is (b := false) (et_not (et_B (ev_callRt (evd_var rfl hdx) (all d (List.mem_of_getElem? hdj))))) rfl) (fun z => by cases z) (fun _ H4 x4 => ⟨⟨_, rfl⟩, y.trans x4⟩)
      · rintro σ' H' ⟨⟨u6, rfl⟩, y⟩
        obtain ⟨xs3, h3, m3⟩ := r3.w.l
        exact ⟨_, _, _, _, xs3, rfl, y _ _ h3, m3, sc_keep (sc_keep sc2 (KeepN.ofB r13.h)) (KeepN.of y)⟩
    · rintro σ'' H2 ⟨u3, u4, u5, u6, xs', rfl, hp2, hx2, sc2⟩
      have c31 : CPow 10 31 := ⟨by decide, by decide, by decide⟩
      dsimp only
      refine Lf.s_forT (ds := fixD) none_ex (by repeat (first | exact evd_nil | exact evd_str ev_c (by decide) | exact evd_non ev_c | exact evd_bl ev_c | exact evd_dnew | exact evd_int (ev_opI ev_c ev_c c31) | exact evd_int ev_c | refine evd_cons ?_ ?_ | refine evd_tup ?_ (by first | simp | exact (show 13 ≤ 100000 by decide)) | refine evd_lst ?_ (by simp))) fun G3 H3 r3 => ?_
      refine ⟨fun j σ' H' => (∃ u6, σ' = [some (.ref a), some (.int (0 + (i : Int))), some (.ref p), u3, u4, u5, u6, none, none]) ∧ Ex H3 H', ⟨⟨_, rfl⟩, Ex.refl _⟩, fun j σ' H' ⟨_, y⟩ => r3.s.trans y, ?_, ?_⟩
      · rintro j d x σ' H' hdj hdx ⟨⟨u6, rfl⟩, y⟩
        exact Lf.s_ifD (r3.s.trans y) (et_is (b := false) (et_not (et_B (ev_callRt (evd_var rfl hdx) (fix_rt d (List.mem_of_getElem? hdj))))) rfl) (fun z => by cases z) (fun _ H4 x4 => ⟨⟨_, rfl⟩, y.trans x4⟩)
      · rintro σ' H' ⟨⟨u6, rfl⟩, y⟩
        exact ⟨_, _, _, _, _, _, rfl, sc_sq (sc_keep sc2 (KeepN.of (r3.h.trans y)))⟩
  · rintro σ' H1 ⟨v1, v2, v3, v4, v5, v6, rfl, hS⟩
    dsimp only
    refine q_asgD none_ex (d := deepD) ?_ fun v7 G2 H2 r2 hd7 => ?_
    · repeat (first | exact evd_nil | exact evd_str ev_c (by decide) | refine evd_cons ?_ ?_ | refine evd_tup ?_ (by simp))
    refine q_asgD r2.s (d := .list [.bool true, .bool false, .bool false, .bool true]) (evd_lst (evd_cons (evd_bl (ev_is (ev_callB (evd_var rfl hd7)) (by decide +kernel))) (evd_cons (evd_bl (ev_is (ev_callB (d := .tuple [.str "op", .str "f", deepD]) (evd_tup (evd_cons (evd_str ev_c (by decide)) (evd_cons (evd_str ev_c (by decide)) (evd_cons (evd_var rfl hd7) evd_nil))) (by simp))) (by decide +kernel))) (evd_cons (evd_bl (ev_is (ev_callB (d := .tuple [.str "store", deepD]) (evd_tup (evd_cons (evd_str ev_c (by decide)) (evd_cons (evd_var rfl hd7) evd_nil)) (by simp))) (by decide +kernel)))
      (evd_cons (evd_bl (ev_is (ev_callB (d := .tuple [.str "store", deep3]) (evd_tup (evd_cons (evd_str ev_c (by decide)) (evd_cons (evd_ixT (evd_var rfl hd7) ev_c (atI_nat (j := 2) rfl)) evd_nil)) (by simp))) (by decide +kernel))) evd_nil)))) (by simp)) fun v8 G3 H3 r3 hd8 => ?_
    refine Ev.ret r3.s (ev_is (w := .bl true) (ev_andV (ev_eqD (e := .list [.bool true, .bool false, .bool false, .bool true]) (evd_var rfl hd8) (by repeat (first | exact evd_nil | exact evd_bl ev_c | refine evd_cons ?_ ?_ | refine evd_lst ?_ (by simp))) rfl rfl (by decide +kernel) (by decide +kernel)) fun _ => ev_eqD (d := .tuple [.int 4, .int 20]) (e := .tuple [.int 4, .int 20]) (evd_tup (evd_cons (evd_int ev_c) (evd_cons (evd_int ev_c) evd_nil)) (by simp)) (evd_tup (evd_cons (evd_int ev_c) (evd_cons (evd_int ev_c) evd_nil)) (by simp)) rfl rfl (by decide +kernel) (by decide +kernel)) (by decide +kernel)) fun H4 x4 => q H4
end
end My
set_option maxHeartbeats 4000000
/-! def __init__(self, *v); C(*e); cls(*e); classmethods as one fact -/
namespace L2
open PySem PySem.Spec PyProof.Rows StX
/-- the promise of a def whose last parameter is *v, told by the tuple -/
def spStar (n : Nat) (sp : Sp) : Sp := fun vs H Q E => ∃ ws rest, vs = ws ++ rest ∧ ws.length = n ∧ rest.length ≤ sizeLine ∧ ∀ p, H p = Option.none → sp (ws ++ [V.ref p]) (upd H p (.tup rest)) Q E
def InitS (P : Program) (w : World) (K : PySem.W.Frag) (mg : Str → Option Value) (base : Heap) (CX : CXT) (k : Nat) (C : Addr) (sp : Sp) : Prop := ∃ f, Mk K C f ∧ FnR P w K mg base CX k f (spStar 1 sp)
/-- the classmethod m of the class at C, by its text -/
def Dc (K : PySem.W.Frag) (C : Addr) (m qual : Str) (st : Stmt) : Prop := ∃ mc p f fd, Fun K m qual st f fd ∧ ClX.CRead K C mc ∧ ClX.CMet K C mc m p f
def CmOk (P : Program) (w : World) (K : PySem.W.Frag) (mg : Str → Option Value) (base : Heap) (CX : CXT) (k : Nat) (C : Addr) (m : Str) (sp : Sp) : Prop :=
  ∃ mc p f, ClX.CRead K C mc ∧ ClX.CMet K C mc m p f ∧ FnR P w K mg base CX k f sp
section
variable {P : Program} {w : World} {K : PySem.W.Frag} {mg : Str → Option Value} {base : Heap} {C f : Addr} {fd : FuncData} {x qual : Str} {st : Stmt} {N ps : List Str} {k : Nat} {sp : Sp} {CX : CXT}
theorem Fun.star1 {p1 pv : Str} (F : Fun K x qual st f fd) (S : FnScope N [p1, pv] (defScope st)) (hCX : CXUp CX)
    (h0 : ∀ (kV doc pm : Value) (an : Option Addr) (cdv ct a : Value), bindArgs (PySem.W.fnOf x qual (defArgs st) (defBody st) (defScope st) .none kV doc pm an cdv ct) ⟨[a], []⟩ = (newTuple [] >>= fun t => pure [(p1, a), (pv, t)]))
    (h1 : ∀ (kV doc pm : Value) (an : Option Addr) (cdv ct a r : Value) (rs : List Value), bindArgs (PySem.W.fnOf x qual (defArgs st) (defBody st) (defScope st) .none kV doc pm an cdv ct) ⟨a :: r :: rs, []⟩ = (newTuple (r :: rs) >>= fun t => pure [(p1, a), (pv, t)]))
    (hbody : ∀ (cdv : Value) (A : Around) (outer : List Env) (s : Shared) (H : Hp) (vs : List V) (Q : VK) (E : XK), Room k (A.deeper (envOfC qual (defScope st) s.heap.objs.size f cdv)) → sp vs H Q E →
      ∃ t, PSs (cxOf CX P w K mg base N qual (defScope st) f cdv A outer s H E) (defBody st) t ∧ t { nx := fun _ H' => Q .non H', rt := Q } (start N vs) H) : FnR P w K mg base CX (k + 1) f (spStar 1 sp) := by
  obtain ⟨oc, od, kV, doc, pm, an, cdv, ct, osl, rfl, lk, hcd⟩ := F.ex
  exact fn_star (ps := [p1]) (pv := pv) lk hcd S hCX (bind_star1 (B := fun us => bindArgs (PySem.W.fnOf x qual (defArgs st) (defBody st) (defScope st) .none kV doc pm an cdv ct) ⟨us, []⟩) (h0 kV doc pm an cdv ct) (h1 kV doc pm an cdv ct)) (hbody cdv)
theorem Dm.okX (D : Dm K C x qual st) (S : FnScope N ps (defScope st))
    (bd : ∀ (kV doc pm : Value) (an : Option Addr) (cdv ct : Value) (us : List Value), us.length = ps.length → bindArgs (PySem.W.fnOf x qual (defArgs st) (defBody st) (defScope st) .none kV doc pm an cdv ct) ⟨us, []⟩ = pure (ps.zip us))
    (len : ∀ vs H Q E, sp vs H Q E → vs.length = ps.length)
    (hbody : ∀ (f : Addr) (cdv : Value) (A : Around) (outer : List Env) (s : Shared) (H : Hp) (vs : List V) (Q : VK) (E : XK), Room k (A.deeper (envOfC qual (defScope st) s.heap.objs.size f cdv)) → sp vs H Q E →
      ∃ t, PSs (cxOf (L2.CX P w) P w K mg base N qual (defScope st) f cdv A outer s H E) (defBody st) t ∧ t { nx := fun _ H' => Q .non H', rt := Q } (start N vs) H) : MethOk P w K mg base (L2.CX P w) (k + 1) C x ps sp := by
  obtain ⟨f, fd, F, hm⟩ := D
  exact ⟨f, fd, hm, F.binds bd, F.okX S len (hbody f)⟩
theorem Dc.okX (D : Dc K C x qual st) (S : FnScope N ps (defScope st))
    (bd : ∀ (kV doc pm : Value) (an : Option Addr) (cdv ct : Value) (us : List Value), us.length = ps.length → bindArgs (PySem.W.fnOf x qual (defArgs st) (defBody st) (defScope st) .none kV doc pm an cdv ct) ⟨us, []⟩ = pure (ps.zip us))
    (len : ∀ vs H Q E, sp vs H Q E → vs.length = ps.length)
    (hbody : ∀ (f : Addr) (cdv : Value) (A : Around) (outer : List Env) (s : Shared) (H : Hp) (vs : List V) (Q : VK) (E : XK), Room k (A.deeper (envOfC qual (defScope st) s.heap.objs.size f cdv)) → sp vs H Q E →
      ∃ t, PSs (cxOf (L2.CX P w) P w K mg base N qual (defScope st) f cdv A outer s H E) (defBody st) t ∧ t { nx := fun _ H' => Q .non H', rt := Q } (start N vs) H) : CmOk P w K mg base (L2.CX P w) (k + 1) C x sp := by
  obtain ⟨mc, p, f, fd, F, r, c⟩ := D
  exact ⟨mc, p, f, r, c, ((F.okX S len (hbody f)).raw (F.binds bd) .nil).imp fun vs H Q E h => by rw [List.append_nil]; exact h⟩
end
section
variable {X : Cx} {CX : CXT} {k i : Nat} {C : Addr} {sp : Sp} {E : XK} {x m : Str} {e o : Expr} {es : List Expr} {te ta : TE} {t : TA} {p sp_ pos apos : Pos}
/-- C(*e), C a class -/
def tMakeS (K : PySem.W.Frag) (C : Addr) (sp : Sp) (E : XK) (te : TE) : TE := fun σ H Q => te σ H fun y H1 => ∃ a xs, y = V.ref a ∧ (SqT K H1 a xs ∨ SqL K H1 a xs) ∧ xs.length ≤ sizeLine ∧ ∀ x dx p, H1 x = Option.none → H1 dx = Option.none → H1 p = Option.none → dx ≠ x → p ≠ x → p ≠ dx →
  sp [V.ref x, V.ref p] (upd (upd (upd H1 dx (.own x)) x (.ins C dx [])) p (.tup xs)) (fun v H2 => v = .non ∧ Q (.ref x) H2) E
def tMakeN (C : Addr) (sp : Sp) (E : XK) (t : TA) : TE := fun σ H Q => t σ H fun xs H1 => xs.length ≤ sizeLine ∧ ∀ x dx p, H1 x = Option.none → H1 dx = Option.none → H1 p = Option.none → dx ≠ x → p ≠ x → p ≠ dx →
  sp [V.ref x, V.ref p] (upd (upd (upd H1 dx (.own x)) x (.ins C dx [])) p (.tup xs)) (fun v H2 => v = .non ∧ Q (.ref x) H2) E
theorem star_of {xs : List V} {H1 : Hp} {Q : VK} (hz : xs.length ≤ sizeLine) (h : ∀ x dx p, H1 x = Option.none → H1 dx = Option.none → H1 p = Option.none → dx ≠ x → p ≠ x → p ≠ dx → sp [V.ref x, V.ref p] (upd (upd (upd H1 dx (.own x)) x (.ins C dx [])) p (.tup xs)) (fun v H2 => v = .non ∧ Q (.ref x) H2) E) :
    ∀ x dx, H1 x = Option.none → H1 dx = Option.none → dx ≠ x → spStar 1 sp (V.ref x :: xs) (upd (upd H1 dx (.own x)) x (.ins C dx [])) (fun v H2 => v = .non ∧ Q (.ref x) H2) E := fun x dx h1 h2 ne =>
  ⟨[.ref x], xs, rfl, rfl, hz, fun p hp => by
    have px : p ≠ x := fun z => by rw [z, upd_same] at hp; cases hp
    have pd : p ≠ dx := fun z => by rw [z, upd_ne ne, upd_same] at hp; cases hp
    rw [upd_ne px, upd_ne pd] at hp
    exact h x dx p h1 h2 hp ne px pd⟩
theorem pe_makeS (D : InitS X.prog X.w X.K X.mg X.base CX k C sp) (hr : Room (k + 1) X.A) (hg : Gl X x) (hm : X.mg x = some (.ref C)) (hx : Passes CX X E) (he : PE X e te) (hd : (x == ("__debug__" : Str)) = false := by decide)
    (hst : starEach [.Starred e sp_] X.env = [(true, eval e X.env)] := by rfl) : PE X (.Call (.Name x p) [.Starred e sp_] [] pos) (tMakeS X.K C sp E te) := by
  obtain ⟨f, M, F⟩ := D
  refine ⟨fun pins s σ H Q I h => ?_⟩
  refine wpAny_Call_Name_kw (ld_glob I hg hm ?_ hd)
  refine PySem.W.callWith_S (h₀ := X.base) I.ok.mod.kin M.kp (thn (he.run pins s σ H _ I h) fun v s1 ⟨y, H1, I1, ry, a, xs, ey, hxs, hz, q⟩ => ?_) hst
  subst ey
  obtain rfl : v = Value.ref a := ry
  exact star_any I1 hxs fun us s2 I2 rv => ⟨I2.kIn, run_makeR M F hr hx I2 rv (star_of hz q)⟩
/-- cls(*e), the class in a slot -/
def tMakeL (i : Nat) (K : PySem.W.Frag) (C : Addr) (sp : Sp) (E : XK) (te : TE) : TE := fun σ H Q => σ[i]? = some (some (.ref C)) ∧ tMakeS K C sp E te σ H Q
theorem pe_makeL (D : InitS X.prog X.w X.K X.mg X.base CX k C sp) (hr : Room (k + 1) X.A) (hN : X.N[i]? = some x) (hv : Vis X.env.scope x) (hx : Passes CX X E) (he : PE X e te) (hdb : (x == ("__debug__" : Str)) = false := by decide) (hcd : (x == ("__classdict__" : Str)) = false := by decide)
    (hst : starEach [.Starred e sp_] X.env = [(true, eval e X.env)] := by rfl) : PE X (.Call (.Name x p) [.Starred e sp_] [] pos) (tMakeL i X.K C sp E te) := by
  obtain ⟨f, M, F⟩ := D
  refine ⟨fun pins s σ H Q I h => ?_⟩
  obtain ⟨hs, ht⟩ := h
  refine wpAny_Call_Name_kw (thn ((pe_var (pos := p) hN hv hdb hcd).run pins s σ H (fun v H1 => v = .ref C ∧ H1 = H) I ⟨.ref C, hs, rfl, rfl⟩) fun u s0 ⟨v, H0, I0, r0, q0⟩ => ?_)
  obtain ⟨rfl, rfl⟩ := q0
  cases r0
  refine PySem.W.callWith_S (h₀ := X.base) I.ok.mod.kin M.kp (thn (he.run pins s0 σ _ _ I0 ht) fun v s1 ⟨y, H1, I1, ry, a, xs, ey, hxs, hz, q⟩ => ?_) hst
  subst ey
  obtain rfl : v = Value.ref a := ry
  exact star_any I1 hxs fun us s2 I2 rv => ⟨I2.kIn, run_makeR M F hr hx I2 rv (star_of hz q)⟩
/-- C(a, b, ..) -/
theorem pe_makeN (D : InitS X.prog X.w X.K X.mg X.base CX k C sp) (hr : Room (k + 1) X.A) (hg : Gl X x) (hm : X.mg x = some (.ref C)) (hx : Passes CX X E) (ha : PA X (e :: es) t) (hdb : (x == ("__debug__" : Str)) = false := by decide)
    (he : starEach (e :: es) X.env = (false, eval e X.env) :: starEach es X.env := by rfl) (hpl : (backTo pos (starEach es X.env)).any (·.1) = false := by rfl) : PE X (.Call (.Name x p) (e :: es) [] pos) (tMakeN C sp E t) := by
  obtain ⟨f, M, F⟩ := D
  refine ⟨fun pins s σ H Q I h => ?_⟩
  refine wpAny_Call_Name_kw (ld_glob I hg hm ?_ hdb)
  refine PySem.W.callWith_K (h₀ := X.base) I.ok.mod.kin M.kp (thn (ha.run pos pins s σ H _ I h) fun us s1 ⟨vs, H1, I1, r, hz, q⟩ => ⟨I1.kIn, ?_⟩) he hpl
  exact run_makeR M F hr hx I1 r (star_of hz q)
/-- C.m(e, ..), m a classmethod -/
theorem pe_cmD {pl : Sem Bool} (he : PE X o ta) (D : CmOk X.prog X.w X.K X.mg X.base CX k C m sp) (hr : Room k X.A) (hx : Passes CX X E) (ha : PA X (e :: es) t)
    (hst : starEach (e :: es) X.env = (false, eval e X.env) :: starEach es X.env := by rfl) (hpl : (backTo pos (starEach es X.env)).any (·.1) = false := by rfl)
    (ht : eval (.Call (.Attribute o m apos) (e :: es) [] pos) X.env = (do
      let ov ← eval o X.env
      standAt apos.atName
      let (f, first) ← holding [ov] (getMethod ov m pl)
      callWith pos f first (backTo pos (starEach (e :: es) X.env)) (backToKw pos (keywordEach [] X.env))) := by rfl) :
    PE X (.Call (.Attribute o m apos) (e :: es) [] pos) (ClX.tCMeth C sp E ta t) := by
  obtain ⟨mc, p, f, r, c, F⟩ := D
  exact ClX.pe_cmeth he r c F hr hx ha hst hpl ht
end
end L2
set_option maxHeartbeats 4000000
/-! A small head: what the top leaves, by one kernel run; facts by places -/
namespace LfH
open PySem PySem.Spec PyProof.Rows L2 He LamX He5 StX
/-- a def, by a path to its function object -/
structure DZ where
  adr : PySem.W.Frag → Addr
  name : Str
  qual : Str
  params : Arguments
  body : List Stmt
  scope : Scope
  kwd : List (Str × Dv) := []
  cell : Option (PySem.W.Frag → Addr) := none
abbrev FnZ : Type := Option (Str × Str × Arguments × FuncBody × Scope × Addr × Addr)
def fnZ (K : PySem.W.Frag) (a : Addr) : FnZ := match K.lookup a with
  | some ⟨_, _, .func fd, _⟩ => some (fd.name, fd.qualname, fd.params, fd.body, fd.scope, fd.globals, fd.builtins)
  | _ => none
def DZ.val (d : DZ) : FnZ := some (d.name, d.qual, d.params, .stmts d.body, d.scope, mainGlobals, builtinsNs)
def DZ.kws (K : PySem.W.Frag) (d : DZ) : List (Str × V) := d.kwd.map fun q => (q.1, q.2.v K)
def nonV : Value → Bool
  | .none => true
  | _ => false
theorem nonV_ok {v : Value} (h : nonV v = true) : v = .none := by cases v <;> (first | rfl | cases h)
def cellB (K : PySem.W.Frag) (cl : List (Str × Addr)) (C : Addr) : Bool := match cl with
  | [(n, cc)] => decide (n = "__class__") && (match K.lookup cc with
    | some ⟨_, _, .cell (some v), _⟩ => decide (v = .ref C)
    | _ => false)
  | _ => false
theorem cellB_ok {K : PySem.W.Frag} {cl : List (Str × Addr)} {C : Addr} (h : cellB K cl C = true) : ∃ cc c1 cld csl, cl = [(("__class__" : Str), cc)] ∧ K.lookup cc = some ⟨c1, cld, .cell (some (.ref C)), csl⟩ := by
  unfold cellB at h
  split at h
  · rename_i n cc
    obtain ⟨h1, h2⟩ := ba h
    have e := of_decide_eq_true h1
    subst e
    split at h2
    · rename_i c1 cld v csl e
      have ev := of_decide_eq_true h2
      subst ev
      exact ⟨cc, c1, cld, csl, rfl, e⟩
    · cases h2
  · cases h
def DZ.ok (K : PySem.W.Frag) (d : DZ) : Bool := match K.lookup (d.adr K) with
  | some ⟨_, _, .func fd, _⟩ => PySem.W.codeIn K fd.code d.qual && (nonV fd.defaults && (match d.cell with
    | none => fd.closure.isEmpty && (PySem.W.keepIn K (.ref (d.adr K)) && kwdB K fd.kwdefaults (d.kws K))
    | some C => nonV fd.kwdefaults && cellB K fd.closure (C K)))
  | _ => false
section
variable {K : PySem.W.Frag} {d : DZ}
theorem DZ.fn (e : fnZ K (d.adr K) = d.val) (c : d.ok K = true) (hc : d.cell = none) : ∃ oc od osl kV doc pm an cdv ct, K.lookup (d.adr K) = some ⟨oc, od, .func (PySem.W.fnOf d.name d.qual d.params d.body d.scope .none kV doc pm an cdv ct), osl⟩ ∧ PySem.W.codeIn K cdv d.qual = true ∧ PySem.W.keepIn K (.ref (d.adr K)) = true ∧ KwdV K kV (d.kws K) := by
  unfold DZ.ok at c
  unfold fnZ at e
  rw [hc] at c
  cases q : K.lookup (d.adr K) with
  | none =>
    rw [q] at c
    cases c
  | some o =>
    obtain ⟨oc, od, dt, osl⟩ := o
    rw [q] at c e
    cases dt with
    | func fd =>
      obtain ⟨n1, n2, n3, n4, n5, n6, n7, n8, n9, n10, n11, n12, n13, n14, n15⟩ := fd
      have e2 : (some (n1, n2, n3, n4, n5, n6, n15) : FnZ) = some (d.name, d.qual, d.params, .stmts d.body, d.scope, mainGlobals, builtinsNs) := e
      simp only [Option.some.injEq, Prod.mk.injEq] at e2
      obtain ⟨h1, h2, h3, h4, h5, h6, h9⟩ := e2
      subst h1 h2 h3 h4 h5 h6 h9
      obtain ⟨c1, c2⟩ := ba c
      obtain ⟨c3, c4⟩ := ba c2
      obtain ⟨c5, c6⟩ := ba c4
      obtain ⟨c7, c8⟩ := ba c6
      have e8 : n8 = .none := nonV_ok c3
      subst e8
      have e7 : n7 = [] := List.isEmpty_iff.mp c5
      subst e7
      exact ⟨oc, od, osl, n9, n10, n11, n12, n13, n14, rfl, c1, c7, kwdB_ok c8⟩
    | _ => cases c
theorem DZ.fnC {C : PySem.W.Frag → Addr} (e : fnZ K (d.adr K) = d.val) (c : d.ok K = true) (hc : d.cell = some C) : ∃ oc od osl doc pm an cda ct cc c1 cld csl, K.lookup (d.adr K) = some ⟨oc, od, .func (PySem.W.ksFn d.name d.qual d.params d.body d.scope .none .none doc pm an (.ref cda) ct cc), osl⟩ ∧ PySem.W.codeIn K (.ref cda) d.qual = true ∧
    K.lookup cc = some ⟨c1, cld, .cell (some (.ref (C K))), csl⟩ := by
  unfold DZ.ok at c
  unfold fnZ at e
  rw [hc] at c
  cases q : K.lookup (d.adr K) with
  | none =>
    rw [q] at c
    cases c
  | some o =>
    obtain ⟨oc, od, dt, osl⟩ := o
    rw [q] at c e
    cases dt with
    | func fd =>
      obtain ⟨n1, n2, n3, n4, n5, n6, n7, n8, n9, n10, n11, n12, n13, n14, n15⟩ := fd
      have e2 : (some (n1, n2, n3, n4, n5, n6, n15) : FnZ) = some (d.name, d.qual, d.params, .stmts d.body, d.scope, mainGlobals, builtinsNs) := e
      simp only [Option.some.injEq, Prod.mk.injEq] at e2
      obtain ⟨h1, h2, h3, h4, h5, h6, h9⟩ := e2
      subst h1 h2 h3 h4 h5 h6 h9
      obtain ⟨c1, c2⟩ := ba c
      obtain ⟨c3, c4⟩ := ba c2
      obtain ⟨c5, c6⟩ := ba c4
      have e8 : n8 = .none := nonV_ok c3
      subst e8
      have e9 : n9 = .none := nonV_ok c5
      subst e9
      obtain ⟨cc, k1, cld, csl, e7, lz⟩ := cellB_ok c6
      have e7 : n7 = [(("__class__" : Str), cc)] := e7
      subst e7
      obtain ⟨cda, ec⟩ := codeIn_ref c1
      have ec : n13 = .ref cda := ec
      subst ec
      exact ⟨oc, od, osl, n10, n11, n12, cda, n14, cc, k1, cld, csl, rfl, c1, lz⟩
    | _ => cases c
end
/-- the file of a def's code object -/
def fileB (K : PySem.W.Frag) (f : Addr) (file : Str) : Bool := match K.lookup f with
  | some ⟨_, _, .func fd, _⟩ => (match fd.code with
    | .ref c => (match K.lookup c with
      | some ⟨_, _, .fields vs, _⟩ => (match (vs[2]? : Option Value) with
        | some (.str z _) => file == z
        | _ => false)
      | _ => false)
    | _ => false)
  | _ => false
theorem fileB_ok {K : PySem.W.Frag} {f cda : Addr} {file : Str} {oc : Value} {od : Option Addr} {fd : FuncData} {osl : Array (Option Value)} (h : fileB K f file = true) (l : K.lookup f = some ⟨oc, od, .func fd, osl⟩) (e : fd.code = .ref cda) :
    ∃ ccl cdd vs ccs z tf, K.lookup cda = some ⟨ccl, cdd, .fields vs, ccs⟩ ∧ vs[2]? = some (.str z tf) ∧ (file == z) = true := by
  unfold fileB at h
  rw [l] at h
  dsimp only at h
  rw [e] at h
  dsimp only at h
  split at h
  · rename_i ccl cdd vs ccs q
    split at h
    · rename_i z tf q2
      exact ⟨ccl, cdd, vs, ccs, z, tf, q, q2, h⟩
    · cases h
  · cases h
/-- an own exception class with an __init__ -/
def xobjB (K : PySem.W.Frag) (C : Addr) (mro : List Value) (newId : String) : Bool := match K.lookup C with
  | some ⟨.type "type", _, .cls cd, sl⟩ => (match sl.toList with
    | [_, _, _, _, some (.builtin n), _] => decide (cd.mro = .ref C :: mro) && (n == newId && (!cd.hasDel && cd.hasDict))
    | _ => false)
  | _ => false
theorem xobjB_ok {K : PySem.W.Frag} {C : Addr} {mro : List Value} {newId : String} (h : xobjB K C mro newId = true) : ∃ nm q N bs sn sub ab col dd k0 k1 k2 k3 k5, K.lookup C = some (excClassObj nm q C N bs mro true sn sub ab col dd k0 k1 k2 k3 k5 newId) := by
  unfold xobjB at h
  split at h
  · rename_i dd cd sl ho
    split at h
    · rename_i k0 k1 k2 k3 n k5 hs
      obtain ⟨h1, h2⟩ := ba h
      obtain ⟨h3, h4⟩ := ba h2
      obtain ⟨h5, h6⟩ := ba h4
      have h1 := of_decide_eq_true h1
      have h3 := eq_of_beq h3
      subst h3
      obtain ⟨nm, bs, m, ns, qn, hd, sn, sub, ab, col, del⟩ := cd
      dsimp only at h1 h5 h6
      subst h1 h6
      have h5 : del = false := by simpa using h5
      subst h5
      have hsl : sl = #[k0, k1, k2, k3, some (.builtin n), k5] := by
        obtain ⟨l⟩ := sl
        simp only at hs
        rw [hs]
      subst hsl
      exact ⟨nm, qn, ns, bs, sn, sub, ab, col, dd, k0, k1, k2, k3, k5, ho⟩
    · cases h
  · cases h
/-- the record of a property: its def -/
def pf (K : PySem.W.Frag) (C : Addr) (m : Str) : Addr := match PySem.W.recIn K (ma K C m) "property" with
  | some (.ref f :: _) => f
  | _ => 0
def propB (K : PySem.W.Frag) (C : Addr) (m : Str) : Bool := eqO (PySem.W.findIn K (.ref C) m) (some (some (.ref (ma K C m)))) && (eqO (PySem.W.specialIn K (.ref (ma K C m)) "__get__") (some (some (.builtin "property.__get__"))) && (decide (PySem.W.takesIn K (.ref (ma K C m)) = some true) && (match PySem.W.recIn K (ma K C m) "property" with
    | some (.ref _ :: _) => true
    | _ => false)))
theorem propB_ok {K : PySem.W.Frag} {C : Addr} {m : Str} (h : propB K C m = true) : PropOf K C m (ma K C m) (pf K C m) := by
  obtain ⟨h1, h⟩ := ba h
  obtain ⟨h2, h⟩ := ba h
  obtain ⟨h3, h4⟩ := ba h
  refine ⟨eqO_ok h1, eqO_ok h2, of_decide_eq_true h3, ?_⟩
  unfold pf
  split at h4
  · rename_i f r e
    exact ⟨r, by rw [e]⟩
  · cases h4
def methB (K : PySem.W.Frag) (C : Addr) (m : Str) : Bool := eqO (PySem.W.findIn K (.ref C) m) (some (some (.ref (ma K C m)))) && (PySem.W.isFn K (.ref (ma K C m)) && PySem.W.keepIn K (.ref (ma K C m)))
theorem methB_ok {K : PySem.W.Frag} {C : Addr} {m : Str} (h : methB K C m = true) : Meth K C m (ma K C m) := by
  obtain ⟨h1, h⟩ := ba h
  obtain ⟨h2, h3⟩ := ba h
  exact ⟨eqO_ok h1, h2, h3⟩
def cmetB (K : PySem.W.Frag) (C : Addr) (m : Str) : Bool := wrapB K C "classmethod" "classmethod.__get__" m && PySem.W.fnIn K (wf K C "classmethod" m)
theorem cmetB_ok {K : PySem.W.Frag} {C : Addr} {m : Str} (h : cmetB K C m = true) : ClX.CMet K C (.type "type") m (ma K C m) (wf K C "classmethod" m) := by
  obtain ⟨h1, h2⟩ := ba h
  obtain ⟨h3, h4⟩ := wrapB_ok h1
  exact ⟨h3, h4, h2⟩
/-! ### the Hook -/
abbrev AlZ : Type := Bool × List FnZ
def obsK (fn : List DZ) (tf : List Defn) (ex : PySem.W.Frag → Bool) (g : Addr → Option Obj) (K : PySem.W.Frag) : AlZ := (ex K && ((fn.all fun d => d.ok K) && tabsB g tf K), fn.map fun d => fnZ K (d.adr K))
/-- the module's names first, then all places from behind -/
def down : Nat → List Addr
  | 0 => []
  | n + 1 => n :: down n
def asR (n : Nat) : List Addr := mainGlobals :: down n
def obsZ (n : Nat) (fn : List DZ) (tf : List Defn) (ex : PySem.W.Frag → Bool) (g : Addr → Option Obj) : AlZ := obsK fn tf ex g (frT g (asR n))
def valZ (fn : List DZ) : AlZ := (true, fn.map DZ.val)
structure SaysZ (fn : List DZ) (tf : List Defn) (ex : PySem.W.Frag → Bool) (h : Heap) (K : PySem.W.Frag) : Prop where
  more : ex K = true
  oks : ∀ d ∈ fn, d.ok K = true
  vals : (fn.map fun d => fnZ K (d.adr K)) = fn.map DZ.val
  hd : ∀ p ∈ tf, PySem.W.codeHdIn K (cT K p).1 (cT K p).2 = true
  out : ∀ p ∈ tf, K.lookup (cT K p).2 = none
  empty : ∀ p ∈ tf, h.get? (cT K p).2 = some { cls := .none, data := .fields #[] }
theorem saysZ_of {n : Nat} {fn : List DZ} {tf : List Defn} {ex : PySem.W.Frag → Bool} {h : Heap} (e : obsZ n fn tf ex h.get? = valZ fn) : SaysZ fn tf ex h (frT h.get? (asR n)) := by
  have e1 : (ex (frT h.get? (asR n)) && ((fn.all fun d => d.ok (frT h.get? (asR n))) && tabsB h.get? tf (frT h.get? (asR n)))) = true := congrArg (fun z : AlZ => z.1) e
  have e2 : (fn.map fun d => fnZ (frT h.get? (asR n)) (d.adr (frT h.get? (asR n)))) = fn.map DZ.val := congrArg (fun z : AlZ => z.2) e
  obtain ⟨h1, h2⟩ := ba e1
  obtain ⟨h3, h4⟩ := ba h2
  have key : ∀ p ∈ tf, PySem.W.codeHdIn (frT h.get? (asR n)) (cT (frT h.get? (asR n)) p).1 (cT (frT h.get? (asR n)) p).2 = true ∧ ∃ o, h.get? (cT (frT h.get? (asR n)) p).2 = some o ∧ emptyTab o = true := fun p hp => by
    obtain ⟨h5, h6⟩ := ba (List.all_eq_true.mp h4 p hp)
    refine ⟨h5, ?_⟩
    cases q : h.get? (cT (frT h.get? (asR n)) p).2 with
    | none =>
      rw [q] at h6
      cases h6
    | some o =>
      rw [q] at h6
      exact ⟨o, rfl, h6⟩
  exact ⟨h1, fun d hd => List.all_eq_true.mp h3 d hd, e2, fun p hp => (key p hp).1, fun p hp => by
    obtain ⟨_, o, q, z⟩ := key p hp
    exact frT_none q z, fun p hp => by
    obtain ⟨_, o, q, z⟩ := key p hp
    rw [q, emptyTab_eq z]⟩
def hookZ (n : Nat) (fn : List DZ) (tf : List Defn) (ex : PySem.W.Frag → Bool) : PySem.W.Hook where
  α := AlZ
  obs := fun s => obsZ n fn tf ex s.heap.get?
  val := fun _ => valZ fn
  says := fun _ h => ∃ K : PySem.W.Frag, K.In h ∧ SaysZ fn tf ex h K
  of := fun _ _ e => ⟨_, frT_in, saysZ_of e⟩
  keeps := fun _ _ _ ⟨K, hK, c⟩ k => ⟨K, PySem.W.Frag.In.keeps hK k, ⟨c.more, c.oks, c.vals, c.hd, c.out, fun p hp => k _ _ (c.empty p hp)⟩⟩
theorem obsZ_eq {n : Nat} {fn : List DZ} {tf : List Defn} {ex : PySem.W.Frag → Bool} {g : Addr → Option Obj} {s : Shared} (h : ∀ a, g a = s.heap.get? a) : obsZ n fn tf ex g = (hookZ n fn tf ex).obs s := by
  have e : g = s.heap.get? := funext h
  rw [e] <;> rfl
section
variable {fn : List DZ} {tf : List Defn} {ex : PySem.W.Frag → Bool} {h : Heap} {K : PySem.W.Frag} {d : DZ}
theorem SaysZ.val (c : SaysZ fn tf ex h K) (i : Nat) (e : fn[i]? = some d) : fnZ K (d.adr K) = d.val := by
  have e2 : (fn.map fun d => fnZ K (d.adr K))[i]? = (fn.map DZ.val)[i]? := by rw [c.vals]
  rw [List.getElem?_map, List.getElem?_map, e] at e2
  exact Option.some.inj e2
theorem SaysZ.def_ (c : SaysZ fn tf ex h K) (i : Nat) (e : fn[i]? = some d) (hc : d.cell = none) : ∃ oc od osl kV doc pm an cdv ct, K.lookup (d.adr K) = some ⟨oc, od, .func (PySem.W.fnOf d.name d.qual d.params d.body d.scope .none kV doc pm an cdv ct), osl⟩ ∧ PySem.W.codeIn K cdv d.qual = true ∧ PySem.W.keepIn K (.ref (d.adr K)) = true ∧ KwdV K kV (d.kws K) :=
  DZ.fn (c.val i e) (c.oks d (List.mem_of_getElem? e)) hc
theorem SaysZ.defC {C : PySem.W.Frag → Addr} (c : SaysZ fn tf ex h K) (i : Nat) (e : fn[i]? = some d) (hc : d.cell = some C) : ∃ oc od osl doc pm an cda ct cc c1 cld csl, K.lookup (d.adr K) = some ⟨oc, od, .func (PySem.W.ksFn d.name d.qual d.params d.body d.scope .none .none doc pm an (.ref cda) ct cc), osl⟩ ∧ PySem.W.codeIn K (.ref cda) d.qual = true ∧
    K.lookup cc = some ⟨c1, cld, .cell (some (.ref (C K))), csl⟩ := DZ.fnC (c.val i e) (c.oks d (List.mem_of_getElem? e)) hc
end
/-- a Bool of a list -/
def exA (l : List (PySem.W.Frag → Bool)) (K : PySem.W.Frag) : Bool := l.all fun f => f K
theorem exA_at {l : List (PySem.W.Frag → Bool)} {K : PySem.W.Frag} {f : PySem.W.Frag → Bool} (h : exA l K = true) (i : Nat) (e : l[i]? = some f) : f K = true := List.all_eq_true.mp h f (List.mem_of_getElem? e)
/-- the walk over such a head, with tables, where no repr is under way -/
theorem walk_ofTGE {l : PySem.W.OpenLaw} {n k : Nat} {q : Program} {loose : List Str} {XP : (Str → Option Value) → Heap → Prop} {YP : World → Heap → Prop} {d : DefRec} {CX : CXT} {x : Str}
    (hn : l.most = some n) (hn2 : n ≤ sizeLine) (hdf : d.params.defaults = []) (hr : Room k callerA)
    (F : ∀ (w : World) (mg : Str → Option Value) (fa : Addr) (h : Heap), YP w h → h.Ns mainGlobals mg → mg d.name = some (.ref fa) → ∃ (K : PySem.W.Frag) (fd : FuncData) (cs : List (Addr × Addr)) (sp : Sp), K.In h ∧ (∀ p ∈ cs, h.get? p.2 = some { cls := .none, data := .fields #[] }) ∧ (∀ p ∈ cs, K.lookup p.2 = none) ∧ (∀ p ∈ cs, PySem.W.codeHdIn K p.1 p.2 = true) ∧ (∀ (s : Shared) (u : Value), BindsTo s fd ⟨[u], []⟩ [(x, u)]) ∧
      (∀ (H : Hp) (a : Addr) (ns : List Int), ns.length ≤ n → (∀ p ∈ cs, H p.2 = some (.tbl #[])) → SqL K H a (ns.map V.int) → sp [.ref a] H (fun v _ => v = .bl true) fun _ _ _ => False) ∧
      ∀ base : Heap, K.In base → base.Ns mainGlobals mg → (∀ p ∈ cs, TabB base mg p.1 p.2) → FnOkG l.prog w K mg base CX k fa fd [x] sp)
    (hCX : ∀ (H : Hp) (s : Shared) (e : Value) (s' : Shared), CX [] H s (fun _ _ _ => False) e s' → False) :
    PySem.W.WalkO q loose XP YP l.row.toRowW d [] (fun f vs => PySem.call f vs) := by
  refine Att.attach_call hn hdf fun w s₀ s₁ mg mb fa o pm cd doc a vs ns G Y ho hd hcd hmg hobj hints hlen hg => ?_
  obtain ⟨K, fd, cs, sp, KX, hT, nT, C, hb, hsp, hF⟩ := F w mg fa _ Y G.T.g hmg
  exact LfT.law_callTG KX G.T.g G.T.b G.T.builtins G.T.nolimit hg hT nT (fun p hp => PySem.W.codeHd_of_K KX (C p hp)) G.T.bmain hobj hints (Nat.le_trans hlen hn2) hr hF hb (fun H hH hS => hsp H a ns hlen hH hS) fun H e s' => hCX H s₁ e s'
/-! ### the facts in the words of our texts -/
abbrev topD (x : Str) (st : Stmt) : DZ := { adr := fun K => ga K x, name := x, qual := x, params := defArgs st, body := defBody st, scope := defScope st }
abbrev metD (C m qual : Str) (st : Stmt) : DZ := { adr := fun K => ma K (ga K C) m, name := m, qual := qual, params := defArgs st, body := defBody st, scope := defScope st }
abbrev kwD (C m qual : Str) (st : Stmt) (kwd : List (Str × Dv)) : DZ := { adr := fun K => ma K (ga K C) m, name := m, qual := qual, params := defArgs st, body := defBody st, scope := defScope st, kwd := kwd }
abbrev proD (C m qual : Str) (st : Stmt) : DZ := { adr := fun K => pf K (ga K C) m, name := m, qual := qual, params := defArgs st, body := defBody st, scope := defScope st }
abbrev cmD (C m qual : Str) (st : Stmt) : DZ := { adr := fun K => wf K (ga K C) "classmethod" m, name := m, qual := qual, params := defArgs st, body := defBody st, scope := defScope st }
abbrev excD (C qual : Str) (st : Stmt) : DZ := { adr := fun K => ma K (ga K C) "__init__", name := "__init__", qual := qual, params := defArgs st, body := defBody st, scope := defScope st, cell := some fun K => ga K C }
def gloB (K : PySem.W.Frag) (x : Str) : Bool := eqO (PySem.W.nsIn K mainGlobals x) (some (some (.ref (ga K x))))
section
variable {fn : List DZ} {tf : List Defn} {ex : PySem.W.Frag → Bool} {h h' : Heap} {K : PySem.W.Frag} {mg : Str → Option Value} {x C m qual : Str} {st : Stmt}
theorem glo_of (X : K.In h') (G : h'.Ns mainGlobals mg) (c : gloB K x = true) : mg x = some (.ref (ga K x)) := PySem.W.mg_of X G (eqO_ok c)
theorem free_of (X : K.In h') (G : h'.Ns mainGlobals mg) (c : (Fa.free x).ok K = true) : mg x = none := free_ok X G c
theorem SaysZ.fun_ (c : SaysZ fn tf ex h K) (i : Nat) {a : PySem.W.Frag → Addr} (e : fn[i]? = some { adr := a, name := x, qual := qual, params := defArgs st, body := defBody st, scope := defScope st }) : ∃ fd, Fun K x qual st (a K) fd := by
  obtain ⟨oc, od, osl, kV, doc, pm, an, cdv, ct, l, cd, k, _⟩ := c.def_ i e rfl
  exact ⟨_, fun_mk l cd k⟩
theorem SaysZ.df (c : SaysZ fn tf ex h K) (X : K.In h') (G : h'.Ns mainGlobals mg) (i : Nat) (e : fn[i]? = some (topD x st)) (g : gloB K x = true) : Df K mg x st := by
  obtain ⟨fd, F⟩ := c.fun_ i e
  exact ⟨_, fd, F, glo_of X G g⟩
theorem SaysZ.dfC (c : SaysZ fn tf ex h K) (X : K.In h') (G : h'.Ns mainGlobals mg) (i : Nat) (e : fn[i]? = some (topD x st)) (g : gloB K x = true) : LfT.DfC K mg x st (codeOf K (x, none)) := by
  obtain ⟨oc, od, osl, kV, doc, pm, an, cdv, ct, l, cd, k, _⟩ := c.def_ i e rfl
  obtain ⟨ck, rfl⟩ := codeIn_ref cd
  have ec : codeOf K (x, none) = ck := codeOf_eq l rfl
  subst ec
  exact ⟨_, _, fun_mk l cd k, glo_of X G g, rfl⟩
theorem SaysZ.dm (c : SaysZ fn tf ex h K) (i : Nat) (e : fn[i]? = some (metD C m qual st)) (g : methB K (ga K C) m = true) : Dm K (ga K C) m qual st := by
  obtain ⟨fd, F⟩ := c.fun_ i e
  exact ⟨_, fd, F, methB_ok g⟩
theorem SaysZ.dp (c : SaysZ fn tf ex h K) (i : Nat) (e : fn[i]? = some (proD C m qual st)) (g : propB K (ga K C) m = true) : Dp_ K (ga K C) m qual st := by
  obtain ⟨fd, F⟩ := c.fun_ i e
  exact ⟨_, _, fd, F, propB_ok g⟩
theorem SaysZ.dc (c : SaysZ fn tf ex h K) (i : Nat) (e : fn[i]? = some (cmD C m qual st)) (g : cmetB K (ga K C) m = true) (rd : PySem.W.readsIn K (ga K C) (.type "type") = true) (gg : eqO (PySem.W.specialIn K (.ref (ga K C)) "__getattribute__") (some (some (.builtin "type.__getattribute__"))) = true) : Dc K (ga K C) m qual st := by
  obtain ⟨fd, F⟩ := c.fun_ i e
  exact ⟨.type "type", _, _, fd, F, ⟨rd, eqO_ok gg⟩, cmetB_ok g⟩
theorem SaysZ.kw (c : SaysZ fn tf ex h K) (i : Nat) {kwd : List (Str × Dv)} (e : fn[i]? = some (kwD C m qual st kwd)) : ∃ fd, FunD K m qual (defArgs st) (defBody st) (defScope st) [] (kwd.map fun q => (q.1, q.2.v K)) (ma K (ga K C) m) fd := by
  obtain ⟨oc, od, osl, kV, doc, pm, an, cdv, ct, l, cd, k, kw⟩ := c.def_ i e rfl
  exact ⟨_, ⟨_, _, _, _, _, _, _, _, _, _, rfl, l, cd, .inl ⟨rfl, rfl⟩, kw⟩, k⟩
end
def mkrB (K : PySem.W.Frag) (C : Addr) : Bool := PySem.W.makesIn K C && (eqO (PySem.W.findIn K (.ref C) "__init__") (some (some (.ref (ma K C "__init__")))) && (PySem.W.isFn K (.ref (ma K C "__init__")) && PySem.W.keepIn K (.ref C)))
theorem mkrB_ok {K : PySem.W.Frag} {C : Addr} (c : mkrB K C = true) : Mk K C (ma K C "__init__") := by
  obtain ⟨c1, c⟩ := ba c
  obtain ⟨c2, c⟩ := ba c
  obtain ⟨c3, c4⟩ := ba c
  exact ⟨c1, eqO_ok c2, c3, c4⟩
def clsB (K : PySem.W.Frag) (C : Addr) : Bool := PySem.W.plainGet K C Str.empty && (PySem.W.hasDictIn K C && (PySem.W.plainOver K C && eqO (PySem.W.findIn K (.ref C) "__setattr__") (some (some (.builtin "object.__setattr__")))))
theorem clsB_ok {K : PySem.W.Frag} {C : Addr} (c : clsB K C = true) : Cls K C := by
  obtain ⟨c1, c⟩ := ba c
  obtain ⟨c2, c⟩ := ba c
  obtain ⟨c3, c4⟩ := ba c
  exact ⟨c1, c2, c3, eqO_ok c4⟩
def noB (K : PySem.W.Frag) (C : Addr) (f : Str) : Bool := eqO (PySem.W.findIn K (.ref C) f) (some none)
theorem noB_ok {K : PySem.W.Frag} {C : Addr} {f : Str} (c : noB K C f = true) : NoAttr K C f := eqO_ok c
/-- an own exception without __init__ -/
def excB (K : PySem.W.Frag) (C : Addr) (mro : List Value) (newId : String) : Bool := PySem.W.excIn K C mro newId && (PySem.W.keepIn K (.ref C) && (decide (PySem.W.subIn K (.ref C) (.type "BaseException") = some true) && decide (PySem.W.typeIn K (.ref C) = some (.type "type"))))
theorem excB_ok {K : PySem.W.Frag} {C : Addr} {mro : List Value} {newId : String} (c : excB K C mro newId = true) : PySem.W.excIn K C mro newId = true ∧ PySem.W.keepIn K (.ref C) = true ∧ PySem.W.subIn K (.ref C) (.type "BaseException") = some true ∧ PySem.W.typeIn K (.ref C) = some (.type "type") := by
  obtain ⟨c1, c⟩ := ba c
  obtain ⟨c2, c⟩ := ba c
  obtain ⟨c3, c4⟩ := ba c
  exact ⟨c1, c2, of_decide_eq_true c3, of_decide_eq_true c4⟩
/-- an own exception with __init__(self, v): super().__init__('..'); self.f = v -/
def xB_ (K : PySem.W.Frag) (C : Addr) (mro : List Value) (f file : Str) (Bs is ns : String) : Bool := xobjB K C mro ns && (decide (PySem.W.alongIn K "__init__" mro = some (some (.builtin is))) && (eqO (PySem.W.findIn K (.ref C) "__setattr__") (some (some (.builtin "object.__setattr__"))) && (noB K C f && (eqO (PySem.W.findIn K (.ref C) "__init__") (some (some (.ref (ma K C "__init__")))) &&
  (decide (PySem.W.typeIn K (.ref (ma K C "__init__")) = some (.type "function")) && (PySem.W.keepIn K (.ref C) && (decide (PySem.W.subIn K (.ref C) (.type "BaseException") = some true) && (decide (PySem.W.subIn K (.ref C) (.type Bs) = some true) && (decide (PySem.W.mroIn K C (.ref C) = some true) && (decide (PySem.W.mroIn K C (.type "object") = some true) &&
  (decide (PySem.W.typeIn K (.ref C) = some (.type "type")) && (eqO (PySem.W.nsIn K cStatics "thirdparty.any") (some none) && fileB K (ma K C "__init__") file))))))))))))
/-- what such a check tells -/
structure XFacts (K : PySem.W.Frag) (C fI : Addr) (mro : List Value) (f : Str) (Bs is ns : String) : Prop where
  obj : ∃ nm q N bs sn sub ab col dd k0 k1 k2 k3 k5, K.lookup C = some (excClassObj nm q C N bs mro true sn sub ab col dd k0 k1 k2 k3 k5 ns)
  al : PySem.W.alongIn K "__init__" mro = some (some (.builtin is))
  sa : PySem.W.findIn K (.ref C) "__setattr__" = some (some (.builtin "object.__setattr__"))
  noF : PySem.W.findIn K (.ref C) f = some none
  iC : PySem.W.findIn K (.ref C) "__init__" = some (some (.ref fI))
  tC : PySem.W.typeIn K (.ref fI) = some (.type "function")
  kC : PySem.W.keepIn K (.ref C) = true
  exC : PySem.W.subIn K (.ref C) (.type "BaseException") = some true
  sB : PySem.W.subIn K (.ref C) (.type Bs) = some true
  sD : PySem.W.mroIn K C (.ref C) = some true
  sO : PySem.W.mroIn K C (.type "object") = some true
  tyC : PySem.W.typeIn K (.ref C) = some (.type "type")
  op : PySem.W.nsIn K cStatics "thirdparty.any" = some none
theorem xB_ok {K : PySem.W.Frag} {C : Addr} {mro : List Value} {f file : Str} {Bs is ns : String} (c : xB_ K C mro f file Bs is ns = true) : XFacts K C (ma K C "__init__") mro f Bs is ns ∧ fileB K (ma K C "__init__") file = true := by
  obtain ⟨c1, c⟩ := ba c
  obtain ⟨c2, c⟩ := ba c
  obtain ⟨c3, c⟩ := ba c
  obtain ⟨c4, c⟩ := ba c
  obtain ⟨c5, c⟩ := ba c
  obtain ⟨c6, c⟩ := ba c
  obtain ⟨c7, c⟩ := ba c
  obtain ⟨c8, c⟩ := ba c
  obtain ⟨c9, c⟩ := ba c
  obtain ⟨c10, c⟩ := ba c
  obtain ⟨c11, c⟩ := ba c
  obtain ⟨c12, c⟩ := ba c
  obtain ⟨c13, c14⟩ := ba c
  exact ⟨⟨xobjB_ok c1, of_decide_eq_true c2, eqO_ok c3, noB_ok c4, eqO_ok c5, of_decide_eq_true c6, c7, of_decide_eq_true c8, of_decide_eq_true c9, of_decide_eq_true c10, of_decide_eq_true c11, of_decide_eq_true c12, eqO_ok c13⟩, c14⟩
end LfH
set_option maxHeartbeats 0
namespace My
open PySem L2 Lf Evl Tr StX PyProof LamX LfT
abbrev prog5 : Program := PySem.Challenge.pw_loopfoundry_k18_shapes_and_patterns_judg
def fileP : Str := prog5.main.file

def fnL0 : List LfH.DZ := [LfH.topD "is_name" s_is_name,
  LfH.topD "is_number" s_is_number,
  LfH.topD "is_integer" s_is_integer,
  LfH.topD "is_within" s_is_within,
  LfH.topD "is_ascending" s_is_ascending,
  LfH.topD "is_tree_shape" s_is_tree_shape,
  LfH.topD "is_shape" s_is_shape,
  LfH.topD "below_in" s_below_in,
  LfH.topD "working" s_working,
  LfH.topD "are_uses" s_are_uses,
  LfH.topD "is_pattern" s_is_pattern,
  LfH.topD "_law_urn" s_law_urn,
  LfH.topD "_law_pull" s_law_pull,
  LfH.topD "_law_one" s_law_one,
  LfH.topD "_law_some" s_law_some,
  LfH.topD "_law_menu" s_law_menu,
  LfH.topD "_law_patterns" s_law_patterns,
  LfH.topD "_law_is_word" s_law_is_word,
  LfH.topD "_law_size" s_law_size,
  LfH.topD "_law_is_from" s_law_is_from,
  LfH.topD "_law_are_uses" s_law_are_uses,
  LfH.topD "_law_is_rule" s_law_is_rule,
  LfH.topD "_law_bent" s_law_bent,
  LfH.topD "_law_right" s_law_right,
  LfH.topD "law" s_law]
def fnL : List LfH.DZ := fnL0
def exL0 : List (PySem.W.Frag → Bool) := [fun K => LfH.gloB K "is_name",
  fun K => LfH.gloB K "is_number",
  fun K => LfH.gloB K "is_integer",
  fun K => LfH.gloB K "is_within",
  fun K => LfH.gloB K "is_ascending",
  fun K => LfH.gloB K "is_tree_shape",
  fun K => LfH.gloB K "is_shape",
  fun K => LfH.gloB K "below_in",
  fun K => LfH.gloB K "working",
  fun K => LfH.gloB K "are_uses",
  fun K => LfH.gloB K "is_pattern",
  fun K => LfH.gloB K "_law_urn",
  fun K => LfH.gloB K "_law_pull",
  fun K => LfH.gloB K "_law_one",
  fun K => LfH.gloB K "_law_some",
  fun K => LfH.gloB K "_law_menu",
  fun K => LfH.gloB K "_law_patterns",
  fun K => LfH.gloB K "_law_is_word",
  fun K => LfH.gloB K "_law_size",
  fun K => LfH.gloB K "_law_is_from",
  fun K => LfH.gloB K "_law_are_uses",
  fun K => LfH.gloB K "_law_is_rule",
  fun K => LfH.gloB K "_law_bent",
  fun K => LfH.gloB K "_law_right",
  fun K => LfH.gloB K "law",
  fun K => (He.Fa.free "isinstance").ok K,
  fun K => (He.Fa.free "int").ok K,
  fun K => (He.Fa.free "bool").ok K,
  fun K => (He.Fa.free "str").ok K,
  fun K => (He.Fa.free "tuple").ok K]
def exL1 : List (PySem.W.Frag → Bool) := [fun K => (He.Fa.free "len").ok K,
  fun K => (He.Fa.free "abs").ok K,
  fun K => (He.Fa.free "max").ok K,
  fun K => (He.Fa.free "min").ok K,
  fun K => (He.Fa.free "list").ok K,
  fun K => (He.Fa.free "range").ok K,
  fun K => (He.Fa.free "all").ok K,
  fun K => (He.Fa.free "sum").ok K,
  fun K => (He.Fa.free "repr").ok K,
  fun K => (He.Fa.free "zip").ok K,
  fun K => (He.Fa.free "sorted").ok K,
  fun K => (He.Fa.free "set").ok K,
  fun K => (He.Fa.int "MAX_SHAPE" 4).ok K,
  fun K => (He.Fa.int "MAX_NAME" 8).ok K,
  fun K => (He.Fa.int "LIMIT" lim).ok K,
  fun K => (He.Fa.int "MAX_TREES" 3).ok K,
  fun K => (He.Fa.int "MAX_TICKS" 4).ok K,
  fun K => (He.Fa.int "MAX_COST" 20).ok K,
  fun K => (He.Fa.int "MAX_OFFSET" 3).ok K,
  fun K => (He.Fa.str "HOLE" "hole").ok K,
  fun K => (He.Fa.str "LOAD" "load").ok K,
  fun K => (He.Fa.str "OP" "op").ok K,
  fun K => (He.Fa.str "STORE" "store").ok K,
  fun K => (He.Fa.str "LETTERS" letters).ok K]
def exL : List (PySem.W.Frag → Bool) := exL0 ++ (exL1)
def tfL : List He.Defn := []
theorem ex_0 {h : Heap} {K : PySem.W.Frag} (c : LfH.SaysZ fnL tfL (LfH.exA exL) h K) : (LfH.gloB K "is_name") = true := LfH.exA_at (f := fun K => LfH.gloB K "is_name") c.more 0 rfl
theorem ex_1 {h : Heap} {K : PySem.W.Frag} (c : LfH.SaysZ fnL tfL (LfH.exA exL) h K) : (LfH.gloB K "is_number") = true := LfH.exA_at (f := fun K => LfH.gloB K "is_number") c.more 1 rfl
theorem ex_2 {h : Heap} {K : PySem.W.Frag} (c : LfH.SaysZ fnL tfL (LfH.exA exL) h K) : (LfH.gloB K "is_integer") = true := LfH.exA_at (f := fun K => LfH.gloB K "is_integer") c.more 2 rfl
theorem ex_3 {h : Heap} {K : PySem.W.Frag} (c : LfH.SaysZ fnL tfL (LfH.exA exL) h K) : (LfH.gloB K "is_within") = true := LfH.exA_at (f := fun K => LfH.gloB K "is_within") c.more 3 rfl
theorem ex_4 {h : Heap} {K : PySem.W.Frag} (c : LfH.SaysZ fnL tfL (LfH.exA exL) h K) : (LfH.gloB K "is_ascending") = true := LfH.exA_at (f := fun K => LfH.gloB K "is_ascending") c.more 4 rfl
theorem ex_5 {h : Heap} {K : PySem.W.Frag} (c : LfH.SaysZ fnL tfL (LfH.exA exL) h K) : (LfH.gloB K "is_tree_shape") = true := LfH.exA_at (f := fun K => LfH.gloB K "is_tree_shape") c.more 5 rfl
theorem ex_6 {h : Heap} {K : PySem.W.Frag} (c : LfH.SaysZ fnL tfL (LfH.exA exL) h K) : (LfH.gloB K "is_shape") = true := LfH.exA_at (f := fun K => LfH.gloB K "is_shape") c.more 6 rfl
theorem ex_7 {h : Heap} {K : PySem.W.Frag} (c : LfH.SaysZ fnL tfL (LfH.exA exL) h K) : (LfH.gloB K "below_in") = true := LfH.exA_at (f := fun K => LfH.gloB K "below_in") c.more 7 rfl
theorem ex_8 {h : Heap} {K : PySem.W.Frag} (c : LfH.SaysZ fnL tfL (LfH.exA exL) h K) : (LfH.gloB K "working") = true := LfH.exA_at (f := fun K => LfH.gloB K "working") c.more 8 rfl
theorem ex_9 {h : Heap} {K : PySem.W.Frag} (c : LfH.SaysZ fnL tfL (LfH.exA exL) h K) : (LfH.gloB K "are_uses") = true := LfH.exA_at (f := fun K => LfH.gloB K "are_uses") c.more 9 rfl
theorem ex_10 {h : Heap} {K : PySem.W.Frag} (c : LfH.SaysZ fnL tfL (LfH.exA exL) h K) : (LfH.gloB K "is_pattern") = true := LfH.exA_at (f := fun K => LfH.gloB K "is_pattern") c.more 10 rfl
theorem ex_11 {h : Heap} {K : PySem.W.Frag} (c : LfH.SaysZ fnL tfL (LfH.exA exL) h K) : (LfH.gloB K "_law_urn") = true := LfH.exA_at (f := fun K => LfH.gloB K "_law_urn") c.more 11 rfl
theorem ex_12 {h : Heap} {K : PySem.W.Frag} (c : LfH.SaysZ fnL tfL (LfH.exA exL) h K) : (LfH.gloB K "_law_pull") = true := LfH.exA_at (f := fun K => LfH.gloB K "_law_pull") c.more 12 rfl
theorem ex_13 {h : Heap} {K : PySem.W.Frag} (c : LfH.SaysZ fnL tfL (LfH.exA exL) h K) : (LfH.gloB K "_law_one") = true := LfH.exA_at (f := fun K => LfH.gloB K "_law_one") c.more 13 rfl
theorem ex_14 {h : Heap} {K : PySem.W.Frag} (c : LfH.SaysZ fnL tfL (LfH.exA exL) h K) : (LfH.gloB K "_law_some") = true := LfH.exA_at (f := fun K => LfH.gloB K "_law_some") c.more 14 rfl
theorem ex_15 {h : Heap} {K : PySem.W.Frag} (c : LfH.SaysZ fnL tfL (LfH.exA exL) h K) : (LfH.gloB K "_law_menu") = true := LfH.exA_at (f := fun K => LfH.gloB K "_law_menu") c.more 15 rfl
theorem ex_16 {h : Heap} {K : PySem.W.Frag} (c : LfH.SaysZ fnL tfL (LfH.exA exL) h K) : (LfH.gloB K "_law_patterns") = true := LfH.exA_at (f := fun K => LfH.gloB K "_law_patterns") c.more 16 rfl
theorem ex_17 {h : Heap} {K : PySem.W.Frag} (c : LfH.SaysZ fnL tfL (LfH.exA exL) h K) : (LfH.gloB K "_law_is_word") = true := LfH.exA_at (f := fun K => LfH.gloB K "_law_is_word") c.more 17 rfl
theorem ex_18 {h : Heap} {K : PySem.W.Frag} (c : LfH.SaysZ fnL tfL (LfH.exA exL) h K) : (LfH.gloB K "_law_size") = true := LfH.exA_at (f := fun K => LfH.gloB K "_law_size") c.more 18 rfl
theorem ex_19 {h : Heap} {K : PySem.W.Frag} (c : LfH.SaysZ fnL tfL (LfH.exA exL) h K) : (LfH.gloB K "_law_is_from") = true := LfH.exA_at (f := fun K => LfH.gloB K "_law_is_from") c.more 19 rfl
theorem ex_20 {h : Heap} {K : PySem.W.Frag} (c : LfH.SaysZ fnL tfL (LfH.exA exL) h K) : (LfH.gloB K "_law_are_uses") = true := LfH.exA_at (f := fun K => LfH.gloB K "_law_are_uses") c.more 20 rfl
theorem ex_21 {h : Heap} {K : PySem.W.Frag} (c : LfH.SaysZ fnL tfL (LfH.exA exL) h K) : (LfH.gloB K "_law_is_rule") = true := LfH.exA_at (f := fun K => LfH.gloB K "_law_is_rule") c.more 21 rfl
theorem ex_22 {h : Heap} {K : PySem.W.Frag} (c : LfH.SaysZ fnL tfL (LfH.exA exL) h K) : (LfH.gloB K "_law_bent") = true := LfH.exA_at (f := fun K => LfH.gloB K "_law_bent") c.more 22 rfl
theorem ex_23 {h : Heap} {K : PySem.W.Frag} (c : LfH.SaysZ fnL tfL (LfH.exA exL) h K) : (LfH.gloB K "_law_right") = true := LfH.exA_at (f := fun K => LfH.gloB K "_law_right") c.more 23 rfl
theorem ex_24 {h : Heap} {K : PySem.W.Frag} (c : LfH.SaysZ fnL tfL (LfH.exA exL) h K) : (LfH.gloB K "law") = true := LfH.exA_at (f := fun K => LfH.gloB K "law") c.more 24 rfl
theorem ex_25 {h : Heap} {K : PySem.W.Frag} (c : LfH.SaysZ fnL tfL (LfH.exA exL) h K) : ((He.Fa.free "isinstance").ok K) = true := LfH.exA_at (f := fun K => (He.Fa.free "isinstance").ok K) c.more 25 rfl
theorem ex_26 {h : Heap} {K : PySem.W.Frag} (c : LfH.SaysZ fnL tfL (LfH.exA exL) h K) : ((He.Fa.free "int").ok K) = true := LfH.exA_at (f := fun K => (He.Fa.free "int").ok K) c.more 26 rfl
theorem ex_27 {h : Heap} {K : PySem.W.Frag} (c : LfH.SaysZ fnL tfL (LfH.exA exL) h K) : ((He.Fa.free "bool").ok K) = true := LfH.exA_at (f := fun K => (He.Fa.free "bool").ok K) c.more 27 rfl
theorem ex_28 {h : Heap} {K : PySem.W.Frag} (c : LfH.SaysZ fnL tfL (LfH.exA exL) h K) : ((He.Fa.free "str").ok K) = true := LfH.exA_at (f := fun K => (He.Fa.free "str").ok K) c.more 28 rfl
theorem ex_29 {h : Heap} {K : PySem.W.Frag} (c : LfH.SaysZ fnL tfL (LfH.exA exL) h K) : ((He.Fa.free "tuple").ok K) = true := LfH.exA_at (f := fun K => (He.Fa.free "tuple").ok K) c.more 29 rfl
theorem ex_30 {h : Heap} {K : PySem.W.Frag} (c : LfH.SaysZ fnL tfL (LfH.exA exL) h K) : ((He.Fa.free "len").ok K) = true := LfH.exA_at (f := fun K => (He.Fa.free "len").ok K) c.more 30 rfl
theorem ex_31 {h : Heap} {K : PySem.W.Frag} (c : LfH.SaysZ fnL tfL (LfH.exA exL) h K) : ((He.Fa.free "abs").ok K) = true := LfH.exA_at (f := fun K => (He.Fa.free "abs").ok K) c.more 31 rfl
theorem ex_32 {h : Heap} {K : PySem.W.Frag} (c : LfH.SaysZ fnL tfL (LfH.exA exL) h K) : ((He.Fa.free "max").ok K) = true := LfH.exA_at (f := fun K => (He.Fa.free "max").ok K) c.more 32 rfl
theorem ex_33 {h : Heap} {K : PySem.W.Frag} (c : LfH.SaysZ fnL tfL (LfH.exA exL) h K) : ((He.Fa.free "min").ok K) = true := LfH.exA_at (f := fun K => (He.Fa.free "min").ok K) c.more 33 rfl
theorem ex_34 {h : Heap} {K : PySem.W.Frag} (c : LfH.SaysZ fnL tfL (LfH.exA exL) h K) : ((He.Fa.free "list").ok K) = true := LfH.exA_at (f := fun K => (He.Fa.free "list").ok K) c.more 34 rfl
theorem ex_35 {h : Heap} {K : PySem.W.Frag} (c : LfH.SaysZ fnL tfL (LfH.exA exL) h K) : ((He.Fa.free "range").ok K) = true := LfH.exA_at (f := fun K => (He.Fa.free "range").ok K) c.more 35 rfl
theorem ex_36 {h : Heap} {K : PySem.W.Frag} (c : LfH.SaysZ fnL tfL (LfH.exA exL) h K) : ((He.Fa.free "all").ok K) = true := LfH.exA_at (f := fun K => (He.Fa.free "all").ok K) c.more 36 rfl
theorem ex_37 {h : Heap} {K : PySem.W.Frag} (c : LfH.SaysZ fnL tfL (LfH.exA exL) h K) : ((He.Fa.free "sum").ok K) = true := LfH.exA_at (f := fun K => (He.Fa.free "sum").ok K) c.more 37 rfl
theorem ex_38 {h : Heap} {K : PySem.W.Frag} (c : LfH.SaysZ fnL tfL (LfH.exA exL) h K) : ((He.Fa.free "repr").ok K) = true := LfH.exA_at (f := fun K => (He.Fa.free "repr").ok K) c.more 38 rfl
theorem ex_39 {h : Heap} {K : PySem.W.Frag} (c : LfH.SaysZ fnL tfL (LfH.exA exL) h K) : ((He.Fa.free "zip").ok K) = true := LfH.exA_at (f := fun K => (He.Fa.free "zip").ok K) c.more 39 rfl
theorem ex_40 {h : Heap} {K : PySem.W.Frag} (c : LfH.SaysZ fnL tfL (LfH.exA exL) h K) : ((He.Fa.free "sorted").ok K) = true := LfH.exA_at (f := fun K => (He.Fa.free "sorted").ok K) c.more 40 rfl
theorem ex_41 {h : Heap} {K : PySem.W.Frag} (c : LfH.SaysZ fnL tfL (LfH.exA exL) h K) : ((He.Fa.free "set").ok K) = true := LfH.exA_at (f := fun K => (He.Fa.free "set").ok K) c.more 41 rfl
theorem ex_42 {h : Heap} {K : PySem.W.Frag} (c : LfH.SaysZ fnL tfL (LfH.exA exL) h K) : ((He.Fa.int "MAX_SHAPE" 4).ok K) = true := LfH.exA_at (f := fun K => (He.Fa.int "MAX_SHAPE" 4).ok K) c.more 42 rfl
theorem ex_43 {h : Heap} {K : PySem.W.Frag} (c : LfH.SaysZ fnL tfL (LfH.exA exL) h K) : ((He.Fa.int "MAX_NAME" 8).ok K) = true := LfH.exA_at (f := fun K => (He.Fa.int "MAX_NAME" 8).ok K) c.more 43 rfl
theorem ex_44 {h : Heap} {K : PySem.W.Frag} (c : LfH.SaysZ fnL tfL (LfH.exA exL) h K) : ((He.Fa.int "LIMIT" lim).ok K) = true := LfH.exA_at (f := fun K => (He.Fa.int "LIMIT" lim).ok K) c.more 44 rfl
theorem ex_45 {h : Heap} {K : PySem.W.Frag} (c : LfH.SaysZ fnL tfL (LfH.exA exL) h K) : ((He.Fa.int "MAX_TREES" 3).ok K) = true := LfH.exA_at (f := fun K => (He.Fa.int "MAX_TREES" 3).ok K) c.more 45 rfl
theorem ex_46 {h : Heap} {K : PySem.W.Frag} (c : LfH.SaysZ fnL tfL (LfH.exA exL) h K) : ((He.Fa.int "MAX_TICKS" 4).ok K) = true := LfH.exA_at (f := fun K => (He.Fa.int "MAX_TICKS" 4).ok K) c.more 46 rfl
theorem ex_47 {h : Heap} {K : PySem.W.Frag} (c : LfH.SaysZ fnL tfL (LfH.exA exL) h K) : ((He.Fa.int "MAX_COST" 20).ok K) = true := LfH.exA_at (f := fun K => (He.Fa.int "MAX_COST" 20).ok K) c.more 47 rfl
theorem ex_48 {h : Heap} {K : PySem.W.Frag} (c : LfH.SaysZ fnL tfL (LfH.exA exL) h K) : ((He.Fa.int "MAX_OFFSET" 3).ok K) = true := LfH.exA_at (f := fun K => (He.Fa.int "MAX_OFFSET" 3).ok K) c.more 48 rfl
theorem ex_49 {h : Heap} {K : PySem.W.Frag} (c : LfH.SaysZ fnL tfL (LfH.exA exL) h K) : ((He.Fa.str "HOLE" "hole").ok K) = true := LfH.exA_at (f := fun K => (He.Fa.str "HOLE" "hole").ok K) c.more 49 rfl
theorem ex_50 {h : Heap} {K : PySem.W.Frag} (c : LfH.SaysZ fnL tfL (LfH.exA exL) h K) : ((He.Fa.str "LOAD" "load").ok K) = true := LfH.exA_at (f := fun K => (He.Fa.str "LOAD" "load").ok K) c.more 50 rfl
theorem ex_51 {h : Heap} {K : PySem.W.Frag} (c : LfH.SaysZ fnL tfL (LfH.exA exL) h K) : ((He.Fa.str "OP" "op").ok K) = true := LfH.exA_at (f := fun K => (He.Fa.str "OP" "op").ok K) c.more 51 rfl
theorem ex_52 {h : Heap} {K : PySem.W.Frag} (c : LfH.SaysZ fnL tfL (LfH.exA exL) h K) : ((He.Fa.str "STORE" "store").ok K) = true := LfH.exA_at (f := fun K => (He.Fa.str "STORE" "store").ok K) c.more 52 rfl
theorem ex_53 {h : Heap} {K : PySem.W.Frag} (c : LfH.SaysZ fnL tfL (LfH.exA exL) h K) : ((He.Fa.str "LETTERS" letters).ok K) = true := LfH.exA_at (f := fun K => (He.Fa.str "LETTERS" letters).ok K) c.more 53 rfl
theorem chain {P : Program} {w : World} {K : PySem.W.Frag} {mg : Str → Option Value} {base : Heap} {f0 : Addr} {fd : FuncData} (T : Txt K mg)
    (E_is_name : Df K mg "is_name" s_is_name)
    (E_is_number : Df K mg "is_number" s_is_number)
    (E_is_integer : Df K mg "is_integer" s_is_integer)
    (E_is_within : Df K mg "is_within" s_is_within)
    (E_is_ascending : Df K mg "is_ascending" s_is_ascending)
    (E_is_tree_shape : Df K mg "is_tree_shape" s_is_tree_shape)
    (E_is_shape : Df K mg "is_shape" s_is_shape)
    (E_below_in : Df K mg "below_in" s_below_in)
    (E_working : Df K mg "working" s_working)
    (E_are_uses : Df K mg "are_uses" s_are_uses)
    (E_is_pattern : Df K mg "is_pattern" s_is_pattern)
    (E_law_urn : Df K mg "_law_urn" s_law_urn)
    (E_law_pull : Df K mg "_law_pull" s_law_pull)
    (E_law_one : Df K mg "_law_one" s_law_one)
    (E_law_some : Df K mg "_law_some" s_law_some)
    (E_law_menu : Df K mg "_law_menu" s_law_menu)
    (E_law_patterns : Df K mg "_law_patterns" s_law_patterns)
    (E_law_is_word : Df K mg "_law_is_word" s_law_is_word)
    (E_law_size : Df K mg "_law_size" s_law_size)
    (E_law_is_from : Df K mg "_law_is_from" s_law_is_from)
    (E_law_are_uses : Df K mg "_law_are_uses" s_law_are_uses)
    (E_law_is_rule : Df K mg "_law_is_rule" s_law_is_rule)
    (E_law_bent : Df K mg "_law_bent" s_law_bent)
    (E_law_right : Df K mg "_law_right" s_law_right)
    (F_law : Fun K "law" "law" s_law f0 fd) :
    FnOkG P w K mg base CX0 12 f0 fd ["_law_script"] (spLaw K) := by
  have d1 := ok_is_name (P := P) (w := w) (base := base) T E_is_name
  have d2 := ok_is_number (P := P) (w := w) (base := base) T E_is_number
  have d3 := ok_is_integer T E_is_integer d2
  have d4 := ok_is_within T E_is_within d3
  have t0 := ok_ts0 (P := P) (w := w) (base := base) E_is_tree_shape
  have t1 := ok_tsS T E_is_tree_shape (by decide) t0 d1
  have t2 := ok_tsS T E_is_tree_shape (by decide) t1 d1
  have t3 := ok_tsS T E_is_tree_shape (by decide) t2 d1
  have t4 := ok_tsS T E_is_tree_shape (by decide) t3 d1
  have t5 := ok_tsS T E_is_tree_shape (by decide) t4 d1
  have t6 := ok_tsS T E_is_tree_shape (by decide) t5 d1
  have d5 := ok_below_in (P := P) (w := w) (base := base) T E_below_in
  have w0 := ok_wk0 (P := P) (w := w) (base := base) E_working
  have w1 := ok_wkS T E_working (by decide) w0 d5
  have w2 := ok_wkS T E_working (by decide) w1 d5
  have w3 := ok_wkS T E_working (by decide) w2 d5
  have w4 := ok_wkS T E_working (by decide) w3 d5
  have w5 := ok_wkS T E_working (by decide) w4 d5
  have d6 := ok_is_shape T E_is_shape t6 w5
  have d7 := ok_is_ascending (P := P) (w := w) (base := base) T E_is_ascending
  have d8 := ok_are_uses T E_are_uses d1 d4 d7
  have d9 := ok_is_pattern T E_is_pattern d1 d4 d6 d8
  have l1 := ok_law_urn (P := P) (w := w) (base := base) T E_law_urn
  have l2 := ok_law_pull (P := P) (w := w) (base := base) T E_law_pull
  have l3 := ok_law_one T E_law_one l2
  have l4 := ok_law_someD T E_law_some l2
  have l5 := ok_law_menu (P := P) (w := w) (base := base) T E_law_menu
  have l6 := ok_law_patterns T E_law_patterns l2 l3 l4 l5
  have l7 := ok_law_is_word (P := P) (w := w) (base := base) T E_law_is_word
  have z0 := ok_law_sz0 (P := P) (w := w) (base := base) E_law_size
  have z1 := ok_law_szS T E_law_size (by decide) z0 l7
  have z2 := ok_law_szS T E_law_size (by decide) z1 l7
  have z3 := ok_law_szS T E_law_size (by decide) z2 l7
  have z4 := ok_law_szS T E_law_size (by decide) z3 l7
  have z5 := ok_law_szS T E_law_size (by decide) z4 l7
  have z6 := ok_law_szS T E_law_size (by decide) z5 l7
  have z7 := ok_law_szS T E_law_size (by decide) z6 l7
  have z8 := ok_law_szS T E_law_size (by decide) z7 l7
  have l8 := ok_law_is_from (P := P) (w := w) (base := base) T E_law_is_from
  have l9 := ok_law_are_uses T E_law_are_uses l7 l8
  have l10 := ok_law_is_rule T E_law_is_rule (by decide) z8 l7 l8 l9
  have b0 := ok_law_bt0 (P := P) (w := w) (base := base) E_law_bent
  have b1 := ok_law_btS T E_law_bent (by decide) b0 l2 l3
  have b2 := ok_law_btS T E_law_bent (by decide) b1 l2 l3
  have b3 := ok_law_btS T E_law_bent (by decide) b2 l2 l3
  have b4 := ok_law_btS T E_law_bent (by decide) b3 l2 l3
  have l11 := ok_law_right T E_law_right z8 l10 d6 d9
  exact ok_law T F_law l1 l3 l5 l6 b4 d6 l11
abbrev R5 : PySem.W.OpenRow := PySem.W.OpenLaw.row PySem.Challenge.rw_loopfoundry_k18_shapes_and_patterns_judg
abbrev hk : PySem.W.Hook := LfH.hookZ 800 fnL tfL (LfH.exA exL)
def ob (s : PySem.W.SharedT) : LfH.AlZ := LfH.obsZ 800 fnL tfL (LfH.exA exL) (HandSHeadRun.getT s)
theorem ob_eq (s : PySem.W.SharedT) : ob s = hk.obs s.abs := LfH.obsZ_eq (HandSHeadRun.getT_eq s)
def loose0 : List Str := ["__name__",
  "LETTERS",
  "MAX_NAME",
  "LIMIT",
  "MAX_TICKS",
  "is_name",
  "is_number",
  "is_integer",
  "is_within",
  "is_ascending",
  "LOAD",
  "OP",
  "STORE",
  "MAX_TREES",
  "HOLE",
  "MAX_SHAPE",
  "is_tree_shape",
  "is_shape",
  "below_in",
  "working",
  "MAX_COST",
  "MAX_OFFSET",
  "are_uses",
  "is_pattern",
  "_law_urn",
  "_law_pull",
  "_law_one",
  "_law_some",
  "_law_menu",
  "_law_patterns"]
def loose1 : List Str := ["_law_is_word",
  "_law_size",
  "_law_is_from",
  "_law_are_uses",
  "_law_is_rule",
  "_law_bent",
  "_law_right"]
def loose : List Str := loose0 ++ (loose1)
theorem run (w : World) : HandSHeadRun.RunEq R5 (PySem.W.view R5.prog [40]) hk ob 9000 loose w := by
  intro os
  kernel_rfl
theorem cs_mem {K : PySem.W.Frag} {p : Addr × Addr} (hp : p ∈ ([] : List (Addr × Addr))) : ∃ q ∈ tfL, p = He.cT K q := nomatch hp
theorem facts {w : World} {K : PySem.W.Frag} {h : Heap} {mg : Str → Option Value} {f : Addr} (X : K.In h) (G : h.Ns mainGlobals mg) (hfa : mg ("law" : Str) = some (.ref f)) (c : LfH.SaysZ fnL tfL (LfH.exA exL) h K) :
    ∃ fd : FuncData, (∀ (s : Shared) (v : Value), BindsTo s fd ⟨[v], []⟩ [("_law_script", v)]) ∧ ∀ base : Heap, K.In base → base.Ns mainGlobals mg → (∀ p ∈ ([] : List (Addr × Addr)), LamX.TabB base mg p.1 p.2) → FnOkG prog5 w K mg base CX0 12 f fd ["_law_script"] (spLaw K) := by
  have e := hfa.symm.trans (LfH.glo_of X G (ex_24 c))
  cases e

  have T : Txt K mg := { n_isinstance := He.free_ok X G (ex_25 c), n_int := He.free_ok X G (ex_26 c), n_bool := He.free_ok X G (ex_27 c), n_str := He.free_ok X G (ex_28 c), n_tuple := He.free_ok X G (ex_29 c), n_len := He.free_ok X G (ex_30 c), n_abs := He.free_ok X G (ex_31 c), n_max := He.free_ok X G (ex_32 c), n_min := He.free_ok X G (ex_33 c), n_list := He.free_ok X G (ex_34 c), n_range := He.free_ok X G (ex_35 c), n_all := He.free_ok X G (ex_36 c), n_sum := He.free_ok X G (ex_37 c), n_repr := He.free_ok X G (ex_38 c), n_zip := He.free_ok X G (ex_39 c), n_sorted := He.free_ok X G (ex_40 c), n_set := He.free_ok X G (ex_41 c), g_MAX_SHAPE := He.int_ok X G (ex_42 c), g_MAX_NAME := He.int_ok X G (ex_43 c), g_LIMIT := He.int_ok X G (ex_44 c), g_MAX_TREES := He.int_ok X G (ex_45 c), g_MAX_TICKS := He.int_ok X G (ex_46 c), g_MAX_COST := He.int_ok X G (ex_47 c), g_MAX_OFFSET := He.int_ok X G (ex_48 c), g_HOLE := He.str_ok X G (ex_49 c), g_LOAD := He.str_ok X G (ex_50 c), g_OP := He.str_ok X G (ex_51 c), g_STORE := He.str_ok X G (ex_52 c), g_LETTERS := He.str_ok X G (ex_53 c) }

  obtain ⟨oc, od, osl, kV, doc, pm, an, cdv, ct, l, cd, k, _⟩ := c.def_ 24 rfl rfl
  skip
  refine ⟨PySem.W.fnOf "law" "law" (defArgs s_law) (defBody s_law) (defScope s_law) .none kV doc pm an cdv ct, fun s u => .of_eq rfl, fun base _ _ TBS => ?_⟩
  exact chain T (c.df X G 0 rfl (ex_0 c)) (c.df X G 1 rfl (ex_1 c)) (c.df X G 2 rfl (ex_2 c)) (c.df X G 3 rfl (ex_3 c)) (c.df X G 4 rfl (ex_4 c)) (c.df X G 5 rfl (ex_5 c)) (c.df X G 6 rfl (ex_6 c)) (c.df X G 7 rfl (ex_7 c)) (c.df X G 8 rfl (ex_8 c)) (c.df X G 9 rfl (ex_9 c)) (c.df X G 10 rfl (ex_10 c)) (c.df X G 11 rfl (ex_11 c)) (c.df X G 12 rfl (ex_12 c)) (c.df X G 13 rfl (ex_13 c)) (c.df X G 14 rfl (ex_14 c)) (c.df X G 15 rfl (ex_15 c)) (c.df X G 16 rfl (ex_16 c)) (c.df X G 17 rfl (ex_17 c)) (c.df X G 18 rfl (ex_18 c)) (c.df X G 19 rfl (ex_19 c)) (c.df X G 20 rfl (ex_20 c)) (c.df X G 21 rfl (ex_21 c)) (c.df X G 22 rfl (ex_22 c)) (c.df X G 23 rfl (ex_23 c)) (fun_mk l cd k)
end My
open PySem PySem.W PySem.Calls PyProof.Rows
theorem PySem.Challenge.cw_loopfoundry_k18_shapes_and_patterns_judg_holds : PySem.Challenge.rw_loopfoundry_k18_shapes_and_patterns_judg.Holds := by
  w_on; o_law
  refine HandSHeadRun.head_any (r := OpenLaw.row PySem.Challenge.rw_loopfoundry_k18_shapes_and_patterns_judg) (q := view (OpenLaw.row PySem.Challenge.rw_loopfoundry_k18_shapes_and_patterns_judg).prog [40]) (H := My.hk) (ob := My.ob) (M := 9000) (loose := My.loose) (d := HandSHeadRun.topDef (OpenLaw.row PySem.Challenge.rw_loopfoundry_k18_shapes_and_patterns_judg).prog 40) (kwd := []) My.ob_eq
    (by kernel_rfl) (fun s => by kernel_rfl) My.run (by kernel_rfl) (by kernel_rfl) (by kernel_rfl) (by rfl) (by first | assumption | decide +kernel) (by decide +kernel) ⟨rfl, rfl, rfl, rfl, rfl, by decide +kernel⟩ ?hw ?hc
  case hw => w_witness2
  case hc =>
    refine LfH.walk_ofTGE (l := PySem.Challenge.rw_loopfoundry_k18_shapes_and_patterns_judg) (n := 63) (k := 12) (x := "_law_script") (CX := L2.CX0) rfl (by decide) (by kernel_rfl) ⟨rfl, by decide, by decide⟩ ?F (fun _ _ _ _ z => z)
    intro w mg fa h Y G hmg0
    obtain ⟨K, KX, c⟩ := Y
    have hmg : mg ("law" : PySem.Str) = some (.ref fa) := by
      have e : (HandSHeadRun.topDef (OpenLaw.row PySem.Challenge.rw_loopfoundry_k18_shapes_and_patterns_judg).prog 40).name = ("law" : PySem.Str) := by kernel_rfl
      rw [← e]
      exact hmg0
    obtain ⟨fd, hb, hF⟩ := My.facts (w := w) KX G hmg c
    refine ⟨K, fd, _, My.spLaw K, KX, fun p hp => ?_, fun p hp => ?_, fun p hp => ?_, hb, fun H a ns hl hT hS => ⟨a, ns, rfl, hS, fun _ => rfl⟩, hF⟩
    · cases hp
    · cases hp
    · cases hp
#print axioms PySem.Challenge.cw_loopfoundry_k18_shapes_and_patterns_judg_holds
