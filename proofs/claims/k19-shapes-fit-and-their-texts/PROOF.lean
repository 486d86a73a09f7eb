import PyProof.Rows.All
import Wide.All
import OpenK.AllK
import Wide.FinOn
import HandS.ForExc
import KE.KExcSuper
import HandS.ForMost
import HandS.ExcField
import HandS.ExcIs
import HandS.IsInst
import HandS.Style
import HandS.Wide
import HandS.Property
import HandS.Evl
import KE.KUnpackStar
import HandS.Walk
import HandS.TupAny
import PyProof.EqKinds
import PyProof.NeKinds
import PyProof.FactsAll.dict
import HandS.Text
import HandS.TupMul
import PyProof.Rows.RuleB_pow
import HandS.Zip
import HandS.Star
import HandS.SortKw
import PyProof.DictUpdate
import HandS.Iter
import HandS.Zip0
import PyProof.Draws
import HandS.SlotsOwn
import HandS.Records
import HandS.Flow
import HandS.OwnEq
import HandS.FStr
import PyProof.ReprRoads
import KE.KCallOwn
import PyProof.CallFns
import HandS.EndTab
import KE.KNest
import HandS.Lambda
import HandS.TryOnly
import PySem.Challenge.RW_loopfoundry_k19_what_shapes_fit_and_thei
set_option Elab.async false
set_option linter.all false
set_option maxRecDepth 100000
set_option maxHeartbeats 4000000
/-! try: body / except A as n: .. / except B as n: .. : several clauses with names -/
namespace L2
open PySem PySem.Spec PyProof.Rows
/-- the ends of a suite whose name stands in slot i -/
def sufEnds (i : Nat) (D : Ends) : Ends := { nx := fun σ' H' => D.nx (σ'.set i none) H', rt := D.rt, bk := fun σ' H' => D.bk (σ'.set i none) H', ct := fun σ' H' => D.ct (σ'.set i none) H' }
/-- what the clauses wish of an exception of the body, one behind the other: its class, the name's slot, the suite -/
def wAsM (K : PySem.W.Frag) (Wout : WX) (D : Ends) : List (Value × Nat × (Addr → Value → Option Addr → TS)) → WX
  | [] => Wout
  | (c, i, ts) :: r => fun cls d σ H => ∃ b, PySem.W.exmOne K cls c = some b ∧ (b = true → ∀ a, H a = none → ts a cls d (sufEnds i D) (σ.set i (some (.ref a))) H) ∧ (b = false → wAsM K Wout D r cls d σ H)
inductive HdA (X : Cx) : List ExceptHandler → List (Value × Nat × (Addr → Value → Option Addr → TS)) → Prop
  | nil : HdA X [] []
  | cons {x n : Str} {c : Value} {i : Nat} {ts : Addr → Value → Option Addr → TS} {b₀ : Stmt} {suite : List Stmt} {np pos' : Pos} {hds : List ExceptHandler} {l : List (Value × Nat × (Addr → Value → Option Addr → TS))}
      (hi : X.N[i]? = some n) (hln : X.env.kindOf n = some .local) (hc : Names X x c)
      (hsu : ∀ (a : Addr) (oe : Obj) (cls : Value) (d : Option Addr) (pn : List (Addr × Obj)), Zc cls d oe → (∃ vs, oe.data = .fields vs) → PSs (X.suite a ((a, oe) :: pn)) (b₀ :: suite) (ts a cls d)) (r : HdA X hds l) :
      HdA X (.ExceptHandler (some (.Name x np)) (some n) (b₀ :: suite) pos' :: hds) ((c, i, ts) :: l)
section
variable {X : Cx} {body : List Stmt} {h₀ : ExceptHandler} {hds : List ExceptHandler} {l : List (Value × Nat × (Addr → Value → Option Addr → TS))} {pos : Pos} {tb : WX → TS} {Wout : WX}
theorem ps_try_asM (hs : X.stack = X.env :: X.outer) (hf : X.env.frame = some X.env.locals) (hN : X.N.Nodup) (tk : Takes X Wout)
    (hb : ∀ (W : WX) (pn : List (Addr × Obj)) (xe : Value → Shared → Prop), Takes (X.tr pn xe) W → PassesOwn (model X.prog X.w) X.A X.env xe → PSs (X.tr pn xe) body (tb W))
    (hh : HdA X (h₀ :: hds) l) : PS X (.Try body (h₀ :: hds) [] [] pos) (fun D σ H => tb (wAsM X.K Wout D l) D σ H) := by
  refine ⟨fun pins s σ H D I h => ?_⟩
  have ok := I.ok
  have hfr : X.A.frames = some (X.env :: X.outer) := by rw [ok.frames, hs]
  refine wpAny_Try_except ?_
  refine wpAny_mono ((hb (wAsM X.K Wout D l) (X.pn ++ pins) (fun e s₁ => wpAny (model X.prog X.w) X.A (noteFrame e X.env) (fun _ s₂ => wpAny (model X.prog X.w) X.A (setFlight e none) (fun _ s₃ =>
    wpAny (model X.prog X.w) X.A (handleBy e X.env (h₀ :: hds)) (SP X pins D) X.xe s₃) X.xe s₂) X.xe s₁) (fun u s' xx => ?_) PassesOwn.looking).run [] s σ H D (I.toTry _) h) (fun f s1 hsp => ?_) (fun e s1 he => he)
  · obtain ⟨a, B, sI, pins', σ', H', cls, d, rfl, J', nb, up, sky, na, os, ag, w⟩ := xx
    have J : Inv X pins σ' H' sI := J'.ofTry ok
    have sky' : Sky B (X.env :: X.outer) a (Zc cls d) X.env.locals s'.heap := by rw [← hs]; exact sky
    show wpAny (model X.prog X.w) X.A (noteFrame (.ref a) X.env) _ _ _
    refine Sky.land Zc.steady hfr hf sky' fun h3 fl3 up3 => ?_
    have J3 : Inv X pins σ' H' { s' with heap := h3 } := J.landed nb fl3.1 (up.trans up3) os ag
    obtain ⟨oe3, vs3, he3, hz3, hd3⟩ := fl3.there
    have nfr : a ∉ frs (X.env :: X.outer) := fun hm => by
      obtain ⟨_, o', e', hnf⟩ := fl3.2.2.1.mem hm
      rw [he3] at e'; cases e'
      exact hnf _ hd3
    have nL : a ≠ X.env.locals := fun z => nfr (List.mem_filterMap.mpr ⟨X.env, List.mem_cons_self, by rw [hf, z]⟩)
    have nF : a ∉ X.fs := fun hm => by
      obtain ⟨e, he, q⟩ := List.mem_filterMap.mp hm
      exact nfr (List.mem_filterMap.mpr ⟨e, List.mem_cons_of_mem _ he, q⟩)
    have S3 := J3.suite he3 hd3 na nL nF
    have go : ∀ {hds' : List ExceptHandler} {l' : List (Value × Nat × (Addr → Value → Option Addr → TS))}, HdA X hds' l' → wAsM X.K Wout D l' cls d σ' H' →
        wpAny (model X.prog X.w) X.A (handleBy (.ref a) X.env hds') (SP X pins D) X.xe { s' with heap := h3 } := by
      intro hds' l' hk
      induction hk with
      | nil =>
        intro w
        refine wpAny_handleBy_nil ?_
        obtain ⟨k1, k2, k3, oe, vs, T, oT, ts', he, hz, hd, h1, hr⟩ := id fl3
        unfold PySem.passOn
        refine wpAny_bind (wpAny_field he hd h1 ?_)
        rw [if_neg (show ¬ ((Value.ref T == Value.none) = true) from by simp)]
        have fin : wpAny (model X.prog X.w) X.A (setFlight (.ref a) X.env.frame) (fun _ s4 => wpAny (model X.prog X.w) X.A (throw (.ref a) : Sem Flow) (SP X pins D) X.xe s4) X.xe { s' with heap := h3 } := by
          rw [hf]
          refine HandSPX.setFlight_upZ fl3 fun h4 hh4 up4 => wpAny_throw (tk _ _ ?_)
          exact ⟨a, B, sI, pins, σ', H', cls, d, rfl, J, nb, (up.trans up3).trans up4, .inr (.inr (by rw [hs]; exact hh4)), na, os, ag, w⟩
        first
          | exact wpAny_bind (wpAny_pure (wpAny_bind fin))
          | exact wpAny_bind fin
      | @cons x n c i ts b₀ suite np pos' hds2 l2 hi hln hc hsu r ih =>
        intro w
        obtain ⟨b, hb1, hyes, hno⟩ := w
        have hloc : Loc X.env.scope n := .inl hln
        refine wpAny_handleBy_cons (codeAny_handlers_test ?_) (by intro q; cases q)
        have LT : PySem.W.Looks (model X.prog X.w) h3 (typeOf (.ref a)) cls := fun A Q E s k q => wpAny_typeOf_ref (k _ _ he3) (by rw [hz3.1]; exact q)
        have LM := PySem.W.exm_one (M := model X.prog X.w) (J3.kIn) LT hb1
        have test : ∀ {Q : Value → Shared → Prop} {E : Value → Shared → Prop}, Q c { s' with heap := h3 } → wpAny (model X.prog X.w) (X.A.mark (some (.ref a))) (eval (.Name x np) X.env) Q E { s' with heap := h3 } := fun {Q E} q => by
          obtain ⟨hg, hdbg, hm | ⟨hm, hv, hnn⟩⟩ := hc
          · exact ld_glob (X := X.suite a ((a, oe3) :: (X.pn ++ pins))) S3 hg hm q hdbg
          · exact ld_blt (X := X.suite a ((a, oe3) :: (X.pn ++ pins))) S3 hg hm hv q hnn hdbg
        refine test (LM.here ?_)
        cases b with
        | true =>
          refine codeAny_handlers_suite_as ?_
          refine HandSPX.lands_againZ fl3 fun h4 fl4 up4 => ?_
          have J4 : Inv X pins σ' H' { s' with heap := h4 } := J.landed nb fl4.1 ((up.trans up3).trans up4) os ag
          obtain ⟨oe4, vs4, he4, hz4, hd4⟩ := fl4.there
          have S4 := J4.suite he4 hd4 na nL nF
          refine store_ok (X := X.suite a ((a, oe4) :: (X.pn ++ pins))) (v := .ref a) S4 hN hi hloc rfl (fun s5 S5 => ?_) (.inr hln)
          refine wpAny_mono ((hsu a oe4 cls d (X.pn ++ pins) hz4 ⟨_, hd4⟩).run [] s5 _ H' _ S5 (hyes rfl a na)) (fun f s6 hsp => ?_) (fun _ _ z => False.elim z)
          have end_ : ∀ {σ6 : St} {H6 : Hp} {Q : Shared → Prop}, Inv (X.suite a ((a, oe4) :: (X.pn ++ pins))) [] σ6 H6 s6 → (∀ s7, Inv X pins (σ6.set i none) H6 s7 → Q s7) →
              wpAny (model X.prog X.w) X.A (do bindName X.env n .none; unbindBehindTheSuite X.env n pos') (fun _ s7 => Q s7) X.xe s6 := fun {σ6 H6 Q} S6 hq => gone_ok (S6.unsuite ok) hN hi hln hq
          cases f with
          | next =>
            obtain ⟨σ6, H6, S6, q6⟩ := hsp
            exact end_ S6 fun s7 J7 => ⟨_, _, J7, q6⟩
          | brk =>
            obtain ⟨σ6, H6, S6, q6⟩ := hsp
            exact end_ S6 fun s7 J7 => ⟨_, _, J7, q6⟩
          | cont =>
            obtain ⟨σ6, H6, S6, q6⟩ := hsp
            exact end_ S6 fun s7 J7 => ⟨_, _, J7, q6⟩
          | ret u =>
            obtain ⟨v6, σ6, H6, S6, r6, q6⟩ := hsp
            exact end_ S6 fun s7 J7 => ⟨_, _, _, J7, r6, q6⟩
        | false =>
          show wpAny _ X.A (handleBy (.ref a) X.env hds2) _ _ _
          exact ih (hno rfl)
    exact go hh w
  · cases f with
    | next =>
      obtain ⟨σ', H', J', q⟩ := hsp
      exact wpAny_execs_nil ⟨σ', H', J'.ofTry ok, q⟩
    | brk =>
      obtain ⟨σ', H', J', q⟩ := hsp
      exact ⟨σ', H', J'.ofTry ok, q⟩
    | cont =>
      obtain ⟨σ', H', J', q⟩ := hsp
      exact ⟨σ', H', J'.ofTry ok, q⟩
    | ret u =>
      obtain ⟨v, σ', H', J', r, q⟩ := hsp
      exact ⟨v, σ', H', J'.ofTry ok, r, q⟩
end
end L2
set_option maxHeartbeats 4000000
/-! An own error over a built-in one: __init__(self, f): super().__init__('..'); self.f = f -/
namespace PySem
namespace LfX
open PySem.W PySem.Calls PyProof.Rows PySem.HandSPX
def xA (f : Str) (p1 p2 : Pos) : Arguments := { posonlyargs := [], args := [{ arg := "self", annotation := none, pos := p1 }, { arg := f, annotation := none, pos := p2 }], vararg := none, kwonlyargs := [], kw_defaults := [], kwarg := none, defaults := [] }
def xB (f m : Str) (j : Nat) (q1 q2 q3 q4 q5 q6 q7 q8 q9 q10 : Pos) : List Stmt :=
  [.Expr (.Call (.Attribute (.Call (.Name "super" q1) [] [] q2) "__init__" q3) [.Constant (.str m) j q4] [] q5) q6, .Assign [.Attribute (.Name "self" q7) f q8] (.Name f q9) q10]
def xS (f : Str) : Scope := { kind := .function, names := [(PySem.Str.ofString "self", .local), (f, .local), (PySem.Str.ofString "__class__", .free), (PySem.Str.ofString "super", .globalImplicit)], isGenerator := false, isCoroutine := false, more := [] }
/-- the name of the field stands apart from the three others -/
structure FldOk (f : Str) : Prop where
  e1 : (f == PySem.Str.ofString "self") = false
  e2 : (PySem.Str.ofString "__class__" == f) = false
  e3 : (PySem.Str.ofString "super" == f) = false
  e4 : (f == ("__debug__" : Str)) = false
  bd : ∀ (qn : Str) (p1 p2 : Pos) (b : List Stmt) (doc pm : Value) (an : Option Addr) (cdv ct : Value) (cc : Addr) (s : Shared) (x v : Value),
    BindsTo s (ksFn "__init__" qn (xA f p1 p2) b (xS f) .none .none doc pm an cdv ct cc) ⟨[x, v], []⟩ [("self", x), (f, v)]
/-- what the written part says of such a class, at C, and of its __init__, at fI -/
structure XTxt (prog : Program) (K : Frag) (mg : Str → Option Value) (x f : Str) (B i newId : String) (bmB : List Value) (C fI : Addr) : Prop where
  fo : FldOk f
  gC : mg x = some (.ref C)
  cls : ∃ nm q N bs bm sn sub ab col dd k0 k1 k2 k3 k5, K.lookup C = some (excClassObj nm q C N bs bm true sn sub ab col dd k0 k1 k2 k3 k5 newId) ∧ (∀ X : String, bm.contains (.type X) = bmB.contains (.type X)) ∧
    (∀ self : Value, refuseLoop self "__setattr__" bm = pure ()) ∧ alongIn K "__init__" bm = some (some (.builtin i))
  sa : findIn K (.ref C) "__setattr__" = some (some (.builtin "object.__setattr__"))
  noF : findIn K (.ref C) f = some none
  iC : findIn K (.ref C) "__init__" = some (some (.ref fI))
  tC : typeIn K (.ref fI) = some (.type "function")
  kC : keepIn K (.ref C) = true
  exC : subIn K (.ref C) (.type "BaseException") = some true
  sB : subIn K (.ref C) (.type B) = some true
  sD : mroIn K C (.ref C) = some true
  sO : mroIn K C (.type "object") = some true
  tyC : typeIn K (.ref C) = some (.type "type")
  op : nsIn K cStatics "thirdparty.any" = some none
  sup : mg "super" = none
  top : (prog.main.scope.names.lookup ("super" : Str)).isSome = false
  fn : ∃ (oc : Value) (od : Option Addr) (doc pm : Value) (an : Option Addr) (cda : Addr) (ct : Value) (cc : Addr) (osl : Array (Option Value)) (qn m : Str) (j : Nat) (p1 p2 q1 q2 q3 q4 q5 q6 q7 q8 q9 q10 : Pos)
      (ccl : Value) (cdd : Option Addr) (vs : Array Value) (ccs : Array (Option Value)) (file : Str) (tf : Tok) (cl : Value) (cld : Option Addr) (csl : Array (Option Value)),
    K.lookup fI = some ⟨oc, od, .func (ksFn "__init__" qn (xA f p1 p2) (xB f m j q1 q2 q3 q4 q5 q6 q7 q8 q9 q10) (xS f) .none .none doc pm an (.ref cda) ct cc), osl⟩ ∧ codeIn K (.ref cda) qn = true ∧
    K.lookup cda = some ⟨ccl, cdd, .fields vs, ccs⟩ ∧ vs[2]? = some (.str file tf) ∧ ((prog.main.file : Str) == file) = true ∧ K.lookup cc = some ⟨cl, cld, .cell (some (.ref C)), csl⟩ ∧ (q3.endLine == q5.line) = true
section
variable {f : Str}
theorem xS_self : (xS f).names.lookup ("self" : Str) = some .local := by simp [xS, List.lookup]
theorem xS_f (o : FldOk f) : (xS f).names.lookup f = some .local := by simp [xS, List.lookup, o.e1]
theorem xS_class (o : FldOk f) : (xS f).names.lookup ("__class__" : Str) = some .free := by
  have h1 : ((PySem.Str.ofString "__class__") == (PySem.Str.ofString "self")) = false := by decide +kernel
  simp [xS, List.lookup, o.e2, h1]
theorem xS_super (o : FldOk f) : (xS f).names.lookup ("super" : Str) = some .globalImplicit := by
  have h1 : ((PySem.Str.ofString "super") == (PySem.Str.ofString "self")) = false := by decide +kernel
  have h2 : ((PySem.Str.ofString "super") == (PySem.Str.ofString "__class__")) = false := by decide +kernel
  simp [xS, List.lookup, o.e3, h1, h2]
end
theorem own_drop (C : Addr) (l : List Value) : ((Value.ref C :: l).dropWhile (· != .ref C)).drop 1 = l := by simp [List.dropWhile_cons]
/-- what __init__ leaves of a fresh exception at x -/
structure InitEnd (f : Str) (h h' : Heap) (x C dx : Addr) (v : Value) : Prop where
  keep : ∀ b o, b ≠ x → h.get? b = some o → h'.get? b = some o
  obj : ∃ t1, h'.get? x = some { cls := .ref C, dict := some dx, data := .fields #[.ref t1, .none, .none, .none, .bool false, .none] }
  dbig : h.objs.size ≤ dx
  dne : dx ≠ x
  ns : h'.Ns1 dx (fun y => if y = f then some v else none)
/-- a made one -/
structure XMade (f : Str) (h h' : Heap) (e C d : Addr) (v : Value) : Prop where
  keep : ∀ b o, h.get? b = some o → h'.get? b = some o
  new : h.objs.size ≤ e
  obj : ∃ oe vs, h'.get? e = some oe ∧ oe.cls = .ref C ∧ oe.dict = some d ∧ oe.data = .fields vs ∧ vs[1]? = some .none
  dbig : h.objs.size ≤ d
  dne : d ≠ e
  ns : h'.Ns1 d (fun y => if y = f then some v else none)
section
open Builtin Builtin.ObjectAttr
variable {prog : Program} {w : World} {A : Around} {E : Value → Shared → Prop} {R : Result → Shared → Prop} {hp : Heap} {g : Array GenState} {d : Drawn} {t : Nat} {os : OsState}
/-- self.name = v on an exception without a dict, by what its classes let -/
theorem osa_first {K : Frag} {name : Str} {tk : Tok} {v : Value} {x C : Addr} {fv : Array Value} {cd : ClassData}
    (X : K.In hp) (hx : hp.get? x = some { cls := .ref C, data := .fields fv }) (hcd : clsIn K C = some cd) (hob : mroIn K C (.type "object") = some true) (hpass : refuseLoop (.ref x) "__setattr__" cd.mro = pure ()) (hh : cd.hasDict = true) (ha : findIn K (.ref C) name = some none)
    (hq : ∀ h' tk' dx, (∀ b o, b ≠ x → hp.get? b = some o → h'.get? b = some o) → hp.objs.size ≤ dx → dx ≠ x → h'.get? x = some { cls := .ref C, dict := some dx, data := .fields fv } →
      h'.Ns1 dx (fun y => if y = name then some v else none) → R (.ok (.ret .none)) ⟨h', g, d, tk', os⟩) :
    codeAny (model prog w) A (.call (.builtin "object.__setattr__") ⟨[.ref x, .str name tk, v], []⟩) R ⟨hp, g, d, t, os⟩ := by
  have I : InstAt hp x { cls := .ref C, data := .fields fv } C none := ⟨hx, rfl, rfl, trivial⟩
  have hxs : x ≠ hp.objs.size := Nat.ne_of_lt (Heap.lt_size hx)
  have SF := F.store_object
  have sub : Looks (model prog w) hp (isInstance (.ref x) (.type "object")) true := I.type.andThen (looks_mroIn X hob)
  refine codeAny_call_builtin SF.slot.plain SF.entry (@check_slot (model prog w) _ _ ⟨hp, g, d, t, os⟩ "object.__setattr__" "object" "__setattr__" (.ref x) [.str name tk, v] [] _ SF.kind SF.split sub (SF.args (.ref x) (.str name tk) v) ?_)
  have hmr : Looks (model prog w) hp (mroOf (.ref C)) cd.mro := (looks_clsIn X hcd).andThen .now
  have L3 : Looks (model prog w) hp (storeTaker? none) none := .now
  have hcls : Looks (model prog w) hp (classData C) cd := looks_clsIn X hcd
  rw [osa_eq, refuse_eq]
  refine wpAny_bind (wpAny_bind (I.type.at (wpAny_bind (hmr.at ?_))))
  rw [hpass]
  refine wpAny_pure (wpAny_bind (I.type.at (wpAny_bind ((looks_findIn X ha).at (wpAny_bind (L3.at ?_))))))
  show wpAny _ _ (storeInOwnDict (.ref x) (.ref C) (.str name tk) name v false) _ _ _
  obtain ⟨nm, bs, mro, ns, qn, hd, sn, sb, ab, col, del⟩ := cd
  dsimp only at hh
  subst hh
  unfold storeInOwnDict ownDictForStores
  repeat (first | with_reducible refine HandSPX.store_in_new ?_ ?_ | with_reducible refine wpAny_loadPart_at hx ?_ | with_reducible refine hcls.at ?_ | wp_step)
  · exact ⟨_, #[], _, (Heap.get?_update_ne _ _ _ _ hxs.symm).trans (Heap.get?_push_at rfl rfl), rfl, fun e he => absurd he (by simp), fun _ => rfl⟩
  · intro h' tk' hn' hs
    have hx₁ : (hp.push { cls := .type "dict", data := .dict #[] }).get? x = some { cls := .ref C, data := .fields fv } := Heap.get?_push_of_some _ hx
    refine hq h' tk' hp.objs.size (fun b o hb ho => ?_) (Nat.le_refl _) hxs.symm ?_ hn'
    · exact (hs.2 b (Nat.ne_of_lt (Heap.lt_size ho))).trans ((Heap.get?_update_ne _ _ _ _ hb).trans (Heap.get?_push_of_some _ ho))
    · exact (hs.2 x hxs).trans (Heap.get?_update_self _ hx₁ rfl)
/-- the bound built-in __init__ called: the args are laid anew -/
theorem call_mw {nm q : Str} {C N : Addr} {bs bm bmB : List Value} {hdct : Bool} {sn : List Str} {sub : List Value} {ab : Bool} {col : Option Bool} {dd : Option Addr} {k0 k1 k2 k3 k5 : Option Value} {B newId i : String}
    {u e t0 : Addr} {rest : List Value} {Q : Value → Shared → Prop} (FB : ExcBaseFacts B newId i bmB)
    (hC : hp.get? C = some (excClassObj nm q C N bs bm hdct sn sub ab col dd k0 k1 k2 k3 k5 newId)) (he : hp.get? e = some (excO C t0)) (hu : hp.get? u = some (kxs_mw i e)) (hrest : rest.length ≤ sizeLine)
    (hq : ∀ h' t1, (∀ b o, b ≠ e → hp.get? b = some o → h'.get? b = some o) → h'.get? e = some (excO C t1) → Q .none ⟨h', g, d, t, os⟩) :
    wpAny (model prog w) A (call (.ref u) rest) Q E ⟨hp, g, d, t, os⟩ := by
  refine wpAny_call (codeAny_of_tree ?_)
  show wpAny _ A.in1 (callAny (.ref u) ⟨rest, []⟩) _ _ _
  simp only [callAny]
  refine wpAny_bind (wpAny_load hu ?_)
  simp only [kxs_mw, show (Value.type "method-wrapper" == Value.type "method" || Value.type "method-wrapper" == Value.type "builtin_function_or_method" || Value.type "method-wrapper" == Value.type "method-wrapper") = true by decide, if_true]
  refine KFB.if_so (by decide) ?_
  refine wpAny_bind (check_bound_init FB.toExcCallFacts hC he rfl ?_)
  refine wpAny_bind (wpAny_pure (wpAny_pure ?_))
  refine ⟨plainId_quiet FB.init.plain _, codeAny_builtin FB.initEntry ?_⟩
  exact exc_init_tree (cls := .ref C) (t0 := t0) (dv := none) (c2 := .none) (c3 := .none) (b4 := .bool false) he hrest fun h' k e' t' => hq h' _ k e'
end
section
variable {prog : Program} {w : World} {A : Around} {E : Value → Shared → Prop} {R : Result → Shared → Prop} {s : Shared} {K : Frag} {mg : Str → Option Value} {nx f : Str} {B i newId : String} {bmB : List Value} {C fI : Addr}
theorem x_init (T : XTxt prog K mg nx f B i newId bmB C fI) (FB : ExcBaseFacts B newId i bmB) (KF : KxsFacts B i) {x t0 : Addr} {v : Value} (X : K.In s.heap) (G : s.heap.Ns mainGlobals mg) (Bl : ∃ mb, s.heap.Ns builtinsNs mb ∧ ∀ x : Str, x ≠ "__name__" → mb x = bootBuiltins x)
    (hlim : s.heap.NoLimit) (hx : s.heap.get? x = some (excO C t0)) (hnx : K.lookup x = none) (hroom : A.depth < recursionLimit)
    (hq : ∀ h' tk dx, InitEnd f s.heap h' x C dx v → R (.ok (.ret .none)) { s with heap := h', toks := tk }) :
    codeAny (model prog w) A (.call (.ref fI) ⟨[.ref x, v], []⟩) R s := by
  obtain ⟨oc, od, doc, pm, an, cda, ct, cc, osl, qn, m, j, p1, p2, q1, q2, q3, q4, q5, q6, q7, q8, q9, q10, ccl, cdd, vs, ccs, file, tf, cl, cld, csl, ho, hcd, hcda, hvs, hfile, hcc, hln⟩ := T.fn
  obtain ⟨nm, q, N, bs, bm, sn, sub, ab, col, dd, k0, k1, k2, k3, k5, hC, hT, hpass, hal⟩ := T.cls
  obtain ⟨mb, hB, hBB⟩ := Bl
  have hcl : clsIn K C = some { name := nm, bases := bs, mro := .ref C :: bm, ns := N, qualname := q, hasDict := true, slotNames := sn, subclasses := sub, abstract := ab, collection := col, hasDel := false } := by unfold clsIn; rw [hC] <;> rfl
  refine ks_codeAny_call_defAt (fd := ksFn "__init__" qn (xA f p1 p2) (xB f m j q1 q2 q3 q4 q5 q6 q7 q8 q9 q10) (xS f) .none .none doc pm an (.ref cda) ct cc) (binds := [("self", .ref x), (f, v)]) hroom (X _ _ ho) rfl hlim (codeRec_of X hcd) rfl (T.fo.bd qn p1 p2 _ doc pm an _ ct cc s (.ref x) v) ?_ ?_ (fun h₁ hns k => ?_) rfl rfl rfl
  · intro y hy
    simp only [xS, List.mem_cons, List.not_mem_nil, or_false] at hy
    rcases hy with rfl | rfl | rfl | rfl <;> (intro z; cases z)
  · intro y hy
    simp only [List.mem_cons, List.not_mem_nil, or_false] at hy
    rcases hy with rfl | rfl
    · exact xS_self
    · exact xS_f T.fo
  · have X₁ : K.In h₁ := X.keeps k
    have hx₁ := k _ _ hx
    have hself : (fun y => List.lookup y ([(("self" : Str), Value.ref x), (f, v)].reverse)) ("self" : Str) = some (.ref x) := by
      have h1 : (("self" : Str) == f) = false := by rw [BEq.comm]; exact T.fo.e1
      simp [List.lookup, h1]
    have hval : (fun y => List.lookup y ([(("self" : Str), Value.ref x), (f, v)].reverse)) f = some v := by
      simp [List.lookup]
    have hCC : h₁.get? C = some _ := X₁ _ _ hC
    refine ks_wpAt_execs_cons (ks_wpAt_Expr_any (ks_wpAt_MethodCall (pl := do return (← importBound (.Call (.Name "super" q1) [] [] q2) (callEnv (ksFn "__init__" qn (xA f p1 p2) (xB f m j q1 q2 q3 q4 q5 q6 q7 q8 q9 q10) (xS f) .none .none doc pm an (.ref cda) ct cc) s.heap.objs.size fI)).getD true) ?_ ?_) rfl rfl)
    rotate_left
    · have e1 : ∀ (o : Expr) (env : Env), methodCallPos true o env q3 q5 = pure q5 := fun o env => by
        unfold methodCallPos
        rw [hln]
        rfl
      show (attributeBase _ _ _ _ >>= fun ov => standAt q3.atName >>= fun _ => (holding [ov] (calleeOf true _ _ ov _)) >>= fun x => methodCallPos true (.Call (.Name "super" q1) [] [] q2) (callEnv (ksFn "__init__" qn (xA f p1 p2) (xB f m j q1 q2 q3 q4 q5 q6 q7 q8 q9 q10) (xS f) .none .none doc pm an (.ref cda) ct cc) s.heap.objs.size fI) q3 q5 >>= fun cp => callWith cp x.1 x.2 _ _) = _
      rw [e1]
      rfl
    refine ks_wpAt_super_base (f := fI) (cc := cda) (file := file) (tf := tf) (xS_super T.fo) (xS_class T.fo) (by decide) rfl (X₁ _ _ ho) rfl rfl rfl (X₁ _ _ hcda) rfl hvs hfile T.top ?_
    refine ks_loadName_global rfl (xS_super T.fo) (loadGlobal_builtin (G.keeps k) T.sup (hB.keeps k) ((hBB _ (by decide +kernel)).trans (by first | boot_by_name | rfl | kernel_rfl)) ⟨rfl, ?_⟩)
    refine wpAny_loadName_free rfl (xS_class T.fo) rfl ⟨_, X₁ _ _ hcc, rfl⟩ ?_
    refine wpAny_loadName_local rfl xS_self hns hself ?_
    refine ks_wpAny_isType_cls hCC rfl ⟨rfl, ?_⟩
    refine ks_wpAny_call_super hCC rfl hx₁ rfl (fun c e => by cases e) (looks_mroIn X₁ T.sD) (fun h₂ hso k₂ => ?_)
    have X₂ : K.In h₂ := X₁.keeps k₂
    have hx₂ := k₂ _ _ hx₁
    have I₂ : InstAt h₂ x (excO C t0) C none := ⟨hx₂, rfl, rfl, trivial⟩
    have hxC : x ≠ C := fun z => by rw [z, hC] at hnx; cases hnx
    refine kxs_getMethod (l₀ := .ref C :: bm) KF hso (looks_opaque X₂ T.op) ((looks_clsIn X₂ hcl).andThen .now) rfl X₂ (by rw [own_drop]; exact hal) (I₂.type.andThen (looks_subIn X₂ T.sB)) hxC (by decide) ?_
    have k₃ : ∀ b o, h₂.get? b = some o → (h₂.push (kxs_mw i x)).get? b = some o := fun b o e => Heap.get?_push_of_some _ e
    refine kxs_callWith (i := i) (x := x) rfl ?_
    refine evalArgs_plain (Calls.spliced_cons ?_)
    refine Calls.Constant_str (x := m) (k := j) (pos := q4) (Calls.spliced_nil ?_)
    have hu : (h₂.push (kxs_mw i x)).get? h₂.objs.size = some (kxs_mw i x) := Heap.get?_push_at rfl rfl
    refine ⟨hu, ?_⟩
    show wpAny _ _ (call (.ref h₂.objs.size) [_]) _ _ _
    refine call_mw FB (k₃ _ _ (X₂ _ _ hC)) (k₃ _ _ hx₂) hu (by show 1 ≤ sizeLine; rw [sizeLine_eq]; decide) (fun h₄ t1 k₄ hx₄ => ?_)
    have kx : ∀ b o, b ≠ x → s.heap.get? b = some o → h₄.get? b = some o := fun b o hb e => k₄ b o hb (k₃ b o (k₂ b o (k b o e)))
    have X₄ : K.In h₄ := fun b o e => kx b o (fun z => by rw [z, hnx] at e; cases e) (X b o e)
    have hxL : x ≠ s.heap.objs.size := Nat.ne_of_lt (Heap.lt_size hx)
    have hns₄ : h₄.Ns s.heap.objs.size (fun y => List.lookup y ([(("self" : Str), Value.ref x), (f, v)].reverse)) := by
      obtain ⟨oL, es, ep, hL, r⟩ := hns
      exact ⟨oL, es, ep, k₄ _ _ hxL.symm (k₃ _ _ (k₂ _ _ hL)), r⟩
    refine ks_wpAt_execs_cons (_root_.PySem.wpAt_of_wpAny (plainObj_wpAny_Assign_Attribute ?_))
    refine wpAny_Name (wpAny_loadName_local rfl (xS_f T.fo) hns₄ hval ?_) T.fo.e4
    refine wpAny_Name (wpAny_loadName_local rfl xS_self hns₄ hself ?_) (by decide)
    refine set_plain X₄ (ox := excO C t1) (od := none) ⟨hx₄, rfl, rfl, trivial⟩ T.sa ?_
    refine osa_first X₄ hx₄ hcl T.sO (by rw [refuseLoop_ref]; exact hpass _) rfl T.noF (fun h₅ tk₅ dx k₅ dn dne hx₅ hn₅ => ?_)
    refine _root_.PySem.wpAt_of_wpAny (wpAny_execs_nil ?_)
    refine hq h₅ tk₅ dx ⟨fun b o hb e => k₅ b o hb (kx b o hb e), ⟨t1, hx₅⟩, ?_, dne, hn₅⟩
    exact Nat.le_trans (Nat.le_of_lt hns₄.lt) dn
theorem x_made (T : XTxt prog K mg nx f B i newId bmB C fI) (FB : ExcBaseFacts B newId i bmB) (KF : KxsFacts B i) {v : Value} (X : K.In s.heap) (G : s.heap.Ns mainGlobals mg) (Bl : ∃ mb, s.heap.Ns builtinsNs mb ∧ ∀ x : Str, x ≠ "__name__" → mb x = bootBuiltins x)
    (hlim : s.heap.NoLimit) (hroom : A.depth + 1 < recursionLimit)
    (hq : ∀ h' tk e d, XMade f s.heap h' e C d v → R (.ok (.ret (.ref e))) { s with heap := h', toks := tk }) :
    codeAny (model prog w) A (.call (.ref C) ⟨[v], []⟩) R s := by
  obtain ⟨nm, q, N, bs, bm, sn, sub, ab, col, dd, k0, k1, k2, k3, k5, hC, hT, hpass, hal⟩ := T.cls
  obtain ⟨mb, hB, hBB⟩ := Bl
  obtain ⟨hp, g, dr, tk, os⟩ := s
  have k : ∀ b o, hp.get? b = some o → ((hp.push (kdv_tup [v])).push (excO C hp.objs.size)).get? b = some o := fun b o e => Heap.get?_push_of_some _ (Heap.get?_push_of_some _ e)
  have hget : ((hp.push (kdv_tup [v])).push (excO C hp.objs.size)).get? (hp.objs.size + 1) = some (excO C hp.objs.size) := by heap_get
  have hnx : K.lookup (hp.objs.size + 1) = none := by
    cases e : K.lookup (hp.objs.size + 1) with
    | none => rfl
    | some o =>
      have z : hp.get? (hp.objs.size + 1) = some o := X _ _ e
      exact absurd (Nat.lt_of_succ_lt (Heap.lt_size z)) (Nat.lt_irrefl _)
  refine call_own FB hT (X _ _ hC) (looks_findIn X T.iC) (fun self => bind_fn X self T.tC) (by show 1 ≤ sizeLine; rw [sizeLine_eq]; decide) ?_
  refine x_init (s := ⟨(hp.push (kdv_tup [v])).push (excO C hp.objs.size), g, dr, tk, os⟩) T FB KF (X.keeps k) (G.keeps k) ⟨mb, hB.keeps k, hBB⟩ (hlim.keeps k) hget hnx ?_ fun h' tk' dx ⟨k', ⟨t1, hx⟩, dn, dne, hns⟩ => ?_
  · show A.depth + 1 < recursionLimit
    exact hroom
  · have old : ∀ b o, hp.get? b = some o → h'.get? b = some o := fun b o e => k' b o (Nat.ne_of_lt (Nat.lt_succ_of_lt (Heap.lt_size e))) (k b o e)
    have z : hp.objs.size + 1 + 1 ≤ dx := by
      have q := dn
      rw [Heap.size_push, Heap.size_push] at q
      exact q
    exact ⟨rfl, hq h' tk' (hp.objs.size + 1) dx ⟨old, Nat.le_succ _, ⟨_, _, hx, rfl, rfl, rfl, rfl⟩, Nat.le_trans (Nat.le_trans (Nat.le_succ _) (Nat.le_succ _)) z, dne, hns⟩⟩
end
end LfX
end PySem
namespace L2
open PySem PySem.Spec PyProof.Rows
theorem relO_one {f : Str} {v : V} {v' : Value} (r : RelV v v') (y : Str) : RelO (List.lookup y [(f, v)]) (if y = f then some v' else none) := by
  by_cases hw : y = f
  · subst hw
    rw [if_pos rfl]
    have q : List.lookup y [(y, v)] = some v := by simp [List.lookup]
    rw [q]
    exact r
  · rw [if_neg hw]
    have qw : (y == f) = false := by simpa using hw
    have q2 : List.lookup y [(f, v)] = none := by simp [List.lookup, qw]
    rw [q2]
    trivial
section
variable {X : Cx} {C fI : Addr} {nx f : Str} {B i newId : String} {bmB : List Value}
/-- C(e) for such a class -/
def tMkX (C : Addr) (f : Str) (ta : TA) : L2.St → Hp → XK → Prop := fun σ H Q => ta σ H fun vs H1 => ∃ v, vs = [v] ∧ ∀ d, H1 d = none → Q (.ref C) (some d) (upd H1 d (.xd [(f, v)]))
theorem pmk_x {a : Expr} {ta : TA} {p pos : Pos} {k : Nat} (T : PySem.LfX.XTxt X.prog X.K X.mg nx f B i newId bmB C fI) (FB : ExcBaseFacts B newId i bmB) (KF : PySem.W.KxsFacts B i) (hr : Room k X.A) (ha : PA X [a] ta) (hg : Gl X nx := by rfl) (hdb : (nx == ("__debug__" : Str)) = false := by decide)
    (he : starEach (a :: []) X.env = (false, eval a X.env) :: starEach [] X.env := by rfl) (hpl : (backTo pos (starEach [] X.env)).any (·.1) = false := by rfl) :
    PMk X (.Call (.Name nx p) [a] [] pos) (tMkX C f ta) := by
  intro pins s σ H Q I h
  refine wpAny_Call_Name_kw (ld_glob I hg T.gC ?_ hdb)
  refine PySem.W.callWith_K (h₀ := X.base) I.ok.mod.kin T.kC (thn (ha.run pos pins s σ H _ I h) fun us s1 hh => ?_) he hpl
  obtain ⟨vs, H1, I1, r1, v, ev, q1⟩ := hh
  subst ev
  refine ⟨I1.kIn, ?_⟩
  cases r1 with
  | cons rv rn =>
    rename_i v' us'
    cases rn
    show wpAny _ _ (call (.ref C) [v']) _ _ _
    have hlim := I1.nolimit
    have hG : s1.heap.Ns mainGlobals X.mg := I1.ok.mod.glob.keeps I1.bk
    have hB : ∃ mb, s1.heap.Ns builtinsNs mb ∧ ∀ x : Str, x ≠ "__name__" → mb x = bootBuiltins x := by
      obtain ⟨mb, b1, b2⟩ := I1.ok.mod.blt
      exact ⟨mb, b1.keeps I1.bk, b2⟩
    obtain ⟨hp, g, dr, tk, os⟩ := s1
    refine wpAny_call (PySem.LfX.x_made T FB KF I1.kIn hG hB hlim (by have := hr.dp; omega) fun h' tk' e d M => ?_)
    show MkP X pins σ Q (.ref e) ⟨h', g, dr, tk', os⟩
    obtain ⟨oe, fv, hoe, hc, hd, hdat, h1⟩ := M.obj
    have hns := M.ns
    obtain ⟨G', g1, g2⟩ := restrict h' fun b => decide (b ≠ e)
    have gk : ∀ b, b ≠ e → G'.get? b = h'.get? b := fun b hb => g1 b (decide_eq_true hb)
    have ge : G'.get? e = none := g2 e (by simp)
    have old : ∀ b o, hp.get? b = some o → G'.get? b = some o := fun b o q => (gk b (Nat.ne_of_lt (Nat.lt_of_lt_of_le (Heap.lt_size q) M.new))).trans (M.keep b o q)
    have ob : ObjOk X.prog X.w (upd H1 d (.xd [(f, v)])) G' d (.xd [(f, v)]) :=
      ⟨_, hns.at (fun o q => (gk d M.dne).trans q), fun y => relO_one rv y⟩
    have J : Inv X pins σ (upd H1 d (.xd [(f, v)])) ⟨G', g, dr, tk', os⟩ := I1.laid (t' := tk') old M.dbig ob
    refine ⟨e, oe, fv, ⟨G', g, dr, tk', os⟩, _, .ref C, some d, rfl, J, fun b o q => ?_, ge, hoe, ⟨hc, hd⟩, hdat, h1, ?_, rfl, I1.bare, raises_own T.exC T.tyC, q1 d (I1.hok.fresh M.dbig)⟩
    · by_cases hb : b = e
      · have q' : G'.get? b = some o := q
        rw [hb, ge] at q'; cases q'
      · exact (gk b hb).symm.trans q
    · rw [upd_ne (Ne.symm M.dne)]
      exact I1.hok.fresh M.new
end
end L2
set_option maxHeartbeats 4000000
/-! A def of the text as one fact, and its call -/
namespace L2
open PySem PySem.Spec PyProof.Rows
/-- the def x of the text stands at its name -/
def Df (K : PySem.W.Frag) (mg : Str → Option Value) (x : Str) (st : Stmt) : Prop := ∃ f fd, Fun K x x st f fd ∧ mg x = some (.ref f)
/-- the def x keeps the promise sp -/
def DefOk (P : Program) (w : World) (K : PySem.W.Frag) (mg : Str → Option Value) (base : Heap) (CX : CXT) (k : Nat) (x : Str) (ps : List Str) (sp : Sp) : Prop :=
  ∃ f fd, mg x = some (.ref f) ∧ PySem.W.keepIn K (.ref f) = true ∧ Binds K fd ps [] ∧ FnOk P w K mg base CX k f fd ps sp
section
variable {P : Program} {w : World} {K : PySem.W.Frag} {mg : Str → Option Value} {base : Heap} {x : Str} {st : Stmt} {N ps : List Str} {k : Nat} {sp : Sp}
theorem Df.ok (D : Df K mg x st) (S : FnScope N ps (defScope st))
    (bd : ∀ (kV doc pm : Value) (an : Option Addr) (cdv ct : Value) (us : List Value), us.length = ps.length → bindArgs (PySem.W.fnOf x x (defArgs st) (defBody st) (defScope st) .none kV doc pm an cdv ct) ⟨us, []⟩ = pure (ps.zip us))
    (len : ∀ vs H Q E, sp vs H Q E → vs.length = ps.length)
    (hbody : ∀ (f : Addr) (cdv : Value) (A : Around) (outer : List Env) (s : Shared) (H : Hp) (vs : List V) (Q : VK) (E : XK), Room k (A.deeper (envOfC x (defScope st) s.heap.objs.size f cdv)) → sp vs H Q E →
      ∃ t, PSs (cxOf CX0 P w K mg base N x (defScope st) f cdv A outer s H E).nox (defBody st) t ∧ t { nx := fun _ H' => Q .non H', rt := Q } (start N vs) H) : DefOk P w K mg base CX0 (k + 1) x ps sp := by
  obtain ⟨f, fd, F, hm⟩ := D
  exact ⟨f, fd, hm, F.kp, F.binds bd, F.ok S len (hbody f)⟩
theorem Df.okX (D : Df K mg x st) (S : FnScope N ps (defScope st))
    (bd : ∀ (kV doc pm : Value) (an : Option Addr) (cdv ct : Value) (us : List Value), us.length = ps.length → bindArgs (PySem.W.fnOf x x (defArgs st) (defBody st) (defScope st) .none kV doc pm an cdv ct) ⟨us, []⟩ = pure (ps.zip us))
    (len : ∀ vs H Q E, sp vs H Q E → vs.length = ps.length)
    (hbody : ∀ (f : Addr) (cdv : Value) (A : Around) (outer : List Env) (s : Shared) (H : Hp) (vs : List V) (Q : VK) (E : XK), Room k (A.deeper (envOfC x (defScope st) s.heap.objs.size f cdv)) → sp vs H Q E →
      ∃ t, PSs (cxOf (L2.CX P w) P w K mg base N x (defScope st) f cdv A outer s H E) (defBody st) t ∧ t { nx := fun _ H' => Q .non H', rt := Q } (start N vs) H) : DefOk P w K mg base (L2.CX P w) (k + 1) x ps sp := by
  obtain ⟨f, fd, F, hm⟩ := D
  exact ⟨f, fd, hm, F.kp, F.binds bd, F.okX S len (hbody f)⟩
end
section
variable {X : Cx} {CX : CXT} {k : Nat} {ps : List Str} {sp : Sp} {E : XK} {ES : St → XK} {x : Str} {p pos : Pos} {e : Expr} {es : List Expr} {t : TA}
def tCallD (sp : Sp) (E : XK) (t : TA) : TE := fun σ H Q => t σ H fun vs H1 => sp vs H1 Q E
theorem pe_callD (D : DefOk X.prog X.w X.K X.mg X.base CX k x ps sp) (hr : Room k X.A) (hx : Passes CX X E) (ha : PA X (e :: es) t) (hg : Gl X x := by rfl) (hdb : (x == ("__debug__" : Str)) = false := by decide)
    (he : starEach (e :: es) X.env = (false, eval e X.env) :: starEach es X.env := by rfl) (hpl : (backTo pos (starEach es X.env)).any (·.1) = false := by rfl) :
    PE X (.Call (.Name x p) (e :: es) [] pos) (tCallD sp E t) := by
  obtain ⟨f, fd, hm, hk, hb, F⟩ := D
  refine ⟨fun pins s σ H Q I h => (pe_call F hr hg hm hk hb (.nil) hx ha hdb he hpl).run pins s σ H Q I ?_⟩
  have q : (fun vs H1 => sp vs H1 Q E) = fun vs H1 => sp (vs ++ []) H1 Q E := by
    funext vs H1
    rw [List.append_nil]
  show t σ H (fun vs H1 => sp (vs ++ []) H1 Q E)
  rw [← q]
  exact h
theorem pe_callDS (D : DefOk X.prog X.w X.K X.mg X.base CX k x ps sp) (hr : Room k X.A) (hx : ∀ σ, PassesAt CX X σ (ES σ)) (ha : PA X (e :: es) t) (hg : Gl X x := by rfl) (hdb : (x == ("__debug__" : Str)) = false := by decide)
    (he : starEach (e :: es) X.env = (false, eval e X.env) :: starEach es X.env := by rfl) (hpl : (backTo pos (starEach es X.env)).any (·.1) = false := by rfl) :
    PE X (.Call (.Name x p) (e :: es) [] pos) (tCallS sp ES t) := by
  obtain ⟨f, fd, hm, hk, hb, F⟩ := D
  exact pe_callS F hr hg hm hk hb hx ha hdb he hpl
/-- a module's int -/
theorem pe_gInt {n : Int} (hg : Gl X x) (h : ∃ t, X.mg x = some (.int n t)) (hd : (x == ("__debug__" : Str)) = false := by decide) : PE X (.Name x pos) (tC (.int n)) := by
  obtain ⟨t, hm⟩ := h
  exact pe_glob hg hm ⟨t, rfl⟩ hd
theorem pe_gStr {n : Str} (hg : Gl X x) (h : ∃ t, X.mg x = some (.str n t)) (hd : (x == ("__debug__" : Str)) = false := by decide) : PE X (.Name x pos) (tC (.str n)) := by
  obtain ⟨t, hm⟩ := h
  exact pe_glob hg hm ⟨t, rfl⟩ hd
end
end L2
set_option maxHeartbeats 4000000
/-! Methods and properties as one fact each; sizes of ints -/
namespace L2
open PySem PySem.Spec PyProof.Rows
/-- the method m of the class at C, by its text -/
def Dm (K : PySem.W.Frag) (C : Addr) (m qual : Str) (st : Stmt) : Prop := ∃ f fd, Fun K m qual st f fd ∧ Meth K C m f
/-- the property m of the class at C, by its getter's text -/
def Dp_ (K : PySem.W.Frag) (C : Addr) (m qual : Str) (st : Stmt) : Prop := ∃ p f fd, Fun K m qual st f fd ∧ PropOf K C m p f
def MethOk (P : Program) (w : World) (K : PySem.W.Frag) (mg : Str → Option Value) (base : Heap) (CX : CXT) (k : Nat) (C : Addr) (m : Str) (ps : List Str) (sp : Sp) : Prop :=
  ∃ f fd, Meth K C m f ∧ Binds K fd ps [] ∧ FnOk P w K mg base CX k f fd ps sp
def PropOk (P : Program) (w : World) (K : PySem.W.Frag) (mg : Str → Option Value) (base : Heap) (CX : CXT) (k : Nat) (C : Addr) (m : Str) (ps : List Str) (sp : Sp) : Prop :=
  ∃ p f fd, PropOf K C m p f ∧ Binds K fd ps [] ∧ FnOk P w K mg base CX k f fd ps sp
section
variable {P : Program} {w : World} {K : PySem.W.Frag} {mg : Str → Option Value} {base : Heap} {C : Addr} {x qual : Str} {st : Stmt} {N ps : List Str} {k : Nat} {sp : Sp}
theorem Dm.ok (D : Dm K C x qual st) (S : FnScope N ps (defScope st))
    (bd : ∀ (kV doc pm : Value) (an : Option Addr) (cdv ct : Value) (us : List Value), us.length = ps.length → bindArgs (PySem.W.fnOf x qual (defArgs st) (defBody st) (defScope st) .none kV doc pm an cdv ct) ⟨us, []⟩ = pure (ps.zip us))
    (len : ∀ vs H Q E, sp vs H Q E → vs.length = ps.length)
    (hbody : ∀ (f : Addr) (cdv : Value) (A : Around) (outer : List Env) (s : Shared) (H : Hp) (vs : List V) (Q : VK) (E : XK), Room k (A.deeper (envOfC qual (defScope st) s.heap.objs.size f cdv)) → sp vs H Q E →
      ∃ t, PSs (cxOf CX0 P w K mg base N qual (defScope st) f cdv A outer s H E).nox (defBody st) t ∧ t { nx := fun _ H' => Q .non H', rt := Q } (start N vs) H) : MethOk P w K mg base CX0 (k + 1) C x ps sp := by
  obtain ⟨f, fd, F, hm⟩ := D
  exact ⟨f, fd, hm, F.binds bd, F.ok S len (hbody f)⟩
theorem Dp_.ok (D : Dp_ K C x qual st) (S : FnScope N ps (defScope st))
    (bd : ∀ (kV doc pm : Value) (an : Option Addr) (cdv ct : Value) (us : List Value), us.length = ps.length → bindArgs (PySem.W.fnOf x qual (defArgs st) (defBody st) (defScope st) .none kV doc pm an cdv ct) ⟨us, []⟩ = pure (ps.zip us))
    (len : ∀ vs H Q E, sp vs H Q E → vs.length = ps.length)
    (hbody : ∀ (f : Addr) (cdv : Value) (A : Around) (outer : List Env) (s : Shared) (H : Hp) (vs : List V) (Q : VK) (E : XK), Room k (A.deeper (envOfC qual (defScope st) s.heap.objs.size f cdv)) → sp vs H Q E →
      ∃ t, PSs (cxOf CX0 P w K mg base N qual (defScope st) f cdv A outer s H E).nox (defBody st) t ∧ t { nx := fun _ H' => Q .non H', rt := Q } (start N vs) H) : PropOk P w K mg base CX0 (k + 1) C x ps sp := by
  obtain ⟨p, f, fd, F, hm⟩ := D
  exact ⟨p, f, fd, hm, F.binds bd, F.ok S len (hbody f)⟩
end
section
variable {X : Cx} {CX : CXT} {k : Nat} {C : Addr} {ps : List Str} {sp : Sp} {E : XK} {m : Str} {p pos apos : Pos} {o e : Expr} {es : List Expr} {ta : TE} {t : TA}
def tMethD (C : Addr) (m : Str) (sp : Sp) (E : XK) (ta : TE) (t : TA) : TE := fun σ H Q => ta σ H fun x H1 => ∃ a dx fs, x = .ref a ∧ H1 a = some (.ins C dx fs) ∧ fs.lookup m = none ∧ t σ H1 fun vs H2 => sp (x :: vs) H2 Q E
theorem meth_nil {ta : TE} {t : TA} {σ : St} {H : Hp} {Q : VK} (h : tMethD C m sp E ta t σ H Q) : tMeth C m sp [] E ta t σ H Q := by
  have e : tMethD C m sp E ta t = tMeth C m sp [] E ta t := by
    funext σ H Q
    unfold tMethD tMeth
    simp only [List.append_nil]
  rw [← e]
  exact h
theorem pe_methD {pl : Sem Bool} (he : PE X o ta) (c : Cls X.K C) (D : MethOk X.prog X.w X.K X.mg X.base CX k C m ps sp) (hr : Room k X.A) (hx : Passes CX X E) (ha : PA X (e :: es) t)
    (hst : starEach (e :: es) X.env = (false, eval e X.env) :: starEach es X.env := by rfl) (hpl : (backTo pos (starEach es X.env)).any (·.1) = false := by rfl)
    (ht : eval (.Call (.Attribute o m apos) (e :: es) [] pos) X.env = (do
      let ov ← eval o X.env
      standAt apos.atName
      let (f, first) ← holding [ov] (getMethod ov m pl)
      callWith pos f first (backTo pos (starEach (e :: es) X.env)) (backToKw pos (keywordEach [] X.env))) := by rfl) :
    PE X (.Call (.Attribute o m apos) (e :: es) [] pos) (tMethD C m sp E ta t) := by
  obtain ⟨f, fd, hm, hb, F⟩ := D
  exact ⟨fun pins s σ H Q I h => (pe_meth he c hm F hr hb .nil hx ha hst hpl ht).run pins s σ H Q I (meth_nil h)⟩
theorem pe_methD0 {pl : Sem Bool} (he : PE X o ta) (c : Cls X.K C) (D : MethOk X.prog X.w X.K X.mg X.base CX k C m ps sp) (hr : Room k X.A) (hx : Passes CX X E)
    (ht : eval (.Call (.Attribute o m apos) [] [] pos) X.env = (do
      let ov ← eval o X.env
      standAt apos.atName
      let (f, first) ← holding [ov] (getMethod ov m pl)
      callWith pos f first (backTo pos (starEach [] X.env)) (backToKw pos (keywordEach [] X.env))) := by rfl) :
    PE X (.Call (.Attribute o m apos) [] [] pos) (tMethD C m sp E ta tNil) := by
  obtain ⟨f, fd, hm, hb, F⟩ := D
  exact ⟨fun pins s σ H Q I h => (pe_meth0 he c hm F hr hb .nil hx ht).run pins s σ H Q I (meth_nil h)⟩
/-- e.f, a property -/
theorem pe_propD (he : PE X e ta) (c : Cls X.K C) (D : PropOk X.prog X.w X.K X.mg X.base CX k C m ps sp) (hr : Room (k + 1) X.A) (hx : Passes CX X.nox E)
    (hab : attributeBase e m X.env (eval e X.env) = eval e X.env := by rfl) : PE X (.Attribute e m pos) (tProp C sp [] E ta) := by
  obtain ⟨p, f, fd, hm, hb, F⟩ := D
  exact pe_prop he c hm F hr hb .nil hx hab
/-- // by any great divisor but 0 -/
def CDivV (_ j : Int) : Prop := j ≠ 0 ∧ j.natAbs.log2 < 9000
theorem op_fdivV : OpR X (binaryOp .FloorDiv) (rI CDivV fun i j => .int (i.fdiv j)) := opI fun _ _ _ _ _ _ _ hc q => floordiv_int hc.1 q (.inl (PyProof.noPylong_of_log2 hc.2))
end
end L2
namespace Lf
open PySem L2
/-! ### sizes -/
def Bd (n : Nat) (i : Int) : Prop := i.natAbs < 2 ^ n
theorem Bd.mono {n m : Nat} {i : Int} (h : Bd n i) (hm : n ≤ m) : Bd m i := Nat.lt_of_lt_of_le h (Nat.pow_le_pow_right (by decide) hm)
theorem Bd.add {n m : Nat} {i j : Int} (h : Bd n i) (h' : Bd n j) (hm : n + 1 ≤ m) : Bd m (i + j) := by
  refine Bd.mono (n := n + 1) ?_ hm
  unfold Bd at *
  have := Int.natAbs_add_le i j
  rw [Nat.pow_succ]
  omega
theorem Bd.neg {n : Nat} {i : Int} (h : Bd n i) : Bd n (-i) := by
  unfold Bd at *
  rw [Int.natAbs_neg]
  exact h
theorem Bd.sub {n m : Nat} {i j : Int} (h : Bd n i) (h' : Bd n j) (hm : n + 1 ≤ m) : Bd m (i - j) := by
  rw [Int.sub_eq_add_neg]
  exact Bd.add h h'.neg hm
theorem Bd.mul {n m k : Nat} {i j : Int} (h : Bd n i) (h' : Bd m j) (hk : n + m ≤ k) : Bd k (i * j) := Bd.mono (wide_lt h h') hk
theorem Bd.ok {n m : Nat} {i j : Int} (h : Bd n i) (h' : Bd m j) (h0 : 0 < n) (h1 : 0 < m) (hs : n + m ≤ 1000000) : CMulW i j := wide_mul h h' h0 h1 hs
theorem Bd.div {n : Nat} {i j : Int} (h : Bd n i) : Bd n (i / j) := Nat.lt_of_le_of_lt (Int.natAbs_ediv_le_natAbs i j) h
theorem Bd.dok {n : Nat} {i j : Int} (h : Bd n j) (hj : j ≠ 0) (h0 : 0 < n) (h9 : n ≤ 9000) : CDivV i j := ⟨hj, Nat.lt_of_lt_of_le (PySem.Flt.log2_lt_of h0 h) h9⟩
theorem Bd.dpos {n : Nat} {i j : Int} (h : Bd n j) (hj : 0 < j) (h0 : 0 < n) (h9 : n ≤ 9000) : CDivW i j := wide_div hj h h0 h9
theorem Bd.lit {n : Nat} {i : Int} (h : i.natAbs < 2 ^ n) : Bd n i := h
end Lf
set_option maxHeartbeats 4000000
/-! match over a tuple: sequence patterns of names, perhaps a last *name, with a guard -/
namespace L2
open PySem PySem.Spec PyProof.Rows
/-- the patterns are plain names -/
def Caps (ps : List Pattern) (ns : List Str) : Prop := Paired (fun p n => ∃ q, p = Pattern.MatchAs none (some n) q) ps ns
section
variable {M : Model} {A : Around} {E : Value → Shared → Prop} {s : Shared} {env : Env}
theorem each_caps {ns : List Str} {ps more : List Pattern} {us rest : List Value} {Q : Option (List (Str × Value)) → Shared → Prop} (c : Caps ps ns) (hl : us.length = ns.length)
    (h : wpAny M A (matchEach more env rest) (fun r s1 => match r with | none => False | some bs => Q (some (ns.zip us ++ bs)) s1) E s) : wpAny M A (matchEach (ps ++ more) env (us ++ rest)) Q E s := by
  induction ns generalizing ps us Q with
  | nil =>
    cases c
    cases us with
    | nil =>
      refine wpAny_mono h (fun r s1 z => ?_) fun _ _ z => z
      cases r with
      | none => exact z.elim
      | some bs => exact z
    | cons u us => cases hl
  | cons n ns ih =>
    cases c with
    | cons c0 c1 =>
      obtain ⟨q, rfl⟩ := c0
      cases us with
      | nil => cases hl
      | cons u us =>
        refine wpAny_matchEach_cons (wpAny_matchPattern_Capture ?_)
        show wpAny M A (matchEach _ env (us ++ rest)) _ E s
        refine ih c1 (by simpa using hl) (wpAny_mono h (fun r s1 z => ?_) fun _ _ z => z)
        cases r with
        | none => exact z.elim
        | some bs => exact z
end
section
variable {prog : Program} {w : World} {A : Around} {E : Value → Shared → Prop} {s : Shared}
/-- the items of a tuple, the last ones as a new list -/
theorem unpack_last {l : Addr} {items : Array Value} {i : Nat} {Q : List Value → Shared → Prop} (hh : A.handled = none) (hl : IsTup s.heap l items) (hi : i ≤ items.size) (hz : items.size ≤ sizeLine)
    (h : ∀ (h' : Heap) (tk : Nat), (∀ b o, s.heap.get? b = some o → h'.get? b = some o) → Q (items.toList.take i ++ [.ref h'.objs.size]) { s with heap := h'.push { cls := .type "list", data := .seq (items.toList.drop i).toArray }, toks := tk }) : wpAny (model prog w) A (unpackItems (.ref l) (i + 1) (some i)) Q E s := by
  have ne : l ≠ s.heap.objs.size := by obtain ⟨o, ho, _⟩ := hl; exact Nat.ne_of_lt (Heap.lt_size ho)
  unfold unpackItems
  refine wpAny_bind ?_
  unfold notIterableAtAll
  refine wpAny_bind (wpAny_specialOf (T := "tuple") hl.typeIs PyProof.Rows.slot_tuple_iter.lookup (wpAny_pure ?_))
  rw [if_neg (by simp)]
  refine wpAny_bind (wpAny_holding (iter_tuple (t := l) hl ?_))
  refine wpAny_bind (wpAny_holding (draw_tuple (t := l) ne i 0 _ _ ⟨_, Heap.get?_push_size _ rfl, rfl, rfl⟩ (hl.push _) (by omega) fun h1 it1 sb1 => ?_))
  have hl1 : IsTup h1 l items := (hl.push _).extBut sb1.extBut ne
  rw [Nat.zero_add] at it1
  obtain ⟨oi, hoi, _⟩ := id it1
  obtain ⟨ol, hol, _⟩ := id hl1
  rw [List.drop_zero]
  have fl : (items.toList.take i).length = i := by rw [List.length_take, Array.length_toList]; omega
  rw [if_neg (by omega)]
  refine wpAny_bind (wpAny_holding (PySem.W.kun_collect (T := "tuple_iterator") (s := { s with heap := h1 }) (.inr (.inr (.inr rfl))) (Walks.tuple (A := A.in1) hh s.heap.objs.size l ne items) (fun j u st => st.1.typeIs) hi ⟨it1, hl1⟩ (Heap.lt_size hoi) (Heap.lt_size hol) (fun h2 tk hk => ?_) hz))
  have e0 : i + 1 - 1 - i = 0 := by omega
  dsimp only
  rw [e0, if_neg (by omega), Nat.sub_zero, List.take_length, List.drop_length]
  refine wpAny_bind (wpAny_newList (wpAny_pure ?_) (by rw [List.length_drop, Array.length_toList]; omega))
  rw [List.append_nil]
  exact h h2 tk fun b o e => hk b o (Nat.ne_of_lt (Heap.lt_size e)) (sb1.extBut b o (Nat.ne_of_lt (Heap.lt_size e)) (Heap.get?_push_of_some _ e))
end
section
variable {X : Cx}
/-- the cases, from the subject's value on -/
structure PMc (X : Cx) (cs : List MatchCase) (t : V → TS) : Prop where
  run : ∀ (first : Bool) (pins : List (Addr × Obj)) (s : Shared) (σ : St) (H : Hp) (D : Ends) (v : V) (u : Value), Inv X pins σ H s → RelV v u → t v D σ H → wpAny (model X.prog X.w) X.A (matchCases cs X.env u first) (SP X pins D) X.xe s
theorem pmc_nil : PMc X [] (fun _ D σ H => D.nx σ H) := ⟨fun _ pins s σ H D v u I r h => wpAny_matchCases_nil ⟨σ, H, I, h⟩⟩
def tMatch (te : TE) (t : V → TS) : TS := fun D σ H => te σ H fun v H1 => t v D σ H1
theorem ps_match {e : Expr} {cs : List MatchCase} {pos : Pos} {te : TE} {t : V → TS} (he : PE X e te) (hc : PMc X cs t) : PS X (.Match e cs pos) (tMatch te t) := by
  refine ⟨fun pins s σ H D I h => wpAny_Match (thn (he.run pins s σ H _ I h) fun u s1 ⟨v, H1, I1, r1, q1⟩ => ?_)⟩
  exact hc.run true pins s1 σ H1 D v u I1 r1 q1
/-- names bound in order -/
structure PNs (X : Cx) (ns : List Str) (t : TGs) : Prop where
  run : ∀ (pins : List (Addr × Obj)) (s : Shared) (σ : St) (H : Hp) (vs : List V) (us : List Value) (Q : St → Hp → Prop), Inv X pins σ H s → Vals vs us → t vs σ H Q →
    wpAny (model X.prog X.w) X.A (assignInOrder (ns.map fun n => bindName X.env n) us) (fun _ s' => ∃ σ' H', Inv X pins σ' H' s' ∧ Q σ' H') X.xe s
theorem pns_nil : PNs X [] gNil := by
  refine ⟨fun pins s σ H vs us Q I r h => ?_⟩
  obtain ⟨rfl, h⟩ := h
  cases r
  exact PyProof.Rows.assignInOrder_nil ⟨σ, H, I, h⟩
theorem pns_cons {i : Nat} {x : Str} {ns : List Str} {u : TGs} (hN : X.N.Nodup) (hi : X.N[i]? = some x) (hx : Loc X.env.scope x) (h2 : PNs X ns u) (hf : X.fn x = true ∨ X.env.scope.names.lookup x = some .local := by first | exact .inl rfl | exact .inr rfl | assumption) : PNs X (x :: ns) (gCons (gName i) u) := by
  refine ⟨fun pins s σ H vs us Q I r h => ?_⟩
  obtain ⟨v, vr, rfl, h⟩ := h
  cases r with
  | cons r0 rr =>
    refine PyProof.Rows.assignInOrder_cons (wpAny_bindName (store_ok I hN hi hx r0 (fun s' I' => ?_) hf))
    exact h2.run pins s' _ H vr _ Q I' rr h
theorem caps_len {ps : List Pattern} {ns : List Str} (c : Caps ps ns) : ps.length = ns.length := by
  induction c with
  | nil => rfl
  | cons _ _ ih => rw [List.length_cons, List.length_cons, ih]
theorem zip_names (env : Env) : ∀ (ns : List Str) (us : List Value), us.length = ns.length → ((ns.zip us).map fun (n, _) => bindName env n) = (ns.map fun n => bindName env n) ∧ (ns.zip us).map (·.2) = us
  | [], [], _ => ⟨rfl, rfl⟩
  | n :: ns, u :: us, h => by
    obtain ⟨h1, h2⟩ := zip_names env ns us (by simpa using h)
    rw [List.zip_cons_cons, List.map_cons, List.map_cons, List.map_cons, h1, h2]
    exact ⟨rfl, rfl⟩
def tAfter (tg : TT) (tb : TS) (r : V → TS) (v : V) (D : Ends) : St → Hp → Prop := fun σ1 H1 => tg σ1 H1 fun b H2 => if b = true then tb D σ1 H2 else r v D σ1 H2
def tCase (K : PySem.W.Frag) (n : Nat) (g : TGs) (tg : TT) (tb : TS) (r : V → TS) : V → TS := fun v D σ H => ∃ a xs, v = .ref a ∧ SqT K H a xs ∧ (xs.length = n → g xs σ H (tAfter tg tb r v D)) ∧ (xs.length ≠ n → r v D σ H)
theorem pmc_case {ps : List Pattern} {ns : List Str} {n : Nat} {gd : Expr} {body : List Stmt} {rest : List MatchCase} {pos : Pos} {g : TGs} {tg : TT} {tb : TS} {r : V → TS} (hc : X.calm = true) (cp : Caps ps ns) (hl : ps.length = n) (hn : PNs X ns g) (hg : PT X gd tg) (hb : PSs X body tb) (hr : PMc X rest r)
    (hstar : ps.findIdx? (·.isStar) = none := by rfl) (hwild : (ps.all fun p => p.isWildcard || (p.isStar && p.names.isEmpty)) = false := by rfl) : PMc X (⟨.MatchSequence ps pos, some gd, body⟩ :: rest) (tCase X.K n g tg tb r) := by
  refine ⟨fun first pins s σ H D v u I rv h => ?_⟩
  obtain ⟨a, xs, rfl, hs, h1, h2⟩ := h
  cases rv
  obtain ⟨its, rvs, ht, hz⟩ := I.tuple hs
  have zl : sizeLine = 2 ^ 24 := rfl
  have hsz : its.toArray.size = xs.length := by rw [List.size_toArray, ← rvs.length]
  refine wpAny_matchCases_cons ?_
  by_cases hm : xs.length = n
  · refine matchSeq_tuple_hit ht (by rw [hsz]; omega) (by rw [hsz, hl, hm]) ?_ hstar hwild
    rw [show ps.length = its.toArray.size by rw [hsz, hl, hm]]
    refine unpackItems_tuple (I.ok.hd hc) ht fun h' he => ?_
    have I1 : Inv X pins σ H { s with heap := h', toks := s.toks + 1 + 1 } := I.kept fun b o e => he b o (Nat.ne_of_lt (Heap.lt_size e)) e
    have el : its.length = ns.length := by rw [← rvs.length, hm, ← hl, caps_len cp]
    have hh := each_caps (M := model X.prog X.w) (A := X.A) (E := X.xe) (s := { s with heap := h', toks := s.toks + 1 + 1 }) (env := X.env) (more := []) (rest := []) (us := its) (Q := fun r s₁ => match r with
          | none => wpAny (model X.prog X.w) X.A (matchCases rest X.env (.ref a) false) (SP X pins D) X.xe s₁
          | some bs => wpAny (model X.prog X.w) X.A (assignInOrder (bs.map fun (n, _) => bindName X.env n) (bs.map (·.2))) (fun _ s₂ =>
              wpAny (model X.prog X.w) X.A (isTrue gd X.env (eval gd X.env)) (fun ok s₃ => if ok then wpAny (model X.prog X.w) X.A (execs body X.env) (SP X pins D) X.xe s₃ else wpAny (model X.prog X.w) X.A (matchCases rest X.env (.ref a) false) (SP X pins D) X.xe s₃) X.xe s₂) X.xe s₁) cp el
        (by
          refine wpAny_pure ?_
          dsimp only
          rw [List.append_nil, (zip_names X.env _ _ el).1, (zip_names X.env _ _ el).2]
          refine thn (hn.run pins _ σ H xs its _ I1 rvs (h1 hm)) fun _ s2 ⟨σ2, H2, I2, q2⟩ => ?_
          refine thn (hg.run pins s2 σ2 H2 _ I2 q2) fun ok s3 ⟨H3, I3, q3⟩ => ?_
          cases ok with
          | true => exact hb.run pins s3 σ2 H3 D I3 q3
          | false => exact hr.run false pins s3 σ2 H3 D (.ref a) _ I3 rfl q3)
    rw [List.append_nil, List.append_nil] at hh
    exact hh
  · refine matchSeq_tuple_miss ht (by rw [hsz]; omega) (by rw [hsz, hl]; exact hm) ?_ hstar hwild
    exact hr.run false pins _ σ H D (.ref a) _ (I.kept (t' := s.toks + 1 + 1) fun b o e => e) rfl (h2 hm)
/-- a last *name -/
def tCaseS (K : PySem.W.Frag) (n : Nat) (g : TGs) (tg : TT) (tb : TS) (r : V → TS) : V → TS := fun v D σ H => ∃ a xs, v = .ref a ∧ SqT K H a xs ∧ (n ≤ xs.length → ∀ p, H p = none → g (xs.take n ++ [.ref p]) σ (upd H p (.lst (xs.drop n))) (tAfter tg tb r v D)) ∧ (xs.length < n → r v D σ H)
theorem pmc_caseS {ps : List Pattern} {ns : List Str} {x : Str} {q : Pos} {n : Nat} {gd : Expr} {body : List Stmt} {rest : List MatchCase} {pos : Pos} {g : TGs} {tg : TT} {tb : TS} {r : V → TS} (hc : X.calm = true) (cp : Caps ps ns) (hl : ps.length = n) (h0 : 0 < n) (hn : PNs X (ns ++ [x]) g) (hg : PT X gd tg) (hb : PSs X body tb) (hr : PMc X rest r)
    (hstar : (ps ++ [Pattern.MatchStar (some x) q]).findIdx? (·.isStar) = some n := by rfl) (hwild : ((ps ++ [Pattern.MatchStar (some x) q]).all fun p => p.isWildcard || (p.isStar && p.names.isEmpty)) = false := by rfl)
    (hnm : (((ps ++ [Pattern.MatchStar (some x) q])[n]?).elim [] (·.names)).isEmpty = false := by rfl) : PMc X (⟨.MatchSequence (ps ++ [Pattern.MatchStar (some x) q]) pos, some gd, body⟩ :: rest) (tCaseS X.K n g tg tb r) := by
  refine ⟨fun first pins s σ H D v u I rv h => ?_⟩
  obtain ⟨a, xs, rfl, hs, h1, h2⟩ := h
  cases rv
  obtain ⟨its, rvs, ht, hz⟩ := I.tuple hs
  have zl : sizeLine = 2 ^ 24 := rfl
  have hsz : its.toArray.size = xs.length := by rw [List.size_toArray, ← rvs.length]
  have hpl : (ps ++ [Pattern.MatchStar (some x) q]).length = n + 1 := by rw [List.length_append, hl]; rfl
  refine wpAny_matchCases_cons ?_
  by_cases hm : n ≤ xs.length
  · refine PySem.W.kun_seqT ht (by rw [hsz]; omega) hstar hwild hnm (by rw [hpl]; omega) (by rw [hpl, hsz]; omega) ?_
    rw [hpl]
    refine unpack_last (I.ok.hd hc) ht (by rw [hsz]; omega) (by rw [hsz]; exact hz) fun h' tk hk => ?_
    have I0 : Inv X pins σ H { s with heap := h', toks := tk } := I.kept hk
    have hf : H h'.objs.size = none := I0.hok.fresh (Nat.le_refl _)
    have rd : Vals (xs.drop n) (its.drop n) := rvs.drop n
    have I1 : Inv X pins σ (upd H h'.objs.size (.lst (xs.drop n))) { s with heap := h'.push { cls := .type "list", data := .seq (its.toArray.toList.drop n).toArray }, toks := tk } :=
      I0.laid (t' := tk) (fun b o e => Heap.get?_push_of_some _ e) (Nat.le_refl _) ⟨by rw [List.length_drop]; omega, its.drop n, 0, rd, Heap.get?_push_size _ rfl⟩
    have rt : Vals (xs.take n ++ [.ref h'.objs.size]) (its.take n ++ [.ref h'.objs.size]) := (rvs.take n).append (.cons rfl .nil)
    have tl : (its.take n).length = ns.length := by rw [List.length_take, ← rvs.length, ← caps_len cp, hl]; omega
    have el : (its.take n ++ [Value.ref h'.objs.size]).length = (ns ++ [x]).length := by rw [List.length_append, List.length_append, tl]; rfl
    refine each_caps cp (us := its.take n) (rest := [.ref h'.objs.size]) tl (PySem.W.kun_each (wpAny_matchEach_nil ?_))
    have ez : ns.zip (its.take n) ++ ((some x).map fun y => (y, Value.ref h'.objs.size)).toList = (ns ++ [x]).zip (its.take n ++ [Value.ref h'.objs.size]) := by rw [List.zip_append tl.symm]; rfl
    dsimp only
    rw [List.append_nil, ez, (zip_names X.env _ _ el).1, (zip_names X.env _ _ el).2]
    refine thn (hn.run pins _ σ _ _ _ _ I1 rt (h1 hm _ hf)) fun _ s2 ⟨σ2, H2, I2, q2⟩ => ?_
    refine thn (hg.run pins s2 σ2 H2 _ I2 q2) fun ok s3 ⟨H3, I3, q3⟩ => ?_
    cases ok with
    | true => exact hb.run pins s3 σ2 H3 D I3 q3
    | false => exact hr.run false pins s3 σ2 H3 D (.ref a) _ I3 rfl q3
  · refine PySem.W.kun_fewT ht (by rw [hsz]; omega) hstar (by rw [hpl]; omega) (by rw [hpl, hsz]; omega) ?_
    exact hr.run false pins _ σ H D (.ref a) _ (I.kept (t' := s.toks + 1 + 1) fun b o e => e) rfl (h2 (by omega))
end
end L2
namespace L2
open PySem PySem.Spec PyProof.Rows
section
variable {X : Cx}
theorem pmc_caseT {pats ps : List Pattern} {ns : List Str} {x : Str} {q : Pos} {n : Nat} {gd : Expr} {body : List Stmt} {rest : List MatchCase} {pos : Pos} {g : TGs} {tg : TT} {tb : TS} {r : V → TS} (hc : X.calm = true) (hp : pats = ps ++ [Pattern.MatchStar (some x) q]) (cp : Caps ps ns) (hl : ps.length = n) (h0 : 0 < n) (hn : PNs X (ns ++ [x]) g) (hg : PT X gd tg) (hb : PSs X body tb) (hr : PMc X rest r)
    (hstar : pats.findIdx? (·.isStar) = some n := by rfl) (hwild : (pats.all fun p => p.isWildcard || (p.isStar && p.names.isEmpty)) = false := by rfl)
    (hnm : ((pats[n]?).elim [] (·.names)).isEmpty = false := by rfl) : PMc X (⟨.MatchSequence pats pos, some gd, body⟩ :: rest) (tCaseS X.K n g tg tb r) := by
  subst hp
  exact pmc_caseS hc cp hl h0 hn hg hb hr hstar hwild hnm
end
end L2
namespace L2
open PySem
/-- a case, with a word about where the next one begins -/
theorem tCase_cut {K : PySem.W.Frag} {n : Nat} {g : TGs} {tg : TT} {tb : TS} {r : V → TS} {D : Ends} {σ : St} {H : Hp} {a : Addr} {xs : List V} (Mid : St → Hp → Prop) (hq : SqT K H a xs) (yes : xs.length = n → ∀ r' : V → TS, (∀ σ1 H1, Mid σ1 H1 → r' (.ref a) D σ1 H1) → g xs σ H (tAfter tg tb r' (.ref a) D))
    (no : xs.length ≠ n → Mid σ H) (rest : ∀ σ1 H1, Mid σ1 H1 → r (.ref a) D σ1 H1) : tCase K n g tg tb r (.ref a) D σ H := ⟨a, xs, rfl, hq, fun h => yes h r rest, fun h => rest _ _ (no h)⟩
end L2
set_option maxHeartbeats 4000000
/-! Kinds of values, numbers; the defs is_number, is_integer, require_integer -/
namespace Lf
open PySem L2
/-- the built-in kind of a value -/
inductive Kd (H : Hp) : V → String → Prop
  | non : Kd H .non "NoneType"
  | bl (b : Bool) : Kd H (.bl b) "bool"
  | int (i : Int) : Kd H (.int i) "int"
  | str (x : Str) : Kd H (.str x) "str"
  | lst {a : Addr} {xs : List V} (e : H a = some (.lst xs)) : Kd H (.ref a) "list"
  | tup {a : Addr} {xs : List V} (e : H a = some (.tup xs)) : Kd H (.ref a) "tuple"
  | dic {a : Addr} {kvs : List (Key × V)} (e : H a = some (.dK kvs)) : Kd H (.ref a) "dict"
theorem Kd.ty {H : Hp} {v : V} {t : String} (K : PySem.W.Frag) (k : Kd H v t) : TyX K H v (.type t) := by
  cases k with
  | non => exact .base .non
  | bl b => exact .base (.bl b)
  | int i => exact .base (.int i)
  | str x => exact .base (.str x)
  | lst e => exact .base (.lst e)
  | tup e => exact .base (.tup e)
  | dic e => exact .base (.dK e)
theorem Kd.same {H H' : Hp} {v : V} {t : String} (s : Same H H') (k : Kd H v t) : Kd H' v t := by
  cases k with
  | non => exact .non
  | bl b => exact .bl b
  | int i => exact .int i
  | str x => exact .str x
  | lst e => exact .lst (s _ _ e)
  | tup e => exact .tup (s _ _ e)
  | dic e => exact .dic (s _ _ e)
def numV : V → Bool
  | .int _ => true
  | _ => false
def lim : Int := 1000000000000000000000000000000
def intV : V → Bool
  | .int i => decide (-lim < i) && decide (i < lim)
  | _ => false
theorem Kd.int_ {H : Hp} {v : V} {t : String} (k : Kd H v t) : kitB t "int" = some (numV v || t == "bool") := by
  cases k <;> (first | rfl | decide +kernel)
theorem Kd.bool_ {H : Hp} {v : V} {t : String} (k : Kd H v t) : kitB t "bool" = some (t == "bool") := by
  cases k <;> (first | rfl | decide +kernel)
theorem Kd.tuple_ {H : Hp} {v : V} {t : String} (k : Kd H v t) : kitB t "tuple" = some (t == "tuple") := by
  cases k <;> (first | rfl | decide +kernel)
theorem Kd.num_ {H : Hp} {v : V} {t : String} (k : Kd H v t) : (if (numV v || t == "bool") = true then (!(t == "bool")) else false) = numV v := by
  cases k <;> (first | rfl | decide +kernel)
theorem if_so {c : Bool} {A B : Prop} (hc : c = true) (h : A) : if c = true then A else B := by
  rw [if_pos hc]
  exact h
theorem if_no {c : Bool} {A B : Prop} (hc : c = false) (h : B) : if c = true then A else B := by
  rw [hc, if_neg Bool.false_ne_true]
  exact h
def spIsNumber : Sp := fun vs H Q _ => ∃ v t, vs = [v] ∧ Kd H v t ∧ Q (.bl (numV v)) H
def spIsInteger : Sp := fun vs H Q _ => ∃ v t, vs = [v] ∧ Kd H v t ∧ Q (.bl (intV v)) H
def spReqInt (CN : Addr) : Sp := fun vs H Q E => ∃ v t, vs = [v] ∧ Kd H v t ∧ (intV v = true → Q .non H) ∧
  (intV v = false → ∀ d, H d = none → E (.ref CN) (some d) (upd H d (.xd [("value", v)])))
/-- the builtins' names that are not bound by the text, the constants -/
structure NumT (K : PySem.W.Frag) (mg : Str → Option Value) : Prop where
  n_isinstance : mg "isinstance" = none
  n_int : mg "int" = none
  n_bool : mg "bool" = none
  g_LIMIT : ∃ t, mg "LIMIT" = some (.int lim t)
section
variable {P : Program} {w : World} {K : PySem.W.Frag} {mg : Str → Option Value} {base : Heap} {st : Stmt}
end
end Lf
set_option maxHeartbeats 4000000
/-! Data of any depth in the heap (tuples, lists, texts, ints, bools, None, empty dicts), and what evaluates to data -/
namespace Lf
open PySem L2 Evl
mutual
inductive Da (H : Hp) : V → PyData → Prop
  | non : Da H .non .none
  | bl (b : Bool) : Da H (.bl b) (.bool b)
  | int (i : Int) : Da H (.int i) (.int i)
  | str (x : Str) (h : x.length ≤ 1000) : Da H (.str x) (.str x)
  | lst {a : Addr} {xs : List V} {ds : List PyData} (e : H a = some (.lst xs)) (h : DaAll H xs ds) : Da H (.ref a) (.list ds)
  | tup {a : Addr} {xs : List V} {ds : List PyData} (e : H a = some (.tup xs)) (h : DaAll H xs ds) : Da H (.ref a) (.tuple ds)
  | dic {a : Addr} (e : H a = some (.dK [])) : Da H (.ref a) (.dict [])
inductive DaAll (H : Hp) : List V → List PyData → Prop
  | nil : DaAll H [] []
  | cons {v : V} {vs : List V} {d : PyData} {ds : List PyData} (h : Da H v d) (t : DaAll H vs ds) : DaAll H (v :: vs) (d :: ds)
end
section
variable {H H' : Hp}
mutual
theorem Da.mono (x : Ex H H') : ∀ (d : PyData) (v : V), Da H v d → Da H' v d
  | .none, _, h => by cases h; exact .non
  | .bool b, _, h => by cases h; exact .bl _
  | .int i, _, h => by cases h; exact .int _
  | .str s, _, h => by cases h with | str _ hl => exact .str _ hl
  | .list ds, _, h => by cases h with | lst e ha => exact .lst (x _ _ e) (DaAll.mono x ds _ ha)
  | .tuple ds, _, h => by cases h with | tup e ha => exact .tup (x _ _ e) (DaAll.mono x ds _ ha)
  | .dict _, _, h => by cases h with | dic e => exact .dic (x _ _ e)
theorem DaAll.mono (x : Ex H H') : ∀ (ds : List PyData) (vs : List V), DaAll H vs ds → DaAll H' vs ds
  | [], _, h => by cases h; exact .nil
  | d :: ds, _, h => by cases h with | cons h t => exact .cons (Da.mono x d _ h) (DaAll.mono x ds _ t)
end
theorem Da.up {d : PyData} {v : V} (h : Da H v d) (x : Ex H H') : Da H' v d := Da.mono x d v h
theorem DaAll.up {ds : List PyData} {vs : List V} (h : DaAll H vs ds) (x : Ex H H') : DaAll H' vs ds := DaAll.mono x ds vs h
theorem DaAll.len {ds : List PyData} {vs : List V} (h : DaAll H vs ds) : vs.length = ds.length := by
  induction ds generalizing vs with
  | nil => cases h; rfl
  | cons d ds ih => cases h with | cons _ t => rw [List.length_cons, List.length_cons, ih t]
theorem DaAll.app {ds es : List PyData} {vs us : List V} (h : DaAll H vs ds) (h2 : DaAll H us es) : DaAll H (vs ++ us) (ds ++ es) := by
  induction ds generalizing vs with
  | nil => cases h; exact h2
  | cons d ds ih => cases h with | cons h t => exact .cons h (ih t)
theorem DaAll.at {ds : List PyData} {vs : List V} (h : DaAll H vs ds) {i : Nat} {v : V} (e : vs[i]? = some v) : ∃ d, ds[i]? = some d ∧ Da H v d := by
  induction ds generalizing vs i with
  | nil => cases h; simp at e
  | cons d ds ih =>
    cases h with
    | cons h t =>
      cases i with
      | zero => cases e; exact ⟨d, rfl, h⟩
      | succ i => exact ih t (by simpa using e)
theorem DaAll.get {ds : List PyData} {vs : List V} (h : DaAll H vs ds) {i : Nat} {d : PyData} (e : ds[i]? = some d) : ∃ v, vs[i]? = some v ∧ Da H v d := by
  induction ds generalizing vs i with
  | nil => simp at e
  | cons d' ds ih =>
    cases h with
    | cons h t =>
      cases i with
      | zero => cases e; exact ⟨_, rfl, h⟩
      | succ i => exact ih t (by simpa using e)
theorem DaAll.drop {ds : List PyData} {vs : List V} (h : DaAll H vs ds) : ∀ n : Nat, DaAll H (vs.drop n) (ds.drop n) := by
  induction ds generalizing vs with
  | nil => intro n; cases h; simp; exact .nil
  | cons d ds ih =>
    intro n
    cases h with
    | cons h t =>
      cases n with
      | zero => exact .cons h t
      | succ n => exact ih t n
theorem DaAll.take {ds : List PyData} {vs : List V} (h : DaAll H vs ds) : ∀ n : Nat, DaAll H (vs.take n) (ds.take n) := by
  induction ds generalizing vs with
  | nil => intro n; cases h; simp; exact .nil
  | cons d ds ih =>
    intro n
    cases h with
    | cons h t =>
      cases n with
      | zero => exact .nil
      | succ n => exact .cons h (ih t n)
theorem DaAll.ixN {ds : List PyData} {vs : List V} (h : DaAll H vs ds) {n : Int} {d : PyData} (e : atI ds n = some d) : ∃ v, atI vs n = some v ∧ Da H v d := by
  unfold atI at e ⊢
  rw [h.len]
  cases z : L2.ixN ds.length n with
  | none => rw [z] at e; cases e
  | some j => rw [z] at e; exact h.get e
/-- the kind of data -/
def kd : PyData → String
  | .none => "NoneType"
  | .bool _ => "bool"
  | .int _ => "int"
  | .str _ => "str"
  | .list _ => "list"
  | .tuple _ => "tuple"
  | .dict _ => "dict"
theorem Da.kd {d : PyData} {v : V} (h : Da H v d) : Kd H v (kd d) := by
  cases h with
  | non => exact .non
  | bl b => exact .bl b
  | int i => exact .int i
  | str x _ => exact .str x
  | lst e _ => exact .lst e
  | tup e _ => exact .tup e
  | dic e => exact .dic e
theorem Da.bl_ {b : Bool} {v : V} (h : Da H v (.bool b)) : v = .bl b := by cases h; rfl
theorem Da.int_ {i : Int} {v : V} (h : Da H v (.int i)) : v = .int i := by cases h; rfl
theorem Da.non_ {v : V} (h : Da H v .none) : v = .non := by cases h; rfl
theorem Da.str_ {x : Str} {v : V} (h : Da H v (.str x)) : v = .str x ∧ x.length ≤ 1000 := by cases h with | str _ h => exact ⟨rfl, h⟩
theorem Da.tup_ {ds : List PyData} {v : V} (h : Da H v (.tuple ds)) : ∃ a xs, v = .ref a ∧ H a = some (.tup xs) ∧ DaAll H xs ds := by cases h with | tup e h => exact ⟨_, _, rfl, e, h⟩
theorem Da.lst_ {ds : List PyData} {v : V} (h : Da H v (.list ds)) : ∃ a xs, v = .ref a ∧ H a = some (.lst xs) ∧ DaAll H xs ds := by cases h with | lst e h => exact ⟨_, _, rfl, e, h⟩
end
theorem Kd.str_k {H : Hp} {v : V} {t : String} (k : Kd H v t) : kitB t "str" = some (t == "str") := by
  cases k <;> (first | rfl | decide +kernel)
theorem Kd.list_k {H : Hp} {v : V} {t : String} (k : Kd H v t) : kitB t "list" = some (t == "list") := by
  cases k <;> (first | rfl | decide +kernel)
/-! ### a view G of the heap H: what is known of data; it grows by new data alone -/
def dataO : HO → Bool
  | .lst _ => true
  | .tup _ => true
  | .dK _ => true
  | _ => false
structure Gr (G H G' H' : Hp) : Prop where
  h : Ex H H'
  g : Ex G G'
  s : Ex G' H'
  n : ∀ a, H a ≠ none → G a = none → G' a = none
  t : ∀ a o, G' a = some o → G a = some o ∨ dataO o = true
section
variable {G H G1 H1 G2 H2 : Hp}
theorem Gr.refl (s : Ex G H) : Gr G H G H := ⟨Ex.refl _, Ex.refl _, s, fun _ _ h => h, fun _ _ h => .inl h⟩
theorem Gr.keep (s : Ex G H) (x : Ex H H1) : Gr G H G H1 := ⟨x, Ex.refl _, s.trans x, fun _ _ h => h, fun _ _ h => .inl h⟩
theorem Gr.trans (a : Gr G H G1 H1) (b : Gr G1 H1 G2 H2) : Gr G H G2 H2 := by
  refine ⟨a.h.trans b.h, a.g.trans b.g, b.s, fun c h1 h2 => b.n c (fun z => ?_) (a.n c h1 h2), fun c o h => ?_⟩
  · cases e : H c with
    | none => exact h1 e
    | some o => rw [a.h _ _ e] at z; cases z
  · rcases b.t c o h with h | h
    · exact a.t c o h
    · exact .inr h
theorem Gr.new {p : Addr} {o : HO} (s : Ex G H) (hp : H p = none) (ho : dataO o = true) : Gr G H (upd G p o) (upd H p o) := by
  have gp : G p = none := by
    cases e : G p with
    | none => rfl
    | some o => rw [s _ _ e] at hp; cases hp
  refine ⟨Ex.new hp, Ex.new gp, fun a u h => ?_, fun a h1 h2 => ?_, fun a u h => ?_⟩
  · by_cases e : a = p
    · subst e
      rw [upd_same] at h ⊢
      exact h
    · rw [upd_ne e] at h ⊢
      exact s _ _ h
  · rw [upd_ne (fun e => h1 (by rw [e]; exact hp))]
    exact h2
  · by_cases e : a = p
    · subst e
      rw [upd_same] at h
      cases h
      exact .inr ho
    · rw [upd_ne e] at h
      exact .inl h
/-- an object that the view does not know may change -/
theorem Gr.mut {p : Addr} {o : HO} (r : Gr G H G1 H1) (hp : G p = none) (hh : H p ≠ none) : Ex G1 (upd H1 p o) := fun a u h => by
  rw [upd_ne (fun e => by rw [e, r.n p hh hp] at h; cases h)]
  exact r.s _ _ h
end
/-! ### what evaluates to data -/
def EvD (te : TE) (σ : L2.St) (G : Hp) (d : PyData) : Prop := ∀ G1 H1, Ex G G1 → Ex G1 H1 → ∀ Q : VK, (∀ v G2 H2, Gr G1 H1 G2 H2 → Da G2 v d → Q v H2) → te σ H1 Q
def EvDs (ta : TA) (σ : L2.St) (G : Hp) (ds : List PyData) : Prop := ∀ G1 H1, Ex G G1 → Ex G1 H1 → ∀ Q : List V → Hp → Prop, (∀ vs G2 H2, Gr G1 H1 G2 H2 → DaAll G2 vs ds → Q vs H2) → ta σ H1 Q
section
variable {K : PySem.W.Frag} {σ : L2.St} {G H G' : Hp} {ta tb te tl : TE} {t u : TT} {tA tr : TA} {d e : PyData} {ds es : List PyData} {v : V}
theorem EvD.mono (x : Ex G G') (h : EvD te σ G d) : EvD te σ G' d := fun G1 H1 a b Q q => h G1 H1 (x.trans a) b Q q
theorem EvD.is (h : EvD te σ G d) (e' : d = e) : EvD te σ G e := e' ▸ h
theorem EvD.go (h : EvD te σ G d) (s : Ex G H) {Q : VK} (k : ∀ v G2 H2, Gr G H G2 H2 → Da G2 v d → Q v H2) : te σ H Q := h G H (Ex.refl _) s Q k
theorem evd_var {i : Nat} (hi : σ[i]? = some (some v)) (h : Da G v d) : EvD (tVar i) σ G d := fun G1 H1 x s Q q => ⟨v, hi, q v G1 H1 (Gr.refl s) (h.up x)⟩
theorem evd_of (h : Ev te σ G v) (hd : ∀ G, Da G v d) : EvD te σ G d := fun G1 H1 x s Q q => h H1 (x.trans s) _ fun H2 x2 => q v G1 H2 (Gr.keep s x2) (hd G1)
theorem EvD.bl_ {b : Bool} (h : EvD te σ G (.bool b)) : Ev te σ G (.bl b) := fun H1 x Q q => h G H1 (Ex.refl _) x _ fun v G2 H2 r hd => by rw [hd.bl_]; exact q H2 r.h
theorem EvD.int_ {i : Int} (h : EvD te σ G (.int i)) : Ev te σ G (.int i) := fun H1 x Q q => h G H1 (Ex.refl _) x _ fun v G2 H2 r hd => by rw [hd.int_]; exact q H2 r.h
theorem EvD.str_ {s : Str} (h : EvD te σ G (.str s)) : Ev te σ G (.str s) := fun H1 x Q q => h G H1 (Ex.refl _) x _ fun v G2 H2 r hd => by rw [hd.str_.1]; exact q H2 r.h
theorem EvD.non_ (h : EvD te σ G .none) : Ev te σ G .non := fun H1 x Q q => h G H1 (Ex.refl _) x _ fun v G2 H2 r hd => by rw [hd.non_]; exact q H2 r.h
theorem evd_bl {b : Bool} (h : Ev te σ G (.bl b)) : EvD te σ G (.bool b) := evd_of h fun _ => .bl b
theorem evd_int {i : Int} (h : Ev te σ G (.int i)) : EvD te σ G (.int i) := evd_of h fun _ => .int i
theorem evd_str {s : Str} (h : Ev te σ G (.str s)) (hl : s.length ≤ 1000) : EvD te σ G (.str s) := evd_of h fun _ => .str s hl
theorem evd_non (h : Ev te σ G .non) : EvD te σ G .none := evd_of h fun _ => .non
theorem evd_nil : EvDs tNil σ G [] := fun G1 H1 _ s Q q => q [] G1 H1 (Gr.refl s) .nil
theorem evd_cons (h : EvD te σ G d) (hr : EvDs tr σ G ds) : EvDs (tCons te tr) σ G (d :: ds) := fun G1 H1 x s Q q => h G1 H1 x s _ fun v G2 H2 r hd => hr G2 H2 (x.trans r.g) r.s _ fun vs G3 H3 r2 hds => q (v :: vs) G3 H3 (r.trans r2) (.cons (hd.up r2.g) hds)
theorem evd_tup (h : EvDs tA σ G ds) (hl : ds.length ≤ 100000) : EvD (tTup tA) σ G (.tuple ds) := fun G1 H1 x s Q q => h G1 H1 x s _ fun vs G2 H2 r hds =>
  ⟨by rw [hds.len]; exact sz_of hl, fun p hp => have n := Gr.new (o := .tup vs) r.s hp rfl; q (.ref p) _ _ (r.trans n) (.tup upd_same (hds.up n.g))⟩
theorem evd_lst (h : EvDs tA σ G ds) (hl : ds.length ≤ 100000) : EvD (tLst tA) σ G (.list ds) := fun G1 H1 x s Q q => h G1 H1 x s _ fun vs G2 H2 r hds =>
  ⟨by rw [hds.len]; exact sz_of hl, fun p hp => have n := Gr.new (o := .lst vs) r.s hp rfl; q (.ref p) _ _ (r.trans n) (.lst upd_same (hds.up n.g))⟩
theorem evd_ixT {n : Int} (ha : EvD ta σ G (.tuple ds)) (hb : Ev tb σ G (.int n)) (hi : atI ds n = some d) : EvD (tOp (rIxT K) ta tb) σ G d := fun G1 H1 x s Q q => ha G1 H1 x s _ fun v G2 H2 r hd => hb H2 ((x.trans r.g).trans r.s) _ fun H3 x3 => by
  obtain ⟨a, xs, rfl, e, hs⟩ := hd.tup_
  obtain ⟨w, hw, hdw⟩ := hs.ixN hi
  exact ⟨a, xs, n, w, rfl, rfl, SqT.of (x3 _ _ (r.s _ _ e)), hw, q w G2 H3 (r.trans (Gr.keep r.s x3)) hdw⟩
theorem evd_ixL {n : Int} (ha : EvD ta σ G (.list ds)) (hb : Ev tb σ G (.int n)) (hi : atI ds n = some d) : EvD (tOp (rIxL K) ta tb) σ G d := fun G1 H1 x s Q q => ha G1 H1 x s _ fun v G2 H2 r hd => hb H2 ((x.trans r.g).trans r.s) _ fun H3 x3 => by
  obtain ⟨a, xs, rfl, e, hs⟩ := hd.lst_
  obtain ⟨w, hw, hdw⟩ := hs.ixN hi
  exact ⟨a, xs, n, w, rfl, rfl, SqL.of (x3 _ _ (r.s _ _ e)), hw, q w G2 H3 (r.trans (Gr.keep r.s x3)) hdw⟩
theorem evd_if {b : Bool} (h : EvT t σ G b) (h1 : b = true → EvD ta σ G d) (h2 : b = false → EvD tb σ G d) : EvD (tIf t ta tb) σ G d := fun G1 H1 x s Q q => h H1 (x.trans s) _ fun H2 x2 => by
  cases b with
  | true =>
    show ta σ H2 Q
    exact h1 rfl G1 H2 x (s.trans x2) Q fun v G3 H3 r hd => q v G3 H3 ((Gr.keep s x2).trans r) hd
  | false =>
    show tb σ H2 Q
    exact h2 rfl G1 H2 x (s.trans x2) Q fun v G3 H3 r hd => q v G3 H3 ((Gr.keep s x2).trans r) hd
/-- t[lo:hi] of a tuple -/
theorem cut_da {H : Hp} {vs : List V} {ds : List PyData} (h : DaAll H vs ds) (lo hi : Option Int) : DaAll H (cutV vs lo hi) ((ds.drop (HT.sIx ds.length 0 lo)).take (HT.sIx ds.length ds.length hi - HT.sIx ds.length 0 lo)) := by
  unfold cutV
  rw [h.len]
  exact (h.drop _).take _
def cutD (ds : List PyData) (lo hi : Option Int) : List PyData := (ds.drop (HT.sIx ds.length 0 lo)).take (HT.sIx ds.length ds.length hi - HT.sIx ds.length 0 lo)
theorem cutD_from (ds : List PyData) (n : Nat) : cutD ds (some (n : Int)) none = ds.drop n := by
  unfold cutD
  rw [HT.sIx_nat, HT.sIx_none]
  by_cases h : n ≤ ds.length
  · rw [Nat.min_eq_left h, List.take_of_length_le (by rw [List.length_drop]; omega)]
  · rw [Nat.min_eq_right (by omega), List.drop_length, List.drop_of_length_le (by omega)]
    simp
theorem cutD_to (ds : List PyData) (n : Nat) : cutD ds none (some (n : Int)) = ds.take n := by
  unfold cutD
  rw [HT.sIx_nat, HT.sIx_none, List.drop_zero, Nat.sub_zero]
  by_cases h : n ≤ ds.length
  · rw [Nat.min_eq_left h]
  · rw [Nat.min_eq_right (by omega), List.take_length, List.take_of_length_le (by omega)]
theorem evd_sl {tlo thi : TO} {lo hi : Option Int} (h : EvD te σ G (.tuple ds)) (h1 : EvO tlo σ G lo) (h2 : EvO thi σ G hi) : EvD (tSl (rSlA K) te tlo thi) σ G (.tuple (cutD ds lo hi)) := fun G1 H1 x s Q q =>
  h G1 H1 x s _ fun v G2 H2 r hd => h1 H2 ((x.trans r.g).trans r.s) _ fun H3 x3 => h2 H3 (((x.trans r.g).trans r.s).trans x3) _ fun H4 x4 => by
    obtain ⟨a, xs, rfl, e, hs⟩ := hd.tup_
    have r4 := r.trans (Gr.keep r.s (x3.trans x4))
    have e4 := r4.s _ _ e
    refine ⟨a, xs, rfl, SqT.of e4, fun hw => q _ G2 H4 r4 ?_, fun hw p hp => ?_⟩
    · have : cutD ds lo hi = ds := by
        rw [hs.len] at hw
        unfold cutD
        rw [hw.1, hw.2, List.drop_zero, Nat.sub_zero, List.take_length]
      rw [this]
      exact hd
    · have n := Gr.new (o := .tup (cutV xs lo hi)) r4.s hp rfl
      exact q (.ref p) _ _ (r4.trans n) (.tup upd_same ((cut_da hs lo hi).up n.g))
theorem EvO.none_ : EvO L2.tNoPart σ G none := fun H1 _ _ q => q H1 (Ex.refl _)
theorem EvO.some_ {n : Int} (h : Ev te σ G (.int n)) : EvO (L2.tPart te) σ G (some n) := fun H1 x Q q => h H1 x _ fun H2 x2 => ⟨n, rfl, q H2 x2⟩
/-- a + b of tuples -/
theorem evd_cat (ha : EvD ta σ G (.tuple ds)) (hb : EvD tb σ G (.tuple es)) (hl : ds.length + es.length ≤ 100000) : EvD (tOp (rCatA K) ta tb) σ G (.tuple (ds ++ es)) := fun G1 H1 x s Q q =>
  ha G1 H1 x s _ fun v G2 H2 r hd => hb G2 H2 (x.trans r.g) r.s _ fun w G3 H3 r2 he => by
    obtain ⟨a, xs, rfl, e1, h1⟩ := (hd.up r2.g).tup_
    obtain ⟨b, ys, rfl, e2, h2⟩ := he.tup_
    have r3 := r.trans r2
    refine ⟨a, b, xs, ys, rfl, rfl, SqT.of (r3.s _ _ e1), SqT.of (r3.s _ _ e2), by rw [h1.len, h2.len]; exact sz_of hl, fun z => ?_, fun _ z => ?_, fun _ _ p hp => ?_⟩
    · subst z
      cases h1
      exact q _ G3 H3 r3 he
    · subst z
      cases h2
      refine q _ G3 H3 r3 ?_
      rw [List.append_nil]
      exact hd.up r2.g
    · have n := Gr.new (o := .tup (xs ++ ys)) r3.s hp rfl
      exact q (.ref p) _ _ (r3.trans n) (.tup upd_same ((h1.app h2).up n.g))
/-- isinstance(x, T) -/
theorem ev_isi {T : String} {b : Bool} (h : EvD te σ G d) (hk : ∀ {H : Hp} {v : V}, Kd H v (kd d) → kitB (kd d) T = some b) : Ev (tCB (rIsi K) (tCons te (tCons (tC (.ty T)) tNil))) σ G (.bl b) := fun H1 x Q q => h G H1 (Ex.refl _) x _ fun v G2 H2 r hd =>
  ⟨v, .ty T, .type (kd d), .type T, b, rfl, .ty T, (hd.up r.s).kd.ty K, kit_ty (hk hd.kd), q H2 r.h⟩
theorem ev_isTup (h : EvD te σ G d) : Ev (tCB (rIsi K) (tCons te (tCons (tC (.ty "tuple")) tNil))) σ G (.bl (kd d == "tuple")) := ev_isi h fun k => k.tuple_
theorem ev_isStr (h : EvD te σ G d) : Ev (tCB (rIsi K) (tCons te (tCons (tC (.ty "str")) tNil))) σ G (.bl (kd d == "str")) := ev_isi h fun k => k.str_k
theorem ev_isBool (h : EvD te σ G d) : Ev (tCB (rIsi K) (tCons te (tCons (tC (.ty "bool")) tNil))) σ G (.bl (kd d == "bool")) := ev_isi h fun k => k.bool_
theorem ev_isInt (h : EvD te σ G d) : Ev (tCB (rIsi K) (tCons te (tCons (tC (.ty "int")) tNil))) σ G (.bl (kd d == "int" || kd d == "bool")) := by
  refine ev_isi h fun k => ?_
  cases d <;> (first | rfl | decide +kernel)
/-- len -/
theorem ev_lenT (h : EvD te σ G (.tuple ds)) : Ev (tCB (fun xs H Q => ∃ p ys, xs = [V.ref p] ∧ (SqL K H p ys ∨ SqT K H p ys) ∧ Q (.int ys.length) H) (tCons te tNil)) σ G (.int (ds.length : Int)) := fun H1 x Q q => h G H1 (Ex.refl _) x _ fun v G2 H2 r hd => by
  obtain ⟨a, xs, rfl, e, hs⟩ := hd.tup_
  refine ⟨a, xs, rfl, .inr (SqT.of (r.s _ _ e)), ?_⟩
  rw [hs.len]
  exact q H2 r.h
theorem ev_lenL (h : EvD te σ G (.list ds)) : Ev (tCB (fun xs H Q => ∃ p ys, xs = [V.ref p] ∧ (SqL K H p ys ∨ SqT K H p ys) ∧ Q (.int ys.length) H) (tCons te tNil)) σ G (.int (ds.length : Int)) := fun H1 x Q q => h G H1 (Ex.refl _) x _ fun v G2 H2 r hd => by
  obtain ⟨a, xs, rfl, e, hs⟩ := hd.lst_
  refine ⟨a, xs, rfl, .inl (SqL.of (r.s _ _ e)), ?_⟩
  rw [hs.len]
  exact q H2 r.h
/-! ### comprehensions -/
/-- what a comprehension has made: the list at D is behind the view -/
structure LcI (G1 H1 : Hp) (D : Addr) (H' : Hp) (ds : List PyData) : Prop where
  w : ∃ G' ys, Gr G1 H1 G' H' ∧ G' D = none ∧ H' D = some (.lst ys) ∧ DaAll G' ys ds
  fr : H1 D = none
theorem LcI.start {G1 H1 : Hp} {D : Addr} (s : Ex G1 H1) (hD : H1 D = none) : LcI G1 H1 D (upd H1 D (.lst [])) [] := by
  refine ⟨⟨G1, [], Gr.keep s (Ex.new hD), ?_, upd_same, .nil⟩, hD⟩
  cases e : G1 D with
  | none => rfl
  | some o => rw [s _ _ e] at hD; cases hD
theorem LcI.done {G1 H1 H' : Hp} {D : Addr} {ds : List PyData} (I : LcI G1 H1 D H' ds) : ∃ G2, Gr G1 H1 G2 H' ∧ Da G2 (.ref D) (.list ds) := by
  obtain ⟨G', ys, r, h1, h2, h3⟩ := I.w
  have x : Ex G' (upd G' D (.lst ys)) := Ex.new h1
  refine ⟨upd G' D (.lst ys), ⟨r.h, r.g.trans x, fun a o h => ?_, fun a e1 e2 => ?_, fun a o h => ?_⟩, .lst upd_same (h3.up x)⟩
  · by_cases e : a = D
    · subst e
      rw [upd_same] at h
      cases h
      exact h2
    · rw [upd_ne e] at h
      exact r.s _ _ h
  · rw [upd_ne (fun e => e1 (by rw [e]; exact I.fr))]
    exact r.n a e1 e2
  · by_cases e : a = D
    · subst e
      rw [upd_same] at h
      cases h
      exact .inr rfl
    · rw [upd_ne e] at h
      exact r.t a o h
/-- an element that is taken -/
theorem LcI.put {G1 H1 H' : Hp} {D : Addr} {ds : List PyData} {te : TE} {σ : L2.St} {d : PyData} {N : Hp → Prop} (I : LcI G1 H1 D H' ds) (hl : ds.length ≤ 50000) (he : EvD te σ G1 d) (k : ∀ H2, LcI G1 H1 D H2 (ds ++ [d]) → N H2) :
    te σ H' fun y H4 => ∃ acc, H4 D = some (.lst acc) ∧ acc.length < sizeLine ∧ N (upd H4 D (.lst (acc ++ [y]))) := by
  obtain ⟨G', ys, r, h1, h2, h3⟩ := I.w
  refine he G' H' r.g r.s _ fun v G2 H2 r2 hd => ⟨ys, r2.h _ _ h2, ?_, k _ ⟨⟨G2, ys ++ [v], ?_, ?_, upd_same, (h3.up r2.g).app (.cons hd .nil)⟩, I.fr⟩⟩
  · rw [h3.len]
    exact Nat.lt_of_le_of_lt hl (by decide)
  · have nD : G2 D = none := r2.n D (by rw [h2]; simp) h1
    have r3 := r.trans r2
    exact ⟨Ex.mut r3.h I.fr, r3.g, fun a o h => by rw [upd_ne (fun e => by rw [e, nD] at h; cases h)]; exact r3.s _ _ h, r3.n, r3.t⟩
  · exact r2.n D (by rw [h2]; simp) h1
theorem LcI.test {G1 H1 H' : Hp} {D : Addr} {ds : List PyData} {t : TT} {σ : L2.St} {b : Bool} {R : Bool → Hp → Prop} (I : LcI G1 H1 D H' ds) (h : EvT t σ G1 b) (k : ∀ H2, LcI G1 H1 D H2 ds → R b H2) : t σ H' R := by
  obtain ⟨G', ys, r, h1, h2, h3⟩ := I.w
  exact h H' (r.g.trans r.s) _ fun H2 x2 => k H2 ⟨⟨G', ys, r.trans (Gr.keep r.s x2), h1, x2 _ _ h2, h3⟩, I.fr⟩
theorem LcI.sub {G1 H1 H' : Hp} {D : Addr} {ds : List PyData} (I : LcI G1 H1 D H' ds) : Ex G1 H' := by
  obtain ⟨G', ys, r, _⟩ := I.w
  exact r.g.trans r.s
theorem take_da {α : Type} {ds : List α} {i : Nat} {d : α} (h : ds[i]? = some d) : ds.take (i + 1) = ds.take i ++ [d] := by
  rw [List.take_add_one, h]
  rfl
/-- one turn of a comprehension -/
theorem LcI.turn {α : Type} {G1 H1 H' : Hp} {D : Addr} {as : List α} {i : Nat} {x : α} {p : α → Bool} {f : α → PyData} {t : TT} {te : TE} {σ : L2.St} {N : Hp → Prop} (I : LcI G1 H1 D H' (((as.take i).filter p).map f)) (hi : as[i]? = some x) (hz : as.length ≤ 50000) (ht : EvT t σ G1 (p x)) (he : p x = true → EvD te σ G1 (f x))
    (k : ∀ H2, LcI G1 H1 D H2 (((as.take (i + 1)).filter p).map f) → N H2) : t σ H' fun b H3 => if b = true then te σ H3 fun y H4 => ∃ acc, H4 D = some (.lst acc) ∧ acc.length < sizeLine ∧ N (upd H4 D (.lst (acc ++ [y]))) else N H3 := by
  refine I.test ht fun H2 I2 => ?_
  have e : ((as.take (i + 1)).filter p).map f = ((as.take i).filter p).map f ++ (if p x = true then [f x] else []) := by
    rw [take_da hi, List.filter_append, List.map_append]
    cases hp : p x with
    | false => rw [List.filter_cons_of_neg (by rw [hp]; exact Bool.false_ne_true)]; rfl
    | true => rw [List.filter_cons_of_pos hp]; rfl
  cases hp : p x with
  | false =>
    rw [if_neg Bool.false_ne_true]
    refine k H2 ?_
    rw [e, hp, if_neg Bool.false_ne_true, List.append_nil]
    exact I2
  | true =>
    rw [if_pos rfl]
    refine I2.put ?_ (he hp) fun H3 I3 => k H3 ?_
    · rw [List.length_map]
      have := List.length_filter_le p (as.take i)
      have := List.length_take_le i as
      have := (List.getElem?_eq_some_iff.mp hi).1
      omega
    · rw [e, hp, if_pos rfl]
      exact I3
/-- [e for x in l if c], l a list of data, a tuple, a text -/
theorem evd_lcL {j : Nat} {vs : List Nat} (p : PyData → Bool) (f : PyData → PyData) (h : EvD tl σ G (.list ds)) (hz : ds.length ≤ 50000) (hw : ∀ x, wipe ((wipe σ vs).set j (some x)) vs = wipe σ vs)
    (ht : ∀ d ∈ ds, ∀ v G1, Ex G G1 → Da G1 v d → EvT t ((wipe σ vs).set j (some v)) G1 (p d)) (he : ∀ d ∈ ds, p d = true → ∀ v G1, Ex G G1 → Da G1 v d → EvD te ((wipe σ vs).set j (some v)) G1 (f d)) :
    EvD (tLc (iList K tl) (gName j) t te vs) σ G (.list ((ds.filter p).map f)) := fun G0 H0 x0 s0 Q q => h G0 H0 x0 s0 _ fun v0 G1 H1 r1 hd => by
  obtain ⟨a, xs, rfl, ea, hs⟩ := hd.lst_
  refine ⟨a, rfl, ⟨xs, SqL.of (r1.s _ _ ea)⟩, fun D hD => lc_list (K := K) (a := a) (xs := xs) (fun i H' => LcI G1 H1 D H' (((ds.take i).filter p).map f)) (LcI.start r1.s hD) (fun i H' _ I => SqL.of (I.sub _ _ ea)) ?_ ?_⟩
  · rintro i x H' hx I
    obtain ⟨d, hdi, hdv⟩ := hs.at hx
    have mem := List.mem_of_getElem? hdi
    exact ⟨hw x, I.turn hdi hz (ht d mem x G1 (x0.trans r1.g) hdv) (fun hp => he d mem hp x G1 (x0.trans r1.g) hdv) fun H2 I2 => I2⟩
  · rintro H' I
    rw [hs.len, List.take_length] at I
    obtain ⟨G2, r2, h2⟩ := I.done
    exact q (.ref D) G2 H' (r1.trans r2) h2
theorem evd_lcT {j : Nat} {vs : List Nat} (p : PyData → Bool) (f : PyData → PyData) (h : EvD tl σ G (.tuple ds)) (hz : ds.length ≤ 50000) (hw : ∀ x, wipe ((wipe σ vs).set j (some x)) vs = wipe σ vs)
    (ht : ∀ d ∈ ds, ∀ v G1, Ex G G1 → Da G1 v d → EvT t ((wipe σ vs).set j (some v)) G1 (p d)) (he : ∀ d ∈ ds, p d = true → ∀ v G1, Ex G G1 → Da G1 v d → EvD te ((wipe σ vs).set j (some v)) G1 (f d)) :
    EvD (tLc (iTup K tl) (gName j) t te vs) σ G (.list ((ds.filter p).map f)) := fun G0 H0 x0 s0 Q q => h G0 H0 x0 s0 _ fun v0 G1 H1 r1 hd => by
  obtain ⟨a, xs, rfl, ea, hs⟩ := hd.tup_
  refine ⟨a, rfl, ⟨xs, SqT.of (r1.s _ _ ea)⟩, fun D hD => lc_tup (K := K) (a := a) (xs := xs) (fun i H' => LcI G1 H1 D H' (((ds.take i).filter p).map f)) (LcI.start r1.s hD) (fun i H' _ I => SqT.of (I.sub _ _ ea)) ?_ ?_⟩
  · rintro i x H' hx I
    obtain ⟨d, hdi, hdv⟩ := hs.at hx
    have mem := List.mem_of_getElem? hdi
    exact ⟨hw x, I.turn hdi hz (ht d mem x G1 (x0.trans r1.g) hdv) (fun hp => he d mem hp x G1 (x0.trans r1.g) hdv) fun H2 I2 => I2⟩
  · rintro H' I
    rw [hs.len, List.take_length] at I
    obtain ⟨G2, r2, h2⟩ := I.done
    exact q (.ref D) G2 H' (r1.trans r2) h2
def sgn1 (c : Nat) : Str := ⟨#[c]⟩
theorem evd_lcS {j : Nat} {vs : List Nat} {z : Str} (p : Nat → Bool) (f : Nat → PyData) (h : EvD tl σ G (.str z)) (hw : ∀ x, wipe ((wipe σ vs).set j (some x)) vs = wipe σ vs)
    (ht : ∀ c ∈ z.cps.toList, EvT t ((wipe σ vs).set j (some (.str (sgn1 c)))) G (p c)) (he : ∀ c ∈ z.cps.toList, p c = true → EvD te ((wipe σ vs).set j (some (.str (sgn1 c)))) G (f c)) :
    EvD (tLc (iStr tl) (gName j) t te vs) σ G (.list ((z.cps.toList.filter p).map f)) := fun G0 H0 x0 s0 Q q => h G0 H0 x0 s0 _ fun v0 G1 H1 r1 hd => by
  obtain ⟨rfl, hl⟩ := hd.str_
  have hsz : z.cps.toList.length ≤ 1000 := hl
  have tg : ∀ {c : Nat}, c ∈ z.cps.toList → EvT t ((wipe σ vs).set j (some (.str (sgn1 c)))) G1 (p c) := fun hc H a Q q => ht _ hc H ((x0.trans r1.g).trans a) Q q
  refine ⟨z, rfl, fun D hD => lc_it (walk_str (z := z)) (fun i H' => LcI G1 H1 D H' (((z.cps.toList.take i).filter p).map f)) (LcI.start r1.s hD) (fun _ _ _ _ => trivial) ?_ ?_⟩
  · rintro i x H' H'' hi I ⟨rfl, c, hc, rfl⟩
    have hc' : z.cps.toList[i]? = some c := by rw [Array.getElem?_toList]; exact hc
    have mem := List.mem_of_getElem? hc'
    exact ⟨hw _, I.turn hc' (by omega) (tg mem) (fun hp => (he c mem hp).mono (x0.trans r1.g)) fun H2 I2 => I2⟩
  · rintro H' I
    rw [show z.cps.size = z.cps.toList.length from rfl, List.take_length] at I
    obtain ⟨G2, r2, h2⟩ := I.done
    exact q (.ref D) G2 H' (r1.trans r2) h2
theorem et_yes {b : Bool} : EvT tYes σ G true := fun H1 _ Q q => q H1 (Ex.refl _)
/-- all([..]) -/
theorem da_bools {H : Hp} {vs : List V} {bs : List Bool} (h : DaAll H vs (bs.map PyData.bool)) : vs = bs.map V.bl := by
  induction bs generalizing vs with
  | nil => cases h; rfl
  | cons b bs ih => cases h with | cons h t => rw [h.bl_, ih t]; rfl
theorem da_ints {H : Hp} {vs : List V} {is : List Int} (h : DaAll H vs (is.map PyData.int)) : vs = is.map V.int := by
  induction is generalizing vs with
  | nil => cases h; rfl
  | cons b bs ih => cases h with | cons h t => rw [h.int_, ih t]; rfl
theorem ev_allD {bs : List Bool} (h : EvD te σ G (.list (bs.map PyData.bool))) : Ev (tCB (rAll K) (tCons te tNil)) σ G (.bl (bs.all id)) := fun H1 x Q q => h G H1 (Ex.refl _) x _ fun v G2 H2 r hd => by
  obtain ⟨a, xs, rfl, e, hs⟩ := hd.lst_
  cases da_bools hs
  exact ⟨a, bs, rfl, SqL.of (r.s _ _ e), q H2 r.h⟩
/-! ### calls: a promise by a plain function on data -/
def spF (F : List PyData → Option PyData) : Sp := fun vs H Q _ => ∃ G ds d, Ex G H ∧ DaAll G vs ds ∧ F ds = some d ∧ ∀ v G' H', Gr G H G' H' → Da G' v d → Q v H'
theorem evd_call {F : List PyData → Option PyData} {E : XK} (h : EvDs tA σ G ds) (hf : F ds = some d) : EvD (tCallD (spF F) E tA) σ G d := fun G1 H1 x s Q q => h G1 H1 x s _ fun vs G2 H2 r hds =>
  ⟨G2, ds, d, r.s, hds, hf, fun v G3 H3 r3 hd => q v G3 H3 (r.trans r3) hd⟩
/-! ### statements -/
variable {D : Ends} {tz tu tw : TS}
theorem q_asgD {i : Nat} (s : Ex G H) (h : EvD te σ G d) (k : ∀ v G1 H1, Gr G H G1 H1 → Da G1 v d → tz D (σ.set i (some v)) H1) : tSeq (tAsg te (gName i)) tz D σ H := h.go s k
theorem s_retD (s : Ex G H) (h : EvD te σ G d) (k : ∀ v G1 H1, Gr G H G1 H1 → Da G1 v d → D.rt v H1) : tRet te D σ H := h.go s k
theorem q_ifD {b : Bool} (s : Ex G H) (h : EvT t σ G b) (h1 : b = true → ∀ H1, Ex H H1 → tu { D with nx := tz D } σ H1) (h2 : b = false → ∀ H1, Ex H H1 → tw { D with nx := tz D } σ H1) : tSeq (tIfS t tu tw) tz D σ H := h H s _ fun H1 x => by
  cases b with
  | true =>
    show tu { D with nx := tz D } σ H1
    exact h1 rfl H1 x
  | false =>
    show tw { D with nx := tz D } σ H1
    exact h2 rfl H1 x
end
end Lf
set_option maxHeartbeats 4000000
/-! x == 'text', x != 'text' of a value of any kind; t == (), t != () of a tuple of anything -/
namespace LfQ
open PySem PySem.SeqAt PySem.MeetsSeq
open AutoSeq1 (wpAny_loadPart')
section
variable {A : Around} {s : Shared}
theorem dict_eq_str (l : Addr) (o : Obj) (hc : o.cls = .type "dict") (b : Str) (u : Tok) : Meets (Builtin.«dict.__eq__» ⟨[.ref l, .str b u], []⟩) (fun _ R s => s.heap.get? l = some o ∧ R (.ok (.ret .notImplemented)) s) :=
  .of_wp fun prog w A R s h => by obtain ⟨hp, g, d, tk, os⟩ := s; obtain ⟨hl, h⟩ := h; have f1 := F.sub_str_dict; wp_walk using wpAny_loadPart' hl, wpAny_load hl; exact ⟨_, rfl, h⟩
theorem dict_ne_str (l : Addr) (o : Obj) (hc : o.cls = .type "dict") (b : Str) (u : Tok) : Meets (Builtin.«dict.__ne__» ⟨[.ref l, .str b u], []⟩) (fun _ R s => s.heap.get? l = some o ∧ R (.ok (.ret .notImplemented)) s) :=
  .of_wp fun prog w A R s h => by obtain ⟨hp, g, d, tk, os⟩ := s; obtain ⟨hl, h⟩ := h; have f1 := F.sub_str_dict; wp_walk using wpAny_loadPart' hl, wpAny_load hl; exact ⟨_, rfl, h⟩
theorem str_eq_dict (l : Addr) (o : Obj) (es : Array DictEntry) (n : Nat) (hd : o.data = .dict es n) (b : Str) (u : Tok) : Meets (Builtin.«str.__eq__» ⟨[.str b u, .ref l], []⟩) (fun _ R s => s.heap.get? l = some o ∧ R (.ok (.ret .notImplemented)) s) :=
  .of_wp fun prog w A R s h => by obtain ⟨hp, g, d, tk, os⟩ := s; obtain ⟨hl, h⟩ := h; obtain ⟨cls, dd, data, sl⟩ := o; simp only at hd; subst hd; wp_walk using wpAny_loadPart' hl, wpAny_load hl; exact ⟨_, rfl, h⟩
theorem str_ne_dict (l : Addr) (o : Obj) (es : Array DictEntry) (n : Nat) (hd : o.data = .dict es n) (b : Str) (u : Tok) : Meets (Builtin.«str.__ne__» ⟨[.str b u, .ref l], []⟩) (fun _ R s => s.heap.get? l = some o ∧ R (.ok (.ret .notImplemented)) s) :=
  .of_wp fun prog w A R s h => by obtain ⟨hp, g, d, tk, os⟩ := s; obtain ⟨hl, h⟩ := h; obtain ⟨cls, dd, data, sl⟩ := o; simp only at hd; subst hd; wp_walk using wpAny_loadPart' hl, wpAny_load hl; exact ⟨_, rfl, h⟩
theorem rc_dict_str {l : Addr} {o : Obj} {es : Array DictEntry} {n : Nat} (ho : s.heap.get? l = some o) (hc : o.cls = .type "dict") (hd : o.data = .dict es n) (b : Str) (u : Tok) (hu : A.units < cLine) : RcAt A s (.ref l) (.str b u) false := fun prog w E Q h =>
  rc_eq_decline_or (k := false) ⟨_, ho, hc⟩ (typeIs_str s b u) (by decide) F.sub_str_dict F.slot_dict_eq F.slot_str_eq_refl
    (fun _ hq => call_meets F.slot_dict_eq ⟨_, ho, hc⟩ F.entry_dict_eq (F.args_dict_eq_2 _ _) (dict_eq_str l o hc b u) ⟨ho, hq⟩)
    (fun _ hq => call_meets F.slot_str_eq_refl (typeIs_str s b u) F.entry_str_eq (F.args_str_eq_2 _ _) (str_eq_dict l o es n hd b u) ⟨ho, hq⟩)
    (fun _ hq => wpAny_of_eq (rfl : isSame (.ref l) (.str b u) = pure false) hq) (.inr hu) h
theorem rn_dict_str {l : Addr} {o : Obj} {es : Array DictEntry} {n : Nat} (ho : s.heap.get? l = some o) (hc : o.cls = .type "dict") (hd : o.data = .dict es n) (b : Str) (u : Tok) (hu : A.units < cLine) : RcNeAt A s (.ref l) (.str b u) true := fun prog w E Q h =>
  rc_ne_decline_or (k := false) ⟨_, ho, hc⟩ (typeIs_str s b u) (by decide) F.sub_str_dict F.slot_dict_ne F.slot_str_ne_refl
    (fun _ hq => call_meets F.slot_dict_ne ⟨_, ho, hc⟩ F.entry_dict_ne (F.args_dict_ne_2 _ _) (dict_ne_str l o hc b u) ⟨ho, hq⟩)
    (fun _ hq => call_meets F.slot_str_ne_refl (typeIs_str s b u) F.entry_str_ne (F.args_str_ne_2 _ _) (str_ne_dict l o es n hd b u) ⟨ho, hq⟩)
    (fun _ hq => wpAny_of_eq (rfl : isSame (.ref l) (.str b u) = pure false) hq) (.inr hu) h
end
end LfQ
namespace L2
open PySem PySem.Spec PyProof.Rows Lf
section
variable {X : Cx}
theorem dict_obj {pins : List (Addr × Obj)} {σ : St} {H : Hp} {s : Shared} {a : Addr} {kvs : List (Key × V)} (I : Inv X pins σ H s) (h : H a = some (.dK kvs)) : ∃ o es n, s.heap.get? a = some o ∧ o.cls = .type "dict" ∧ o.data = .dict es n := by
  obtain ⟨_, _, vs, kv, o, es, ep, ho, hx, hd, _⟩ := I.hok a _ h
  exact ⟨o, es, ep, ho, hx.1, hd⟩
def rEqS : R2 := fun x y H Q => ∃ (t : String) (z : Str), y = .str z ∧ Kd H x t ∧ Q (.bl (decide (x = .str z))) H
def rNeS : R2 := fun x y H Q => ∃ (t : String) (z : Str), y = .str z ∧ Kd H x t ∧ Q (.bl (!decide (x = .str z))) H
theorem op_eqS (hu : X.A.units < cLine) : OpR X (compareOp .Eq) rEqS := by
  intro pins s σ H x y v u Q I rx ry h
  obtain ⟨t, z, rfl, k, q⟩ := h
  cases k with
  | non => exact op_eq pins s σ H _ _ v u Q I rx ry ⟨rfl, q⟩
  | bl b => exact op_eq pins s σ H _ _ v u Q I rx ry ⟨rfl, q⟩
  | int i => exact op_eq pins s σ H _ _ v u Q I rx ry ⟨rfl, q⟩
  | str w => exact op_eq pins s σ H _ _ v u Q I rx ry ⟨rfl, q⟩
  | @lst a xs e =>
    cases rx
    obtain ⟨t', rfl⟩ := ry
    obtain ⟨its, rv, pl, _⟩ := I.list (SqL.of (K := X.K) e)
    exact SeqAt.RcAt.list_str z t' pl.isList hu X.prog X.w _ _ ⟨.bl false, H, I, rfl, by simpa using q⟩
  | @tup a xs e =>
    cases rx
    obtain ⟨t', rfl⟩ := ry
    obtain ⟨its, rv, pl, _⟩ := I.tuple (SqT.of (K := X.K) e)
    exact SeqAt.RcAt.tuple_str z t' pl hu X.prog X.w _ _ ⟨.bl false, H, I, rfl, by simpa using q⟩
  | @dic a kvs e =>
    cases rx
    obtain ⟨t', rfl⟩ := ry
    obtain ⟨o, es, n, h1, h2, h3⟩ := dict_obj I e
    exact LfQ.rc_dict_str h1 h2 h3 z t' hu X.prog X.w _ _ ⟨.bl false, H, I, rfl, by simpa using q⟩
theorem op_neS (hu : X.A.units < cLine) : OpR X (compareOp .NotEq) rNeS := by
  intro pins s σ H x y v u Q I rx ry h
  obtain ⟨t, z, rfl, k, q⟩ := h
  cases k with
  | non => exact op_ne pins s σ H _ _ v u Q I rx ry ⟨rfl, q⟩
  | bl b => exact op_ne pins s σ H _ _ v u Q I rx ry ⟨rfl, q⟩
  | int i => exact op_ne pins s σ H _ _ v u Q I rx ry ⟨rfl, q⟩
  | str w => exact op_ne pins s σ H _ _ v u Q I rx ry ⟨rfl, q⟩
  | @lst a xs e =>
    cases rx
    obtain ⟨t', rfl⟩ := ry
    obtain ⟨its, rv, pl, _⟩ := I.list (SqL.of (K := X.K) e)
    exact SeqAt.RcNeAt.list_str z t' pl.isList hu X.prog X.w _ _ ⟨.bl true, H, I, rfl, by simpa using q⟩
  | @tup a xs e =>
    cases rx
    obtain ⟨t', rfl⟩ := ry
    obtain ⟨its, rv, pl, _⟩ := I.tuple (SqT.of (K := X.K) e)
    exact SeqAt.RcNeAt.tuple_str z t' pl hu X.prog X.w _ _ ⟨.bl true, H, I, rfl, by simpa using q⟩
  | @dic a kvs e =>
    cases rx
    obtain ⟨t', rfl⟩ := ry
    obtain ⟨o, es, n, h1, h2, h3⟩ := dict_obj I e
    exact LfQ.rn_dict_str h1 h2 h3 z t' hu X.prog X.w _ _ ⟨.bl true, H, I, rfl, by simpa using q⟩
/-- a tuple and the empty one -/
def rEqE (K : PySem.W.Frag) : R2 := fun x y H Q => ∃ a b xs, x = .ref a ∧ y = .ref b ∧ SqT K H a xs ∧ SqT K H b [] ∧ Q (.bl (xs.isEmpty)) H
def rNeE (K : PySem.W.Frag) : R2 := fun x y H Q => ∃ a b xs, x = .ref a ∧ y = .ref b ∧ SqT K H a xs ∧ SqT K H b [] ∧ Q (.bl (!xs.isEmpty)) H
theorem op_eqE (hu : X.A.units < cLine) : OpR X (compareOp .Eq) (rEqE X.K) := by
  intro pins s σ H x y v u Q I rx ry h
  obtain ⟨a, b, xs, rfl, rfl, ha, hb, q⟩ := h
  cases rx
  cases ry
  obtain ⟨its, rv, pl, _⟩ := I.tuple ha
  obtain ⟨its2, rv2, pl2, _⟩ := I.tuple hb
  cases rv2
  refine SeqAt.RcAt.tuples (e := fun _ => true) pl pl2 hu (fun j h1 h2 => absurd h2 (by simp)) X.prog X.w _ _ ⟨.bl xs.isEmpty, H, I, ?_, q⟩
  cases rv <;> simp [RelV]
theorem op_neE (hu : X.A.units < cLine) : OpR X (compareOp .NotEq) (rNeE X.K) := by
  intro pins s σ H x y v u Q I rx ry h
  obtain ⟨a, b, xs, rfl, rfl, ha, hb, q⟩ := h
  cases rx
  cases ry
  obtain ⟨its, rv, pl, _⟩ := I.tuple ha
  obtain ⟨its2, rv2, pl2, _⟩ := I.tuple hb
  cases rv2
  refine SeqAt.RcNeAt.tuples (e := fun _ => true) pl pl2 hu (fun j h1 h2 => absurd h2 (by simp)) X.prog X.w _ _ ⟨.bl (!xs.isEmpty), H, I, ?_, q⟩
  cases rv <;> simp [RelV]
end
end L2
set_option maxHeartbeats 4000000
/-! Trees and statements, plain -/
namespace Tr
open PySem Lf
def letters : Str := "abcdefghijklmnopqrstuvwxyz"
def isS (s : Str) : PyData → Bool
  | .str x => decide (x = s)
  | _ => false
def lets (x : Str) : Bool := x.cps.toList.all fun c => decide (c ∈ letters.cps.toList)
def isNm : PyData → Bool
  | .str x => decide (1 ≤ x.length) && decide (x.length ≤ 8) && lets x
  | _ => false
def isNu : PyData → Bool
  | .int _ => true
  | _ => false
def isIn : PyData → Bool
  | .int i => decide (-lim < i) && decide (i < lim)
  | _ => false
def within (a b : Int) : PyData → Bool
  | .int i => (decide (-lim < i) && decide (i < lim)) && (decide (a ≤ i) && decide (i ≤ b))
  | _ => false
/-- the tree of at most n levels -/
def isTr : Nat → PyData → Bool
  | 0, _ => false
  | n + 1, .tuple ds => match ds with
    | w :: nm :: ts =>
      if ts.length = 1 ∧ isS "at" w = true then isNm nm && within 0 3 (ts.getD 0 .none)
      else if ts.length = 2 ∧ isS "load" w = true then isNm nm && (isIn (ts.getD 0 .none) && isIn (ts.getD 1 .none))
      else if isS "op" w = true then isNm nm && (decide (ts.length ≤ 3) && ts.all fun t => isTr n t)
      else false
    | _ => false
  | _ + 1, _ => false
theorem isTr_cons (n : Nat) (w nm : PyData) (ts : List PyData) : isTr (n + 1) (.tuple (w :: nm :: ts)) =
    (if ts.length = 1 ∧ isS "at" w = true then isNm nm && within 0 3 (ts.getD 0 .none)
      else if ts.length = 2 ∧ isS "load" w = true then isNm nm && (isIn (ts.getD 0 .none) && isIn (ts.getD 1 .none))
      else if isS "op" w = true then isNm nm && (decide (ts.length ≤ 3) && ts.all fun t => isTr n t)
      else false) := by rw [isTr]
def hd0 : PyData → PyData
  | .tuple (d :: _) => d
  | _ => .none
def isZ : PyData → Bool
  | .int i => decide (i = 0)
  | _ => false
/-- the statement -/
def isSt : PyData → Bool
  | .tuple ds =>
    if ds.length = 3 ∧ isS "set" (ds.getD 0 .none) = true then isNm (ds.getD 1 .none) && (isTr 4 (ds.getD 2 .none) && !isS "at" (hd0 (ds.getD 2 .none)))
    else if ds.length = 6 ∧ isS "store" (ds.getD 0 .none) = true then
      isNm (ds.getD 1 .none) && (isNm (ds.getD 2 .none) && (isIn (ds.getD 3 .none) && (isIn (ds.getD 4 .none) && (!isZ (ds.getD 3 .none) && isTr 4 (ds.getD 5 .none)))))
    else false
  | _ => false
theorem isTr_tup {n : Nat} {d : PyData} (h : isTr n d = true) : ∃ w nm ts, d = .tuple (w :: nm :: ts) := by
  cases n with
  | zero => cases h
  | succ n =>
    cases d with
    | tuple ds =>
      match ds, h with
      | w :: nm :: ts, _ => exact ⟨w, nm, ts, rfl⟩
    | _ => cases h
theorem isIn_int {d : PyData} (h : isIn d = true) : ∃ i, d = .int i := by
  cases d with
  | int i => exact ⟨i, rfl⟩
  | _ => cases h
theorem isS_eq {s : Str} {d : PyData} (h : isS s d = true) : d = .str s := by
  cases d with
  | str x => rw [of_decide_eq_true (show decide (x = s) = true from h)]
  | _ => cases h
def subs : List PyData → List PyData
  | w :: r => if isS "op" w = true then r.drop 1 else []
  | [] => []
theorem isTr_sub {n : Nat} {w nm : PyData} {ts : List PyData} (h : isTr (n + 1) (.tuple (w :: nm :: ts)) = true) : (subs (w :: nm :: ts)).length ≤ 3 ∧ ∀ t ∈ subs (w :: nm :: ts), isTr n t = true := by
  have e0 : subs (w :: nm :: ts) = if isS "op" w = true then ts else [] := rfl
  rw [e0]
  by_cases c : isS "op" w = true
  · rw [if_pos c]
    have e := isS_eq c
    subst e
    rw [isTr_cons, if_neg (fun z => absurd z.2 (by decide)), if_neg (fun z => absurd z.2 (by decide)), if_pos c] at h
    simp at h
    exact ⟨h.2.1, fun t ht => h.2.2 t ht⟩
  · rw [if_neg c]
    exact ⟨Nat.zero_le _, fun t ht => by cases ht⟩
/-- the greatest, none below 0 -/
def mx (ns : List Int) : Int := ns.foldl max 0
theorem foldl_max_ge (ns : List Int) : ∀ a : Int, a ≤ ns.foldl max a ∧ (∀ y ∈ ns, y ≤ ns.foldl max a) ∧ (ns.foldl max a = a ∨ ns.foldl max a ∈ ns) := by
  induction ns with
  | nil => intro a; exact ⟨Int.le_refl _, (fun y h => by cases h), .inl rfl⟩
  | cons n ns ih =>
    intro a
    obtain ⟨h1, h2, h3⟩ := ih (max a n)
    rw [List.foldl_cons]
    refine ⟨by omega, fun y hy => ?_, ?_⟩
    · rcases List.mem_cons.mp hy with rfl | hy
      · omega
      · exact h2 y hy
    · rcases h3 with h3 | h3
      · rw [h3]
        by_cases c : a ≤ n
        · rw [Int.max_eq_right c]; exact .inr (List.mem_cons_self ..)
        · rw [Int.max_eq_left (by omega)]; exact .inl rfl
      · exact .inr (List.mem_cons_of_mem _ h3)
theorem mx_ge (ns : List Int) : 0 ≤ mx ns := (foldl_max_ge ns 0).1
theorem mx_zero {ns : List Int} {m : Int} (hm : m ∈ (0 : Int) :: ns) (h : ∀ y ∈ (0 : Int) :: ns, y ≤ m) : m = mx ns := by
  obtain ⟨h1, h2, h3⟩ := foldl_max_ge ns 0
  have a : mx ns ≤ m := by
    rcases h3 with h3 | h3
    · show ns.foldl max 0 ≤ m
      rw [h3]; exact h 0 (List.mem_cons_self ..)
    · exact h _ (List.mem_cons_of_mem _ h3)
  have b : m ≤ mx ns := by
    rcases List.mem_cons.mp hm with rfl | hm
    · exact h1
    · exact h2 m hm
  omega
theorem mx_of {ns : List Int} {m : Int} (h0 : ∀ y ∈ ns, 0 ≤ y) (hm : m ∈ ns) (h : ∀ y ∈ ns, y ≤ m) : m = mx ns :=
  mx_zero (List.mem_cons_of_mem _ hm) fun y hy => by
    rcases List.mem_cons.mp hy with rfl | hy
    · exact h0 m hm
    · exact h y hy
/-- how many levels -/
def lvl : Nat → PyData → Int
  | n + 1, .tuple ds => 1 + mx ((subs ds).map fun t => lvl n t)
  | _, _ => 0
theorem lvl_ge (n : Nat) (d : PyData) : 0 ≤ lvl n d := by
  cases n with
  | zero => exact Int.le_refl _
  | succ n =>
    cases d with
    | tuple ds =>
      have := mx_ge ((subs ds).map fun t => lvl n t)
      rw [lvl]
      omega
    | _ => exact Int.le_refl _
end Tr
set_option maxHeartbeats 4000000
namespace My
open PySem L2 Lf Evl Tr
def top (i : Nat) : Stmt := PySem.Challenge.pw_loopfoundry_k19_what_shapes_fit_and_thei.main.body.getD i (.Pass ⟨0, 0, 0, 0⟩)
structure Txt (P : Program) (K : PySem.W.Frag) (mg : Str → Option Value) (CA CB CP fP : Addr) : Prop where
  n_isinstance : mg "isinstance" = none
  n_int : mg "int" = none
  n_bool : mg "bool" = none
  n_str : mg "str" = none
  n_tuple : mg "tuple" = none
  n_len : mg "len" = none
  n_abs : mg "abs" = none
  n_max : mg "max" = none
  n_min : mg "min" = none
  n_list : mg "list" = none
  n_range : mg "range" = none
  n_all : mg "all" = none
  n_sum : mg "sum" = none
  n_repr : mg "repr" = none
  n_enumerate : mg "enumerate" = none
  n_zip : mg "zip" = none
  g_HOLE : ∃ t, mg "HOLE" = some (.str "hole" t)
  g_MAX_SHAPE : ∃ t, mg "MAX_SHAPE" = some (.int 4 t)
  g_MAX_WORDS : ∃ t, mg "MAX_WORDS" = some (.int 60 t)
  gB : mg "InvalidArgument" = some (.ref CB)
  xB : PySem.W.excIn K CB [.type "ValueError", .type "Exception", .type "BaseException", .type "object"] "ValueError.__new__" = true
  kB : PySem.W.keepIn K (.ref CB) = true
  bB : PySem.W.subIn K (.ref CB) (.type "BaseException") = some true
  tB : PySem.W.typeIn K (.ref CB) = some (.type "type")
  par : PySem.LfX.XTxt P K mg "ParseError" "line" "ValueError" "ValueError.__init__" "ValueError.__new__" [.type "ValueError", .type "Exception", .type "BaseException", .type "object"] CP fP
  g_LETTERS : ∃ t, mg "LETTERS" = some (.str letters t)
  g_MAX_NAME : ∃ t, mg "MAX_NAME" = some (.int 8 t)
  g_LIMIT : ∃ t, mg "LIMIT" = some (.int lim t)
  g_AT : ∃ t, mg "AT" = some (.str "at" t)
  g_LOAD : ∃ t, mg "LOAD" = some (.str "load" t)
  g_OP : ∃ t, mg "OP" = some (.str "op" t)
  g_SET : ∃ t, mg "SET" = some (.str "set" t)
  g_STORE : ∃ t, mg "STORE" = some (.str "store" t)
  g_MAX_LEVELS : ∃ t, mg "MAX_LEVELS" = some (.int 4 t)
  g_MAX_TREES : ∃ t, mg "MAX_TREES" = some (.int 3 t)
  g_MAX_DISTANCE : ∃ t, mg "MAX_DISTANCE" = some (.int 3 t)
  gA : mg "InvalidTree" = some (.ref CA)
  xA : PySem.W.excIn K CA [.type "ValueError", .type "Exception", .type "BaseException", .type "object"] "ValueError.__new__" = true
  kA : PySem.W.keepIn K (.ref CA) = true
  bA : PySem.W.subIn K (.ref CA) (.type "BaseException") = some true
  tA : PySem.W.typeIn K (.ref CA) = some (.type "type")
abbrev s_is_name : Stmt := top 9
theorem sc_is_name : FnScope ["value", "letter"] ["value"] (defScope s_is_name) := ⟨rfl, rfl, rfl, by decide +kernel, rfl, by decide +kernel, by decide +kernel⟩
abbrev s_is_number : Stmt := top 10
theorem sc_is_number : FnScope ["value"] ["value"] (defScope s_is_number) := ⟨rfl, rfl, rfl, by decide +kernel, rfl, by decide +kernel, by decide +kernel⟩
abbrev s_is_integer : Stmt := top 11
theorem sc_is_integer : FnScope ["value"] ["value"] (defScope s_is_integer) := ⟨rfl, rfl, rfl, by decide +kernel, rfl, by decide +kernel, by decide +kernel⟩
abbrev s_is_within : Stmt := top 12
theorem sc_is_within : FnScope ["value", "low", "high"] ["value", "low", "high"] (defScope s_is_within) := ⟨rfl, rfl, rfl, by decide +kernel, rfl, by decide +kernel, by decide +kernel⟩
theorem if_so {c : Bool} {A B : Prop} (hc : c = true) (h : A) : if c = true then A else B := by
  rw [if_pos hc]
  exact h
theorem if_no {c : Bool} {A B : Prop} (hc : c = false) (h : B) : if c = true then A else B := by
  rw [hc, if_neg Bool.false_ne_true]
  exact h
/-! ### more of what evaluates -/
section
variable {K : PySem.W.Frag} {σ : L2.St} {G : Hp} {ta tb tc te : TE} {t u : TT} {d : PyData}
theorem da_isS {H : Hp} {v : V} {z : Str} (h : Da H v d) : decide (v = .str z) = isS z d := by
  cases h <;> simp [isS]
theorem ev_eqS {z : Str} (ha : EvD ta σ G d) (hb : Ev tb σ G (.str z)) : Ev (tOp rEqS ta tb) σ G (.bl (isS z d)) := fun H1 x Q q => ha G H1 (Ex.refl _) x _ fun v G2 H2 r hd => hb H2 (r.g.trans r.s) _ fun H3 x3 =>
  ⟨_, z, rfl, (hd.up (r.s.trans x3)).kd, by rw [da_isS hd]; exact q H3 (r.h.trans x3)⟩
theorem ev_neS {z : Str} (ha : EvD ta σ G d) (hb : Ev tb σ G (.str z)) : Ev (tOp rNeS ta tb) σ G (.bl (!isS z d)) := fun H1 x Q q => ha G H1 (Ex.refl _) x _ fun v G2 H2 r hd => hb H2 (r.g.trans r.s) _ fun H3 x3 =>
  ⟨_, z, rfl, (hd.up (r.s.trans x3)).kd, by rw [da_isS hd]; exact q H3 (r.h.trans x3)⟩
theorem ev_chain {f g : Int → Int → Bool} {a b c : Int} (ha : Ev ta σ G (.int a)) (hb : Ev tb σ G (.int b)) (hc : Ev tc σ G (.int c)) : Ev (tChain (rI0 fun i j => .bl (f i j)) (rI0 fun i j => .bl (g i j)) ta tb tc) σ G (.bl (f a b && g b c)) := fun H1 x Q q =>
  ha H1 x _ fun H2 x2 => hb H2 (x.trans x2) _ fun H3 x3 => ⟨a, b, rfl, rfl, f a b, rfl, by
    have q3 : ∀ H4, Ex H3 H4 → Q (.bl (f a b && g b c)) H4 := fun H4 x4 => q H4 ((x2.trans x3).trans x4)
    generalize f a b = fb at *
    cases fb with
    | false => exact if_no rfl (q3 H3 (Ex.refl _))
    | true => exact if_so rfl (hc H3 ((x.trans x2).trans x3) _ fun H4 x4 => ⟨b, c, rfl, rfl, q3 H4 x4⟩)⟩
end
def f1 (f : PyData → PyData) : List PyData → Option PyData
  | [d] => some (f d)
  | _ => none
def spB (f : PyData → Bool) : Sp := spF (f1 fun d => .bool (f d))
def spW : Sp := spF fun ds => match ds with
  | [d, .int a, .int b] => some (.bool (within a b d))
  | _ => none
theorem spF_len {F : List PyData → Option PyData} {n : Nat} (hF : ∀ ds d, F ds = some d → ds.length = n) {vs : List V} {H : Hp} {Q : VK} {E : XK} (h : spF F vs H Q E) : vs.length = n := by
  obtain ⟨G, ds, d, _, h2, h3, _⟩ := h
  rw [h2.len, hF ds d h3]
theorem f1_len {f : PyData → PyData} (ds : List PyData) (d : PyData) (h : f1 f ds = some d) : ds.length = 1 := by
  unfold f1 at h
  split at h
  · rfl
  · cases h
theorem spB_of {f : PyData → Bool} {vs : List V} {H : Hp} {Q : VK} {E : XK} (h : spB f vs H Q E) : ∃ G v d, vs = [v] ∧ Ex G H ∧ Da G v d ∧ ∀ H', Ex H H' → Q (.bl (f d)) H' := by
  obtain ⟨G, ds, d, s, h2, h3, k⟩ := h
  unfold f1 at h3
  split at h3
  · rename_i d'
    cases h3
    cases h2 with
    | cons h t =>
      cases t
      exact ⟨G, _, d', rfl, s, h, fun H' x => k _ G H' (Gr.keep s x) (.bl _)⟩
  · cases h3
theorem isNm_str (x : Str) : isNm (.str x) = (decide (1 ≤ x.length) && decide (x.length ≤ 8) && lets x) := rfl
theorem filter_yes {α : Type} (l : List α) : l.filter (fun _ => true) = l := List.filter_eq_self.mpr fun _ _ => rfl
theorem kd_str {d : PyData} (h : kd d = "str") : ∃ x, d = .str x := by
  cases d with
  | str x => exact ⟨x, rfl⟩
  | none => exact absurd h (by decide)
  | bool b => exact absurd h (show ¬ "bool" = "str" by decide)
  | int b => exact absurd h (show ¬ "int" = "str" by decide)
  | list b => exact absurd h (show ¬ "list" = "str" by decide)
  | tuple b => exact absurd h (show ¬ "tuple" = "str" by decide)
  | dict b => exact absurd h (show ¬ "dict" = "str" by decide)
section
variable {K : PySem.W.Frag} {σ : L2.St} {G H : Hp} {te : TE} {d : PyData} {D : Ends} {v : V} {f : PyData → Bool} {E : XK}
theorem ev_lenS {z : Str} (h : EvD te σ G (.str z)) : Ev (tCB (fun xs H Q => ∃ z : Str, xs = [V.str z] ∧ z.length ≤ sizeLine ∧ Q (.int z.length) H) (tCons te tNil)) σ G (.int (z.length : Int)) := fun H1 x Q q => h G H1 (Ex.refl _) x _ fun v G2 H2 r hd => by
  obtain ⟨rfl, hl⟩ := hd.str_
  exact ⟨z, rfl, Nat.le_trans hl (by decide), q H2 r.h⟩
theorem ev_callB (h : EvD te σ G d) : Ev (tCallD (spB f) E (tCons te tNil)) σ G (.bl (f d)) := EvD.bl_ (evd_call (evd_cons h evd_nil) rfl)
theorem Ev.ret (s : Ex G H) (h : Ev te σ G v) (k : ∀ H1, Ex H H1 → D.rt v H1) : tRet te D σ H := h H s _ k
end
section
variable {P : Program} {w : World} {K : PySem.W.Frag} {mg : Str → Option Value} {base : Heap} {CA CB CP fP : Addr}
theorem ok_is_name (T : Txt P K mg CA CB CP fP) (D : Df K mg "is_name" s_is_name) : DefOk P w K mg base CX0 1 "is_name" ["value"] (spB isNm) := by
  refine D.ok sc_is_name (fun _ _ _ _ _ _ us hl => match us, hl with | [_], _ => rfl) (fun vs H Q E h => spF_len f1_len h) (fun f cdv A outer s H vs Q E hr h => ?_)
  obtain ⟨G, v, d, rfl, s, hd, k⟩ := spB_of h
  refine ⟨_, (pss_cons (ps_if (PW.pt (pw_or (pt_not (pt_val (pe_callB call_isi (by rfl) T.n_isinstance (by decide +kernel) (pa_cons (pv 0) (pa_cons (pe_bltn (v := .ty "str") (by rfl) T.n_str (by decide +kernel) rfl) pa_nil))))) (pw_or1 (pt_not (pt_chain op_le op_le pe_int (pe_callB call_len_str (by rfl) T.n_len (by decide +kernel) (pa_cons (pv 0) pa_nil)) (pe_gInt (by rfl) T.g_MAX_NAME))))))
 (pss_one (ps_ret pe_bl))
 pss_nil)
 (pss_one (ps_ret (pe_callB (cr_all rfl) (by rfl) T.n_all (by decide +kernel) (pa_cons (pe_lc (own := [("letter", 1)]) (by rfl) sc_is_name.nd (pi_str (pv 0)) (blkOk_by (own := [("letter", 1)]) (N := ["value", "letter"]) (sc := defScope s_is_name) (by decide +kernel)) (fun _ _ _ _ _ => (pg_name (i := 1) sc_is_name.nd rfl (Or.inl rfl))) (fun _ _ _ _ _ => pts_nil) (fun _ _ _ _ _ => (pe_cmpR op_in_sign (pv 1) (pe_gStr (by rfl) T.g_LETTERS) (by rfl)))) pa_nil))))), ?_⟩
  by_cases c : kd d = "str"
  · obtain ⟨x, rfl⟩ := kd_str c
    obtain ⟨rfl, hl⟩ := hd.str_
    refine q_ifD s (et_or (et_not (et_B (ev_isStr (evd_var rfl hd)))) (fun _ => et_not (et_test (ev_chain ev_c (ev_lenS (evd_var rfl hd)) ev_c)))) (fun hb H1 x1 => ?_) (fun hb H1 x1 => ?_)
    · have : isNm (.str x) = false := by
        simp [kd] at hb
        rw [isNm_str]
        rcases hb with hb | hb
        · rw [decide_eq_false (by omega : ¬ 1 ≤ x.length)]
          rfl
        · rw [decide_eq_false (by omega : ¬ x.length ≤ 8)]
          simp
      rw [this] at k
      exact k H1 x1
    · simp [kd] at hb
      have a1 : 1 ≤ x.length ∧ x.length ≤ 8 := by omega
      have e2 : isNm (.str x) = ((x.cps.toList.map fun c => decide (c ∈ letters.cps.toList)).all id) := by
        rw [isNm_str]
        unfold lets
        rw [decide_eq_true a1.1, decide_eq_true a1.2, List.all_map]
        rfl
      rw [e2] at k
      refine s_ret (ev_allD (K := K) (EvD.is (evd_lcS (fun _ => true) (fun c => .bool (decide (c ∈ letters.cps.toList))) (evd_var rfl (hd.up (s.trans x1))) (fun _ => rfl) (fun c _ => et_yes (b := true)) (fun c _ _ => evd_bl (fun H2 x2 Q' q' => ⟨_, rfl, c, letters, rfl, rfl, q' H2 (Ex.refl _)⟩))) ?_)) (fun H2 x2 => k H2 (x1.trans x2))
      rw [filter_yes, List.map_map]
      rfl
  · have nm : isNm d = false := by cases d <;> (first | rfl | exact absurd rfl c)
    rw [nm] at k
    refine q_ifD s (b := true) (fun H1 x1 Q' q' => (ev_isStr (evd_var rfl hd)) H1 x1 _ fun H2 x2 => ⟨_, rfl, ?_⟩) (fun _ H1 x1 => k H1 x1) (fun z => by cases z)
    rw [beq_eq_false_iff_ne.mpr c]
    exact q' H2 x2
theorem ok_is_number (T : Txt P K mg CA CB CP fP) (D : Df K mg "is_number" s_is_number) : DefOk P w K mg base CX0 1 "is_number" ["value"] (spB isNu) := by
  refine D.ok sc_is_number (fun _ _ _ _ _ _ us hl => match us, hl with | [_], _ => rfl) (fun vs H Q E h => spF_len f1_len h) (fun f cdv A outer s H vs Q E hr h => ?_)
  obtain ⟨G, v, d, rfl, s, hd, k⟩ := spB_of h
  refine ⟨_, (pss_one (ps_ret (pe_and (pe_callB call_isi (by rfl) T.n_isinstance (by decide +kernel) (pa_cons (pv 0) (pa_cons (pe_bltn (v := .ty "int") (by rfl) T.n_int (by decide +kernel) rfl) pa_nil))) (pe_one (pe_not (pe_callB call_isi (by rfl) T.n_isinstance (by decide +kernel) (pa_cons (pv 0) (pa_cons (pe_bltn (v := .ty "bool") (by rfl) T.n_bool (by decide +kernel) rfl) pa_nil)))))))), ?_⟩
  have e : isNu d = ((kd d == "int" || kd d == "bool") && !(kd d == "bool")) := by cases d <;> rfl
  rw [e] at k
  exact Ev.ret s (ev_andV (ev_isInt (evd_var rfl hd)) fun _ => ev_notV (ev_isBool (evd_var rfl hd))) k
theorem ok_is_integer (T : Txt P K mg CA CB CP fP) (D : Df K mg "is_integer" s_is_integer) (D_is_number : DefOk P w K mg base CX0 1 "is_number" ["value"] (spB isNu)) : DefOk P w K mg base CX0 2 "is_integer" ["value"] (spB isIn) := by
  refine D.ok sc_is_integer (fun _ _ _ _ _ _ us hl => match us, hl with | [_], _ => rfl) (fun vs H Q E h => spF_len f1_len h) (fun f cdv A outer s H vs Q E hr h => ?_)
  obtain ⟨G, v, d, rfl, s, hd, k⟩ := spB_of h
  refine ⟨_, (pss_one (ps_ret (pe_and (pe_callD D_is_number (hr.mono (by decide)) pass0 (pa_cons (pv 0) pa_nil)) (pe_one (pe_chain op_lt op_lt (pe_un un_neg (pe_gInt (by rfl) T.g_LIMIT)) (pv 0) (pe_gInt (by rfl) T.g_LIMIT)))))), ?_⟩
  have e : isIn d = (isNu d && isIn d) := by cases d <;> rfl
  rw [e] at k
  refine Ev.ret s (ev_andV (ev_callB (evd_var rfl hd)) fun hb => ?_) k
  cases d with
  | int i => rw [hd.int_]; exact ev_chain (ev_un ev_c ru_neg) (ev_var rfl) ev_c
  | _ => cases hb
theorem ok_is_within (T : Txt P K mg CA CB CP fP) (D : Df K mg "is_within" s_is_within) (D_is_integer : DefOk P w K mg base CX0 2 "is_integer" ["value"] (spB isIn)) : DefOk P w K mg base CX0 3 "is_within" ["value", "low", "high"] spW := by
  refine D.ok sc_is_within (fun _ _ _ _ _ _ us hl => match us, hl with | [_, _, _], _ => rfl) (fun vs H Q E h => spF_len (fun ds d e => ?_) h) (fun f cdv A outer s H vs Q E hr h => ?_)
  · split at e
    · rfl
    · cases e
  obtain ⟨G, ds, d0, s, h2, h3, k⟩ := h
  dsimp only at h3
  split at h3
  · rename_i d a b
    cases h3
    cases h2 with
    | cons hd t =>
      cases t with
      | cons ha t =>
        cases t with
        | cons hb t =>
          cases t
          refine ⟨_, (pss_one (ps_ret (pe_and (pe_callD D_is_integer (hr.mono (by decide)) pass0 (pa_cons (pv 0) pa_nil)) (pe_one (pe_chain op_le op_le (pv 1) (pv 0) (pv 2)))))), ?_⟩
          have e : within a b d = (isIn d && within a b d) := by
            cases d with
            | int i =>
              show ((decide (-lim < i) && decide (i < lim)) && _) = ((decide (-lim < i) && decide (i < lim)) && ((decide (-lim < i) && decide (i < lim)) && _))
              cases (decide (-lim < i) && decide (i < lim)) <;> rfl
            | _ => rfl
          rw [e] at k
          refine Ev.ret s (ev_andV (ev_callB (evd_var rfl hd)) fun hb2 => ?_) (fun H1 x1 => k _ G H1 (Gr.keep s x1) (.bl _))
          cases d with
          | int i =>
            rw [hd.int_, ha.int_, hb.int_]
            have e2 : within a b (.int i) = (decide (a ≤ i) && decide (i ≤ b)) := by
              show ((decide (-lim < i) && decide (i < lim)) && _) = _
              rw [show (decide (-lim < i) && decide (i < lim)) = true from hb2]
              rfl
            rw [e2]
            exact ev_chain (ev_var rfl) (ev_var rfl) (ev_var rfl)
          | _ => cases hb2
  · cases h3
end
end My
set_option maxHeartbeats 4000000
namespace My
open PySem L2 Lf Evl Tr
abbrev s_is_tree_of : Stmt := top 22
theorem sc_is_tree_of : FnScope ["value", "most", "word", "name", "distance", "array", "step", "offset", "operator", "trees", "tree"] ["value", "most"] (defScope s_is_tree_of) := ⟨rfl, rfl, rfl, by decide +kernel, rfl, by decide +kernel, by decide +kernel⟩
abbrev s_is_tree : Stmt := top 23
theorem sc_is_tree : FnScope ["value"] ["value"] (defScope s_is_tree) := ⟨rfl, rfl, rfl, by decide +kernel, rfl, by decide +kernel, by decide +kernel⟩
abbrev s_is_statement : Stmt := top 24
theorem sc_is_statement : FnScope ["value", "word", "name", "tree", "array", "step", "offset"] ["value"] (defScope s_is_statement) := ⟨rfl, rfl, rfl, by decide +kernel, rfl, by decide +kernel, by decide +kernel⟩
def spT (n : Nat) : Sp := spF fun ds => match ds with
  | [d, .int m] => if 0 ≤ m ∧ m < n then some (.bool (isTr m.toNat d)) else none
  | _ => none
theorem spT_len {n : Nat} {vs : List V} {H : Hp} {Q : VK} {E : XK} (h : spT n vs H Q E) : vs.length = 2 := by
  refine spF_len (fun ds d e => ?_) h
  split at e
  · rfl
  · cases e
theorem spT_of {n : Nat} {vs : List V} {H : Hp} {Q : VK} {E : XK} (h : spT n vs H Q E) : ∃ G v d m, vs = [v, .int m] ∧ Ex G H ∧ Da G v d ∧ 0 ≤ m ∧ m < n ∧ ∀ H', Ex H H' → Q (.bl (isTr m.toNat d)) H' := by
  obtain ⟨G, ds, d, s, h2, h3, k⟩ := h
  dsimp only at h3
  split at h3
  · rename_i d' m
    split at h3
    · rename_i hm
      cases h3
      cases h2 with
      | cons h t =>
        cases t with
        | cons h' t =>
          cases t
          rw [h'.int_]
          exact ⟨G, _, d', m, rfl, s, h, hm.1, hm.2, fun H' x => k _ G H' (Gr.keep s x) (.bl _)⟩
    · cases h3
  · cases h3
theorem ev_callT {n : Nat} {σ : L2.St} {G : Hp} {ta tb : TE} {d : PyData} {m : Int} {E : XK} (h : EvD ta σ G d) (hb : Ev tb σ G (.int m)) (h0 : 0 ≤ m) (h1 : m < n) : EvD (tCallD (spT n) E (tCons ta (tCons tb tNil))) σ G (.bool (isTr m.toNat d)) :=
  evd_call (evd_cons h (evd_cons (evd_int hb) evd_nil)) (by dsimp only; rw [if_pos ⟨h0, h1⟩])
theorem ev_callW {σ : L2.St} {G : Hp} {ta tb tc : TE} {d : PyData} {a b : Int} {E : XK} (h : EvD ta σ G d) (ha : Ev tb σ G (.int a)) (hb : Ev tc σ G (.int b)) : Ev (tCallD spW E (tCons ta (tCons tb (tCons tc tNil)))) σ G (.bl (within a b d)) :=
  EvD.bl_ (evd_call (evd_cons h (evd_cons (evd_int ha) (evd_cons (evd_int hb) evd_nil))) rfl)
theorem kd_tup {d : PyData} (c : kd d = "tuple") : ∃ ds, d = .tuple ds := by
  cases d with
  | tuple ds => exact ⟨ds, rfl⟩
  | none => exact absurd c (by decide)
  | bool b => exact absurd c (show ¬ "bool" = "tuple" by decide)
  | int b => exact absurd c (show ¬ "int" = "tuple" by decide)
  | list b => exact absurd c (show ¬ "list" = "tuple" by decide)
  | str b => exact absurd c (show ¬ "str" = "tuple" by decide)
  | dict b => exact absurd c (show ¬ "dict" = "tuple" by decide)
section
variable {P : Program} {w : World} {K : PySem.W.Frag} {mg : Str → Option Value} {base : Heap} {CA CB CP fP : Addr}
theorem ok_tree0 (D : Df K mg "is_tree_of" s_is_tree_of) : DefOk P w K mg base CX0 3 "is_tree_of" ["value", "most"] (spT 0) := by
  refine D.ok sc_is_tree_of (fun _ _ _ _ _ _ us hl => match us, hl with | [_, _], _ => rfl) (fun vs H Q E h => spT_len h) (fun f cdv A outer s H vs Q E hr h => ?_)
  obtain ⟨_, _, _, m, _, _, _, h0, h1, _⟩ := spT_of h
  exact absurd h1 (by omega)
theorem ok_treeS (T : Txt P K mg CA CB CP fP) (D : Df K mg "is_tree_of" s_is_tree_of) {n l : Nat} (hl3 : 3 ≤ l) (D_is_tree_of : DefOk P w K mg base CX0 l "is_tree_of" ["value", "most"] (spT n)) (D_is_name : DefOk P w K mg base CX0 1 "is_name" ["value"] (spB isNm))
    (D_is_integer : DefOk P w K mg base CX0 2 "is_integer" ["value"] (spB isIn)) (D_is_within : DefOk P w K mg base CX0 3 "is_within" ["value", "low", "high"] spW) : DefOk P w K mg base CX0 (l + 1) "is_tree_of" ["value", "most"] (spT (n + 1)) := by
  refine D.ok sc_is_tree_of (fun _ _ _ _ _ _ us hl => match us, hl with | [_, _], _ => rfl) (fun vs H Q E h => spT_len h) (fun f cdv A outer s H vs Q E hr h => ?_)
  obtain ⟨G, v, d, m, rfl, s, hd, m0, m1, k⟩ := spT_of h
  refine ⟨_, (pss_cons (ps_if (PW.pt (pw_or (pt_not (pt_val (pe_callB call_isi (by rfl) T.n_isinstance (by decide +kernel) (pa_cons (pv 0) (pa_cons (pe_bltn (v := .ty "tuple") (by rfl) T.n_tuple (by decide +kernel) rfl) pa_nil))))) (pw_or1 (pt_cmpR op_eq (pv 1) pe_int (nomark _)))))
 (pss_one (ps_ret pe_bl))
 pss_nil)
 (pss_cons (ps_match (pv 0) (pmc_case rfl (.cons ⟨_, rfl⟩ (.cons ⟨_, rfl⟩ (.cons ⟨_, rfl⟩ .nil))) rfl (pns_cons (i := 2) sc_is_tree_of.nd rfl (Or.inl rfl) (pns_cons (i := 3) sc_is_tree_of.nd rfl (Or.inl rfl) (pns_cons (i := 4) sc_is_tree_of.nd rfl (Or.inl rfl) pns_nil))) (pt_cmpR (op_eqS hr.units0) (pv 2) (pe_gStr (by rfl) T.g_AT) (nomark _))
 (pss_one (ps_ret (pe_and (pe_callD D_is_name (hr.mono (by omega)) pass0 (pa_cons (pv 3) pa_nil)) (pe_one (pe_callD D_is_within (hr.mono (by omega)) pass0 (pa_cons (pv 4) (pa_cons pe_int (pa_cons (pe_gInt (by rfl) T.g_MAX_DISTANCE) pa_nil))))))))
 (pmc_case rfl (.cons ⟨_, rfl⟩ (.cons ⟨_, rfl⟩ (.cons ⟨_, rfl⟩ (.cons ⟨_, rfl⟩ .nil)))) rfl (pns_cons (i := 2) sc_is_tree_of.nd rfl (Or.inl rfl) (pns_cons (i := 5) sc_is_tree_of.nd rfl (Or.inl rfl) (pns_cons (i := 6) sc_is_tree_of.nd rfl (Or.inl rfl) (pns_cons (i := 7) sc_is_tree_of.nd rfl (Or.inl rfl) pns_nil)))) (pt_cmpR (op_eqS hr.units0) (pv 2) (pe_gStr (by rfl) T.g_LOAD) (nomark _))
 (pss_one (ps_ret (pe_and (pe_callD D_is_name (hr.mono (by omega)) pass0 (pa_cons (pv 5) pa_nil)) (pe_and (pe_callD D_is_integer (hr.mono (by omega)) pass0 (pa_cons (pv 6) pa_nil)) (pe_one (pe_callD D_is_integer (hr.mono (by omega)) pass0 (pa_cons (pv 7) pa_nil)))))))
 (pmc_caseT (ps := [_, _]) rfl rfl (.cons ⟨_, rfl⟩ (.cons ⟨_, rfl⟩ .nil)) rfl (by decide) (pns_cons (i := 2) sc_is_tree_of.nd rfl (Or.inl rfl) (pns_cons (i := 8) sc_is_tree_of.nd rfl (Or.inl rfl) (pns_cons (i := 9) sc_is_tree_of.nd rfl (Or.inl rfl) pns_nil))) (pt_cmpR (op_eqS hr.units0) (pv 2) (pe_gStr (by rfl) T.g_OP) (nomark _))
 (pss_cons (ps_if (PW.pt (pw_or (pt_not (pt_val (pe_callD D_is_name (hr.mono (by omega)) pass0 (pa_cons (pv 8) pa_nil)))) (pw_or1 (pt_cmpR op_gt (pe_callB call_len_seq (by rfl) T.n_len (by decide +kernel) (pa_cons (pv 9) pa_nil)) (pe_gInt (by rfl) T.g_MAX_TREES) (nomark _)))))
 (pss_one (ps_ret pe_bl))
 pss_nil)
 (pss_one (ps_ret (pe_callB (cr_all rfl) (by rfl) T.n_all (by decide +kernel) (pa_cons (pe_lc (own := [("tree", 10)]) (by rfl) sc_is_tree_of.nd (pi_list (pv 9)) (blkOk_by (own := [("tree", 10)]) (N := ["value", "most", "word", "name", "distance", "array", "step", "offset", "operator", "trees", "tree"]) (sc := defScope s_is_tree_of) (by decide +kernel)) (fun _ _ _ _ _ => (pg_name (i := 10) sc_is_tree_of.nd rfl (Or.inl rfl))) (fun _ _ _ _ _ => pts_nil) (fun _ _ _ _ _ => (pe_callD D_is_tree_of (hr.mono (by omega)) pass0 (pa_cons (pv 10) (pa_cons (pe_op op_sub (pv 1) pe_int) pa_nil))))) pa_nil)))))
 pmc_nil))))
 (pss_one (ps_ret pe_bl)))), ?_⟩
  by_cases c : kd d = "tuple"
  · obtain ⟨ds, rfl⟩ : ∃ ds, d = .tuple ds := by
      cases d with
      | tuple ds => exact ⟨ds, rfl⟩
      | none => exact absurd c (by decide)
      | bool b => exact absurd c (show ¬ "bool" = "tuple" by decide)
      | int b => exact absurd c (show ¬ "int" = "tuple" by decide)
      | list b => exact absurd c (show ¬ "list" = "tuple" by decide)
      | str b => exact absurd c (show ¬ "str" = "tuple" by decide)
      | dict b => exact absurd c (show ¬ "dict" = "tuple" by decide)
    refine q_ifD s (b := decide (m = 0)) (fun H1 x1 Q' q' => (ev_isTup (evd_var rfl hd)) H1 x1 _ fun H2 x2 => ⟨_, rfl, if_no rfl ⟨_, rfl, rfl, _, rfl, ?_⟩⟩) (fun hb H1 x1 => ?_) (fun hb H1 x1 => ?_)
    · have : decide (V.int m = V.int 0) = decide (m = 0) := by rw [decide_eq_decide]; simp
      rw [this]
      exact q' H2 x2
    · have z : m = 0 := of_decide_eq_true hb
      subst z
      exact k H1 x1
    · have z : ¬ m = 0 := of_decide_eq_false hb
      obtain ⟨j, rfl⟩ : ∃ j : Nat, m = (j : Int) + 1 := ⟨(m - 1).toNat, by omega⟩
      have e1 : ((j : Int) + 1).toNat = j + 1 := by omega
      rw [e1] at k
      obtain ⟨a, xs, rfl, ea, hs⟩ := hd.tup_
      have s1 := s.trans x1
      dsimp only [tNext]
      have ret : ∀ {H' : Hp}, Ex H H' → isTr (j + 1) (.tuple ds) = false → Q (.bl false) H' := fun x e => by
        rw [e] at k
        exact k _ x
      have hlen := hs.len
      refine ⟨_, rfl, tCase_cut (fun σ' H' => (∃ v2 v3 v4 v5 v6 v7 v8 v9 v10, σ' = [some (.ref a), some (.int ((j : Int) + 1)), v2, v3, v4, v5, v6, v7, v8, v9, v10]) ∧ Ex H H' ∧ ¬ (ds.length = 3 ∧ isS "at" (ds.getD 0 .none) = true)) (SqT.of (s1 _ _ ea)) (fun h3 r' hr' => ?_) (fun h3 => ⟨⟨_, _, _, _, _, _, _, _, _, rfl⟩, x1, fun z => h3 (by rw [hlen]; exact z.1)⟩) ?_⟩
      · have h3 : xs.length = 3 := h3
        obtain ⟨dw, dn, dd, rfl⟩ : ∃ dw dn dd, ds = [dw, dn, dd] := by
          match ds, (by omega : ds.length = 3) with
          | [a, b, c], _ => exact ⟨a, b, c, rfl⟩
        cases hs with
        | cons hw t =>
          cases t with
          | cons hn t =>
            cases t with
            | cons hc t =>
              cases t
              refine ⟨_, _, rfl, _, _, rfl, _, _, rfl, rfl, ?_⟩
              refine (et_test (ev_eqS (evd_var rfl hw) ev_c)) H1 s1 _ fun H2 x2 => ?_
              cases hb1 : isS "at" dw with
              | true =>
                refine if_so rfl ?_
                have e2 : isTr (j + 1) (.tuple [dw, dn, dd]) = (isNm dn && within 0 3 dd) := by
                  rw [isTr_cons, if_pos ⟨rfl, hb1⟩]
                  rfl
                rw [e2] at k
                exact Ev.ret (s1.trans x2) (ev_andV (ev_callB (evd_var rfl hn)) fun _ => ev_callW (evd_var rfl hc) ev_c ev_c) (fun H3 x3 => k H3 ((x1.trans x2).trans x3))
              | false =>
                refine if_no rfl (hr' _ _ ⟨⟨_, _, _, _, _, _, _, _, _, rfl⟩, x1.trans x2, fun z => ?_⟩)
                have := z.2
                rw [show [dw, dn, dd].getD 0 .none = dw from rfl, hb1] at this
                cases this
      · rintro σ' H' ⟨⟨v2, v3, v4, v5, v6, v7, v8, v9, v10, rfl⟩, x', n1⟩
        refine tCase_cut (fun σ' H' => (∃ v2 v3 v4 v5 v6 v7 v8 v9 v10, σ' = [some (.ref a), some (.int ((j : Int) + 1)), v2, v3, v4, v5, v6, v7, v8, v9, v10]) ∧ Ex H H' ∧ ¬ (ds.length = 4 ∧ isS "load" (ds.getD 0 .none) = true)) (SqT.of (s.trans x' _ _ ea)) (fun h3 r' hr' => ?_) (fun h3 => ⟨⟨_, _, _, _, _, _, _, _, _, rfl⟩, x', fun z => h3 (by rw [hlen]; exact z.1)⟩) ?_
        · have h3 : xs.length = 4 := h3
          obtain ⟨dw, dn, dd, de, rfl⟩ : ∃ dw dn dd de, ds = [dw, dn, dd, de] := by
            match ds, (by omega : ds.length = 4) with
            | [a, b, c, d], _ => exact ⟨a, b, c, d, rfl⟩
          cases hs with
          | cons hw t =>
            cases t with
            | cons hn t =>
              cases t with
              | cons hc t =>
                cases t with
                | cons hc2 t =>
                  cases t
                  refine ⟨_, _, rfl, _, _, rfl, _, _, rfl, _, _, rfl, rfl, ?_⟩
                  have s' := s.trans x'
                  refine (et_test (ev_eqS (evd_var rfl hw) ev_c)) H' s' _ fun H2 x2 => ?_
                  cases hb1 : isS "load" dw with
                  | true =>
                    refine if_so rfl ?_
                    have e2 : isTr (j + 1) (.tuple [dw, dn, dd, de]) = (isNm dn && (isIn dd && isIn de)) := by
                      rw [isTr_cons, if_neg (fun z => absurd z.1 (show ¬ 2 = 1 by decide)), if_pos ⟨rfl, hb1⟩]
                      rfl
                    rw [e2] at k
                    exact Ev.ret (s'.trans x2) (ev_andV (ev_callB (evd_var rfl hn)) fun _ => ev_andV (ev_callB (evd_var rfl hc)) fun _ => ev_callB (evd_var rfl hc2)) (fun H3 x3 => k H3 ((x'.trans x2).trans x3))
                  | false =>
                    refine if_no rfl (hr' _ _ ⟨⟨_, _, _, _, _, _, _, _, _, rfl⟩, x'.trans x2, fun z => ?_⟩)
                    have := z.2
                    rw [show [dw, dn, dd, de].getD 0 .none = dw from rfl, hb1] at this
                    cases this
        · rintro σ'' H'' ⟨⟨v2, v3, v4, v5, v6, v7, v8, v9, v10, rfl⟩, x'', n2⟩
          have s2 := s.trans x''
          refine ⟨a, xs, rfl, SqT.of (s2 _ _ ea), fun hge p hp => ?_, fun hlt => ret x'' ?_⟩
          · have hge : 2 ≤ xs.length := hge
            obtain ⟨dw, dn, ts, rfl⟩ : ∃ dw dn ts, ds = dw :: dn :: ts := by
              match ds, (by omega : 2 ≤ ds.length) with
              | a :: b :: c, _ => exact ⟨a, b, c, rfl⟩
            cases hs with
            | @cons vw _ _ _ hw t =>
              cases t with
              | @cons vn vts _ _ hn t =>
                have g := Gr.new (o := .lst vts) s2 hp rfl
                have hL : Da (upd G p (.lst vts)) (.ref p) (.list ts) := .lst upd_same (t.up g.g)
                refine ⟨_, _, rfl, _, _, rfl, _, _, rfl, rfl, ?_⟩
                refine (et_test (ev_eqS (evd_var rfl (hw.up g.g)) ev_c)) _ g.s _ fun H2 x2 => ?_
                have e2 : isTr (j + 1) (.tuple (dw :: dn :: ts)) = (if isS "op" dw = true then isNm dn && (decide (ts.length ≤ 3) && ts.all fun t => isTr j t) else false) := by
                  rw [isTr_cons, if_neg (fun z => n1 ⟨by rw [List.length_cons, List.length_cons, z.1], z.2⟩), if_neg (fun z => n2 ⟨by rw [List.length_cons, List.length_cons, z.1], z.2⟩)]
                have xx : Ex H H2 := x''.trans (g.h.trans x2)
                have sg := g.s.trans x2
                cases hb1 : isS "op" dw with
                | false =>
                  rw [hb1, if_neg Bool.false_ne_true] at e2
                  exact if_no rfl (ret xx e2)
                | true =>
                  rw [hb1, if_pos rfl] at e2
                  rw [e2] at k
                  refine if_so rfl ?_
                  refine q_ifD sg (et_or (et_not (et_B (ev_callB (evd_var rfl (hn.up g.g))))) fun _ => et_test (ev_op (ev_lenL (evd_var rfl hL)) ev_c rv_I0)) (fun hb H3 x3 => ?_) (fun hb H3 x3 => ?_)
                  · have e3 : (isNm dn && (decide (ts.length ≤ 3) && ts.all fun t => isTr j t)) = false := by
                      cases q1 : isNm dn with
                      | false => rfl
                      | true =>
                        rw [q1] at hb
                        simp at hb
                        rw [decide_eq_false (by omega)]
                        rfl
                    rw [e3] at k
                    exact k _ (xx.trans x3)
                  · simp at hb
                    have e3 : (isNm dn && (decide (ts.length ≤ 3) && ts.all fun t => isTr j t)) = ((ts.map fun t => isTr j t).all id) := by
                      rw [hb.1, decide_eq_true (by omega), List.all_map]
                      rfl
                    rw [e3] at k
                    refine Ev.ret (sg.trans x3) (ev_allD (K := K) (EvD.is (evd_lcL (fun _ => true) (fun t => .bool (isTr j t)) (evd_var rfl hL) (by omega) (fun _ => rfl) (fun d _ v G1 _ _ => et_yes (b := true)) (fun d _ _ v G1 _ hv => EvD.is (ev_callT (evd_var rfl hv) (ev_op (ev_var rfl) ev_c rv_I0) ?_ ?_) ?_)) ?_)) (fun H4 x4 => k H4 ((xx.trans x3).trans x4))
                    · omega
                    · omega
                    · rw [show ((j : Int) + 1 - 1).toNat = j by omega]
                    · rw [filter_yes, List.map_map]
                      rfl
          · have hlt : xs.length < 2 := hlt
            match ds, (by omega : ds.length < 2) with
            | [], _ => rfl
            | [a], _ => rfl
  · have e1 : isTr m.toNat d = false := by
      cases hm : m.toNat with
      | zero => rfl
      | succ j => cases d <;> (first | rfl | exact absurd rfl c)
    rw [e1] at k
    refine q_ifD s (b := true) (fun H1 x1 Q' q' => (ev_isTup (evd_var rfl hd)) H1 x1 _ fun H2 x2 => ⟨_, rfl, ?_⟩) (fun _ H1 x1 => k H1 x1) (fun z => by cases z)
    rw [beq_eq_false_iff_ne.mpr c]
    exact q' H2 x2
theorem ok_is_tree (T : Txt P K mg CA CB CP fP) (D : Df K mg "is_tree" s_is_tree) (D_is_tree_of : DefOk P w K mg base CX0 8 "is_tree_of" ["value", "most"] (spT 5)) : DefOk P w K mg base CX0 9 "is_tree" ["value"] (spB (isTr 4)) := by
  refine D.ok sc_is_tree (fun _ _ _ _ _ _ us hl => match us, hl with | [_], _ => rfl) (fun vs H Q E h => spF_len f1_len h) (fun f cdv A outer s H vs Q E hr h => ?_)
  obtain ⟨G, v, d, rfl, s, hd, k⟩ := spB_of h
  refine ⟨_, (pss_one (ps_ret (pe_callD D_is_tree_of (hr.mono (by decide)) pass0 (pa_cons (pv 0) (pa_cons (pe_gInt (by rfl) T.g_MAX_LEVELS) pa_nil))))), ?_⟩
  exact Ev.ret s (EvD.bl_ (ev_callT (evd_var rfl hd) ev_c (by decide) (by decide))) k
theorem ok_is_statement (T : Txt P K mg CA CB CP fP) (D : Df K mg "is_statement" s_is_statement) (D_is_tree : DefOk P w K mg base CX0 9 "is_tree" ["value"] (spB (isTr 4))) (D_is_name : DefOk P w K mg base CX0 1 "is_name" ["value"] (spB isNm))
    (D_is_integer : DefOk P w K mg base CX0 2 "is_integer" ["value"] (spB isIn)) : DefOk P w K mg base CX0 10 "is_statement" ["value"] (spB isSt) := by
  refine D.ok sc_is_statement (fun _ _ _ _ _ _ us hl => match us, hl with | [_], _ => rfl) (fun vs H Q E h => spF_len f1_len h) (fun f cdv A outer s H vs Q E hr h => ?_)
  obtain ⟨G, v, d, rfl, s, hd, k⟩ := spB_of h
  refine ⟨_, (pss_cons (ps_if (pt_not (pt_val (pe_callB call_isi (by rfl) T.n_isinstance (by decide +kernel) (pa_cons (pv 0) (pa_cons (pe_bltn (v := .ty "tuple") (by rfl) T.n_tuple (by decide +kernel) rfl) pa_nil)))))
 (pss_one (ps_ret pe_bl))
 pss_nil)
 (pss_cons (ps_match (pv 0) (pmc_case rfl (.cons ⟨_, rfl⟩ (.cons ⟨_, rfl⟩ (.cons ⟨_, rfl⟩ .nil))) rfl (pns_cons (i := 1) sc_is_statement.nd rfl (Or.inl rfl) (pns_cons (i := 2) sc_is_statement.nd rfl (Or.inl rfl) (pns_cons (i := 3) sc_is_statement.nd rfl (Or.inl rfl) pns_nil))) (pt_cmpR (op_eqS hr.units0) (pv 1) (pe_gStr (by rfl) T.g_SET) (nomark _))
 (pss_one (ps_ret (pe_and (pe_callD D_is_name (hr.mono (by decide)) pass0 (pa_cons (pv 2) pa_nil)) (pe_and (pe_callD D_is_tree (hr.mono (by decide)) pass0 (pa_cons (pv 3) pa_nil)) (pe_one (pe_cmpR (op_neS hr.units0) (pe_ix ix_tup (pv 3) pe_int (fun _ _ => rfl)) (pe_gStr (by rfl) T.g_AT) (nomark _)))))))
 (pmc_case rfl (.cons ⟨_, rfl⟩ (.cons ⟨_, rfl⟩ (.cons ⟨_, rfl⟩ (.cons ⟨_, rfl⟩ (.cons ⟨_, rfl⟩ (.cons ⟨_, rfl⟩ .nil)))))) rfl (pns_cons (i := 1) sc_is_statement.nd rfl (Or.inl rfl) (pns_cons (i := 2) sc_is_statement.nd rfl (Or.inl rfl) (pns_cons (i := 4) sc_is_statement.nd rfl (Or.inl rfl) (pns_cons (i := 5) sc_is_statement.nd rfl (Or.inl rfl) (pns_cons (i := 6) sc_is_statement.nd rfl (Or.inl rfl) (pns_cons (i := 3) sc_is_statement.nd rfl (Or.inl rfl) pns_nil)))))) (pt_cmpR (op_eqS hr.units0) (pv 1) (pe_gStr (by rfl) T.g_STORE) (nomark _))
 (pss_cons (ps_if (PW.pt (pw_or (pt_not (pt_val (pe_callD D_is_name (hr.mono (by decide)) pass0 (pa_cons (pv 2) pa_nil)))) (pw_or (pt_not (pt_val (pe_callD D_is_name (hr.mono (by decide)) pass0 (pa_cons (pv 4) pa_nil)))) (pw_or (pt_not (pt_val (pe_callD D_is_integer (hr.mono (by decide)) pass0 (pa_cons (pv 5) pa_nil)))) (pw_or1 (pt_not (pt_val (pe_callD D_is_integer (hr.mono (by decide)) pass0 (pa_cons (pv 6) pa_nil)))))))))
 (pss_one (ps_ret pe_bl))
 pss_nil)
 (pss_one (ps_ret (pe_and (pe_cmpR op_ne (pv 5) pe_int (nomark _)) (pe_one (pe_callD D_is_tree (hr.mono (by decide)) pass0 (pa_cons (pv 3) pa_nil)))))))
 pmc_nil)))
 (pss_one (ps_ret pe_bl)))), ?_⟩
  by_cases c : kd d = "tuple"
  · obtain ⟨ds, rfl⟩ := kd_tup c
    refine q_ifD s (et_not (et_B (ev_isTup (evd_var rfl hd)))) (fun hb => by cases hb) (fun hb H1 x1 => ?_)
    obtain ⟨a, xs, rfl, ea, hs⟩ := hd.tup_
    have s1 := s.trans x1
    dsimp only [tNext]
    have ret : ∀ {H' : Hp}, Ex H H' → isSt (.tuple ds) = false → Q (.bl false) H' := fun x e => by
      rw [e] at k
      exact k _ x
    have hlen := hs.len
    refine ⟨_, rfl, tCase_cut (fun σ' H' => (∃ v1 v2 v3 v4 v5 v6, σ' = [some (.ref a), v1, v2, v3, v4, v5, v6]) ∧ Ex H H' ∧ ¬ (ds.length = 3 ∧ isS "set" (ds.getD 0 .none) = true)) (SqT.of (s1 _ _ ea)) (fun h3 r' hr' => ?_) (fun h3 => ⟨⟨_, _, _, _, _, _, rfl⟩, x1, fun z => h3 (by rw [hlen]; exact z.1)⟩) ?_⟩
    · have h3 : xs.length = 3 := h3
      obtain ⟨dw, dn, dd, rfl⟩ : ∃ dw dn dd, ds = [dw, dn, dd] := by
        match ds, (by omega : ds.length = 3) with
        | [a, b, c], _ => exact ⟨a, b, c, rfl⟩
      cases hs with
      | cons hw t =>
        cases t with
        | cons hn t =>
          cases t with
          | cons hc t =>
            cases t
            refine ⟨_, _, rfl, _, _, rfl, _, _, rfl, rfl, ?_⟩
            refine (et_test (ev_eqS (evd_var rfl hw) ev_c)) H1 s1 _ fun H2 x2 => ?_
            cases hb1 : isS "set" dw with
            | true =>
              refine if_so rfl ?_
              have e2 : isSt (.tuple [dw, dn, dd]) = (isNm dn && (isTr 4 dd && !isS "at" (hd0 dd))) := by
                rw [isSt, if_pos ⟨rfl, hb1⟩]
                rfl
              rw [e2] at k
              refine Ev.ret (s1.trans x2) (ev_andV (ev_callB (evd_var rfl hn)) fun _ => ev_andV (ev_callB (evd_var rfl hc)) fun ht => ?_) (fun H3 x3 => k H3 ((x1.trans x2).trans x3))
              obtain ⟨w0, n0, ts, rfl⟩ := isTr_tup ht
              exact ev_neS (evd_ixT (evd_var rfl hc) ev_c (atI_nat (j := 0) rfl)) ev_c
            | false =>
              refine if_no rfl (hr' _ _ ⟨⟨_, _, _, _, _, _, rfl⟩, x1.trans x2, fun z => ?_⟩)
              have := z.2
              rw [show [dw, dn, dd].getD 0 .none = dw from rfl, hb1] at this
              cases this
    · rintro σ' H' ⟨⟨v1, v2, v3, v4, v5, v6, rfl⟩, x', n1⟩
      have s' := s.trans x'
      refine tCase_cut (fun σ' H' => Ex H H' ∧ ¬ (ds.length = 6 ∧ isS "store" (ds.getD 0 .none) = true)) (SqT.of (s' _ _ ea)) (fun h3 r' hr' => ?_) (fun h3 => ⟨x', fun z => h3 (by rw [hlen]; exact z.1)⟩) ?_
      · have h3 : xs.length = 6 := h3
        obtain ⟨dw, dn, da, ds, do_, dt, rfl⟩ : ∃ dw dn da d3 d4 d5, ds = [dw, dn, da, d3, d4, d5] := by
          match ds, (by omega : ds.length = 6) with
          | [a, b, c, d, e, f], _ => exact ⟨a, b, c, d, e, f, rfl⟩
        cases hs with
        | cons hw t =>
          cases t with
          | cons hn t =>
            cases t with
            | cons ha t =>
              cases t with
              | cons h3' t =>
                cases t with
                | cons h4 t =>
                  cases t with
                  | cons h5 t =>
                    cases t
                    refine ⟨_, _, rfl, _, _, rfl, _, _, rfl, _, _, rfl, _, _, rfl, _, _, rfl, rfl, ?_⟩
                    refine (et_test (ev_eqS (evd_var rfl hw) ev_c)) H' s' _ fun H2 x2 => ?_
                    cases hb1 : isS "store" dw with
                    | true =>
                      refine if_so rfl ?_
                      have e2 : isSt (.tuple [dw, dn, da, ds, do_, dt]) = (isNm dn && (isNm da && (isIn ds && (isIn do_ && (!isZ ds && isTr 4 dt))))) := by
                        rw [isSt, if_neg n1, if_pos ⟨rfl, hb1⟩]
                        rfl
                      rw [e2] at k
                      refine q_ifD (s'.trans x2) (et_or (et_not (et_B (ev_callB (evd_var rfl hn)))) fun _ => et_or (et_not (et_B (ev_callB (evd_var rfl ha)))) fun _ => et_or (et_not (et_B (ev_callB (evd_var rfl h3')))) fun _ => et_not (et_B (ev_callB (evd_var rfl h4)))) (fun hb H3 x3 => ?_) (fun hb H3 x3 => ?_)
                      · have e3 : (isNm dn && (isNm da && (isIn ds && (isIn do_ && (!isZ ds && isTr 4 dt))))) = false := by
                          revert hb
                          cases isNm dn <;> cases isNm da <;> cases isIn ds <;> cases isIn do_ <;> simp
                        rw [e3] at k
                        exact k _ ((x'.trans x2).trans x3)
                      · simp at hb
                        obtain ⟨q1, q2, q3, q4⟩ := hb
                        rw [q1, q2, q3, q4] at k
                        obtain ⟨i, rfl⟩ := isIn_int q3
                        have e4 : (!decide (V.int i = V.int 0)) = !isZ (.int i) := by simp [isZ]
                        rw [← e4] at k
                        exact Ev.ret ((s'.trans x2).trans x3) (ev_andV (ev_op (EvD.int_ (evd_var rfl h3')) ev_c (rv_ne rfl)) fun _ => ev_callB (evd_var rfl h5)) (fun H4 x4 => k H4 (((x'.trans x2).trans x3).trans x4))
                    | false =>
                      refine if_no rfl (hr' _ _ ⟨x'.trans x2, fun z => ?_⟩)
                      have := z.2
                      rw [show [dw, dn, da, ds, do_, dt].getD 0 .none = dw from rfl, hb1] at this
                      cases this
      · rintro σ'' H'' ⟨x'', n2⟩
        exact ret x'' (by rw [isSt, if_neg n1, if_neg n2])
  · have e1 : isSt d = false := by
      cases d <;> (first | rfl | exact absurd rfl c)
    rw [e1] at k
    refine q_ifD s (b := true) (fun H1 x1 Q' q' => (ev_isTup (evd_var rfl hd)) H1 x1 _ fun H2 x2 => ⟨_, rfl, ?_⟩) (fun _ H1 x1 => k H1 x1) (fun z => by cases z)
    rw [beq_eq_false_iff_ne.mpr c]
    exact q' H2 x2
end
end My
set_option maxHeartbeats 4000000
/-! The names of a tree's working nodes, plain -/
namespace Tr
open PySem Lf
def kO (op : Str) (i : Nat) : Str := ((Str.empty ++ op) ++ (Str.ofString ".")) ++ Str.ofString (toString ((i : Nat) : Int))
def keysN : Nat → PyData → Str → List Str
  | n + 1, .tuple ds, op => if isS "at" (ds.getD 0 .none) = true then [] else op :: (List.range (subs ds).length).flatMap fun j => keysN n ((subs ds).getD j .none) (kO op j)
  | _, _, _ => []
def wrk : Nat → PyData → Int
  | n + 1, .tuple ds => if isS "at" (ds.getD 0 .none) = true then 0 else 1 + ((subs ds).map fun t => wrk n t).sum
  | _, _ => 0
/-- s goes on behind op with a point, if at all -/
def Goes (op s : Str) : Prop := ∃ r, s.cps.toList = op.cps.toList ++ r ∧ (r = [] ∨ ∃ q, r = 46 :: q)
def kTail (i : Nat) : List Nat := 46 :: (Str.ofString (toString ((i : Nat) : Int))).cps.toList
theorem app_cps (a b : Str) : (a ++ b).cps.toList = a.cps.toList ++ b.cps.toList := by
  show (a.cps ++ b.cps).toList = _
  rw [Array.toList_append]
theorem kO_cps (op : Str) (i : Nat) : (kO op i).cps.toList = op.cps.toList ++ kTail i := by
  unfold kO
  rw [app_cps, app_cps, app_cps]
  have e1 : (Str.empty).cps.toList = [] := rfl
  have e2 : (Str.ofString ".").cps.toList = [46] := by decide +kernel
  rw [e1, e2]
  simp [kTail]
theorem goes_refl (op : Str) : Goes op op := ⟨[], by simp, .inl rfl⟩
theorem goes_kO {op s : Str} {i : Nat} (h : Goes (kO op i) s) : Goes op s := by
  obtain ⟨r, e, _⟩ := h
  rw [kO_cps, List.append_assoc] at e
  exact ⟨_, e, .inr ⟨_, rfl⟩⟩
theorem goes_long {op s : Str} {i : Nat} (h : Goes (kO op i) s) : s ≠ op := fun z => by
  obtain ⟨r, e, _⟩ := h
  rw [kO_cps, z] at e
  have := congrArg List.length e
  simp [kTail] at this
theorem kTail_small {i : Nat} (h : i < 3) : kTail i = [46, 48 + i] := by
  match i, h with
  | 0, _ => decide +kernel
  | 1, _ => decide +kernel
  | 2, _ => decide +kernel
theorem goes_apart {op s : Str} {i j : Nat} (hi : i < 3) (hj : j < 3) (h : Goes (kO op i) s) (h' : Goes (kO op j) s) : i = j := by
  obtain ⟨r, e, _⟩ := h
  obtain ⟨r', e', _⟩ := h'
  rw [kO_cps, kTail_small hi, List.append_assoc] at e
  rw [kO_cps, kTail_small hj, List.append_assoc, e] at e'
  have e'' := List.append_cancel_left e'
  simp at e''
  omega
theorem keys_goes (n : Nat) : ∀ (d : PyData) (op s : Str), s ∈ keysN n d op → Goes op s := by
  induction n with
  | zero => intro d op s h; cases h
  | succ n ih =>
    intro d op s h
    cases d with
    | tuple ds =>
      rw [keysN] at h
      split at h
      · cases h
      · rcases List.mem_cons.mp h with rfl | h
        · exact goes_refl _
        · obtain ⟨j, _, h⟩ := List.mem_flatMap.mp h
          exact goes_kO (ih _ _ _ h)
    | _ => cases h
/-- what stands before turn i -/
def keysTo (n : Nat) (ts : List PyData) (op : Str) (i : Nat) : List Str := op :: (List.range i).flatMap fun j => keysN n (ts.getD j .none) (kO op j)
theorem keysTo_succ (n : Nat) (ts : List PyData) (op : Str) (i : Nat) : keysTo n ts op (i + 1) = keysTo n ts op i ++ keysN n (ts.getD i .none) (kO op i) := by
  unfold keysTo
  rw [List.range_succ, List.flatMap_append]
  simp
theorem keys_apart {n : Nat} {ts : List PyData} {op s : Str} {i : Nat} (hi : i < 3) (h : s ∈ keysTo n ts op i) (h' : s ∈ keysN n (ts.getD i .none) (kO op i)) : False := by
  have g := keys_goes n _ _ _ h'
  rcases List.mem_cons.mp h with rfl | h
  · exact goes_long g rfl
  · obtain ⟨j, hj, h⟩ := List.mem_flatMap.mp h
    have hj := List.mem_range.mp hj
    have := goes_apart (by omega) hi (keys_goes n _ _ _ h) g
    omega
theorem keys_nodup (n : Nat) : ∀ (d : PyData) (op : Str), isTr n d = true → (keysN n d op).Nodup := by
  induction n with
  | zero => intro d op h; exact List.nodup_nil
  | succ n ih =>
    intro d op h
    obtain ⟨w, nm, ts, rfl⟩ := isTr_tup h
    obtain ⟨h3, hall⟩ := isTr_sub h
    rw [keysN]
    split
    · exact List.nodup_nil
    · have go : ∀ i, i ≤ (subs (w :: nm :: ts)).length → (keysTo n (subs (w :: nm :: ts)) op i).Nodup := by
        intro i
        induction i with
        | zero => intro _; simp [keysTo]
        | succ i ih2 =>
          intro hi
          rw [keysTo_succ]
          refine List.nodup_append.mpr ⟨ih2 (by omega), ih _ _ ?_, ?_⟩
          · have hl : i < (subs (w :: nm :: ts)).length := by omega
            rw [List.getD_eq_getElem?_getD, List.getElem?_eq_getElem hl, Option.getD_some]
            exact hall _ (List.getElem_mem hl)
          · intro a ha b hb e
            subst e
            exact keys_apart (by omega) ha hb
      exact go _ (Nat.le_refl _)
theorem range_getD (ts : List PyData) (f : PyData → Int) : (List.range ts.length).map (fun j => f (ts.getD j .none)) = ts.map f := by
  apply List.ext_getElem
  · simp
  · intro i h1 h2
    have hi : i < ts.length := by simpa using h2
    simp [hi]
theorem flat_len {α : Type} (l : List Nat) (f : Nat → List α) : (((l.flatMap f).length : Nat) : Int) = (l.map fun j => ((f j).length : Int)).sum := by
  induction l with
  | nil => rfl
  | cons a t ih =>
    rw [List.flatMap_cons, List.length_append, List.map_cons, List.sum_cons, ← ih]
    omega
theorem keys_len (n : Nat) : ∀ (d : PyData) (op : Str), ((keysN n d op).length : Int) = wrk n d := by
  induction n with
  | zero => intro d op; rfl
  | succ n ih =>
    intro d op
    cases d with
    | tuple ds =>
      rw [keysN, wrk]
      split
      · rfl
      · rw [List.length_cons, ← range_getD (subs ds) (fun t => wrk n t)]
        have e := flat_len (List.range (subs ds).length) (fun j => keysN n ((subs ds).getD j .none) (kO op j))
        have e2 : (List.range (subs ds).length).map (fun j => ((keysN n ((subs ds).getD j .none) (kO op j)).length : Int)) = (List.range (subs ds).length).map (fun j => wrk n ((subs ds).getD j .none)) :=
          List.map_congr_left fun j _ => ih _ _
        rw [e2] at e
        omega
    | _ => rfl
theorem kO_len {op : Str} {i : Nat} (h : i < 3) : (kO op i).length = op.length + 2 := by
  have e := congrArg List.length (kO_cps op i)
  rw [List.length_append, kTail_small h] at e
  simpa [Str.length] using e
theorem getD_mem {ts : List PyData} {i : Nat} (h : i < ts.length) : ts.getD i .none ∈ ts := by
  rw [List.getD_eq_getElem?_getD, List.getElem?_eq_getElem h, Option.getD_some]
  exact List.getElem_mem h
theorem keysTo_le {n : Nat} {ts : List PyData} (h : ∀ t ∈ ts, ∀ op, (keysN n t op).length ≤ 4 ^ n) (op : Str) : ∀ i, i ≤ ts.length → (keysTo n ts op i).length ≤ 1 + i * 4 ^ n := by
  intro i
  induction i with
  | zero => intro _; simp [keysTo]
  | succ i ih =>
    intro hi
    rw [keysTo_succ, List.length_append, Nat.succ_mul]
    have := ih (by omega)
    have := h _ (getD_mem (show i < ts.length by omega)) (kO op i)
    omega
theorem keys_le (n : Nat) : ∀ (d : PyData) (op : Str), isTr n d = true → (keysN n d op).length ≤ 4 ^ n := by
  induction n with
  | zero => intro d op h; cases h
  | succ n ih =>
    intro d op h
    obtain ⟨w, nm, ts, rfl⟩ := isTr_tup h
    obtain ⟨h3, hall⟩ := isTr_sub h
    rw [keysN]
    split
    · exact Nat.zero_le _
    · have e := keysTo_le (fun t ht op => ih t op (hall t ht)) op _ (Nat.le_refl _)
      have : (subs (w :: nm :: ts)).length * 4 ^ n ≤ 3 * 4 ^ n := Nat.mul_le_mul_right _ h3
      have h4 : 0 < 4 ^ n := Nat.pow_pos (by decide)
      show (keysTo n (subs (w :: nm :: ts)) op _).length ≤ _
      rw [Nat.pow_succ]
      omega
theorem pow_small {n : Nat} (h : n ≤ 5) : 4 ^ n ≤ 1024 := Nat.le_trans (Nat.pow_le_pow_right (by decide) h) (by decide)
theorem len_app (a b : Str) : (a ++ b).length = a.length + b.length := by
  show (a.cps ++ b.cps).size = _
  rw [Array.size_append]
  rfl
end Tr
set_option maxHeartbeats 4000000
/-! Names, digits, trees, as the law looks at them; plain -/
namespace Tr
open PySem Lf
def inz (c : Nat) : Bool := decide (97 ≤ c) && decide (c ≤ 122)
theorem letters_list : letters.cps.toList = List.range' 97 26 := by decide +kernel
theorem mem_letters (c : Nat) : decide (c ∈ letters.cps.toList) = inz c := by
  rw [letters_list]
  unfold inz
  rw [← Bool.decide_and, decide_eq_decide, List.mem_range']
  constructor
  · rintro ⟨i, h, rfl⟩
    omega
  · intro h
    exact ⟨c - 97, by omega, by omega⟩
theorem lets_empty {α : Type} (x : Str) (f : Nat → α) : lets x = ((x.cps.toList.filter fun c => !inz c).map f).isEmpty := by
  unfold lets
  generalize x.cps.toList = l
  induction l with
  | nil => rfl
  | cons c l ih =>
    rw [List.all_cons, ih, mem_letters]
    cases e : inz c with
    | true => rw [List.filter_cons_of_neg (by rw [e]; decide)]; rfl
    | false => rw [List.filter_cons_of_pos (by rw [e]; rfl)]; rfl
theorem sg_lt (a b : Nat) : decide (([a] : List Nat) < [b]) = decide (a < b) := by
  rw [decide_eq_decide]
  constructor
  · intro h
    cases h with
    | rel h => exact h
    | cons h => cases h
  · intro h
    exact .rel h
theorem len_digits (n k : Nat) (h : 0 < k) : (Str.ofString (toString ((n : Nat) : Int))).length ≤ k ↔ n < 10 ^ k := by
  have e : (Str.ofString (toString ((n : Nat) : Int))).length = n.repr.length := by
    rw [PyProof.Rows.ofString_len]
    rfl
  rw [e]
  exact Nat.length_repr_le_iff h
theorem len_abs (i : Int) : decide (((Str.ofString (toString (if i < 0 then -i else i))).length : Int) ≤ 30) = isIn (.int i) := by
  have e : (if i < 0 then -i else i) = ((i.natAbs : Nat) : Int) := by split <;> omega
  rw [e]
  show _ = (decide (-lim < i) && decide (i < lim))
  rw [← Bool.decide_and, decide_eq_decide]
  have h := len_digits i.natAbs 30 (by decide)
  have l : (lim : Int) = ((10 ^ 30 : Nat) : Int) := by decide +kernel
  rw [l]
  have : ((Str.ofString (toString ((i.natAbs : Nat) : Int))).length : Int) ≤ 30 ↔ (Str.ofString (toString ((i.natAbs : Nat) : Int))).length ≤ 30 := by omega
  rw [this, h]
  generalize (10 ^ 30 : Nat) = N
  omega
theorem len_big {i : Int} (h : i.natAbs.log2 < 1920) : (Str.ofString (toString ((i.natAbs : Nat) : Int))).length ≤ 1000 := by
  refine (len_digits i.natAbs 1000 (by decide)).mpr ?_
  have h1 : i.natAbs < 2 ^ 1920 := by
    by_cases c : i.natAbs = 0
    · rw [c]; exact Nat.two_pow_pos _
    · exact (Nat.log2_lt c).mp h
  exact Nat.lt_of_lt_of_le h1 (by decide +kernel)
def core (j : Nat) (w : PyData) (ts : List PyData) : Bool :=
  if ts.length = 1 ∧ isS "at" w = true then within 0 3 (ts.getD 0 .none)
  else if ts.length = 2 ∧ isS "load" w = true then (isIn (ts.getD 0 .none) && isIn (ts.getD 1 .none))
  else if isS "op" w = true then (decide (ts.length ≤ 3) && ts.all fun t => isTr j t)
  else false
theorem isTr_core (j : Nat) (w nm : PyData) (ts : List PyData) : isTr (j + 1) (.tuple (w :: nm :: ts)) = (isNm nm && core j w ts) := by
  rw [isTr_cons]
  unfold core
  split
  · rfl
  · split
    · rfl
    · split
      · rfl
      · rw [Bool.and_false]
theorem core_at (j : Nat) (ts : List PyData) : core j (.str "at") ts = (decide (ts.length = 1) && within 0 3 (ts.getD 0 .none)) := by
  unfold core
  by_cases c : ts.length = 1
  · rw [if_pos ⟨c, by decide⟩, decide_eq_true c]; rfl
  · rw [if_neg (fun z => c z.1), if_neg (fun z => absurd z.2 (by decide)), if_neg (by decide), decide_eq_false c]; rfl
theorem core_load (j : Nat) (ts : List PyData) : core j (.str "load") ts = (decide (ts.length = 2) && (isIn (ts.getD 0 .none) && isIn (ts.getD 1 .none))) := by
  unfold core
  rw [if_neg (fun z => absurd z.2 (by decide))]
  by_cases c : ts.length = 2
  · rw [if_pos ⟨c, by decide⟩, decide_eq_true c]; rfl
  · rw [if_neg (fun z => c z.1), if_neg (by decide), decide_eq_false c]; rfl
theorem core_op (j : Nat) (ts : List PyData) : core j (.str "op") ts = (decide (ts.length ≤ 3) && ts.all fun t => isTr j t) := by
  unfold core
  rw [if_neg (fun z => absurd z.2 (by decide)), if_neg (fun z => absurd z.2 (by decide)), if_pos (by decide)]
theorem core_no {j : Nat} {w : PyData} {ts : List PyData} (h1 : isS "at" w = false) (h2 : isS "load" w = false) (h3 : isS "op" w = false) : core j w ts = false := by
  unfold core
  rw [if_neg (fun z => by rw [h1] at z; cases z.2), if_neg (fun z => by rw [h2] at z; cases z.2), if_neg (by rw [h3]; decide)]
theorem all_empty {α : Type} (l : List α) (p : α → Bool) : l.all p = ((l.filter fun t => !p t).map id).isEmpty := by
  induction l with
  | nil => rfl
  | cons c l ih =>
    rw [List.all_cons, ih]
    cases e : p c with
    | true => rw [List.filter_cons_of_neg (by rw [e]; decide)]; rfl
    | false => rw [List.filter_cons_of_pos (by rw [e]; rfl)]; rfl
theorem showable_mem {ds : List PyData} (h : PyData.showableAll ds = true) : ∀ d ∈ ds, d.showable = true := by
  induction ds with
  | nil => intro d hd; cases hd
  | cons a t ih =>
    rw [PyData.showableAll, Bool.and_eq_true] at h
    intro d hd
    rcases List.mem_cons.mp hd with rfl | hd
    · exact h.1
    · exact ih h.2 d hd
theorem showable_all {ds : List PyData} (h : ∀ d ∈ ds, d.showable = true) : PyData.showableAll ds = true := by
  induction ds with
  | nil => rfl
  | cons a t ih =>
    rw [PyData.showableAll, Bool.and_eq_true]
    exact ⟨h a (List.mem_cons_self ..), ih fun d hd => h d (List.mem_cons_of_mem _ hd)⟩
end Tr
set_option maxHeartbeats 4000000
/-! Shapes, plain -/
namespace Tr
open PySem Lf
/-- the shape of a tree, of at most n levels -/
def isTs : Nat → PyData → Bool
  | 0, _ => false
  | n + 1, .tuple ds => match ds with
    | w :: r => if (isS "hole" w || isS "load" w) = true then r.isEmpty
      else if isS "op" w = true then (decide (1 ≤ r.length) && decide (r.length ≤ 4)) && (isNm (r.getD 0 .none) && (r.drop 1).all fun t => isTs n t) else false
    | [] => false
  | _ + 1, _ => false
theorem isTs_cons (n : Nat) (w : PyData) (r : List PyData) : isTs (n + 1) (.tuple (w :: r)) = (if (isS "hole" w || isS "load" w) = true then r.isEmpty
      else if isS "op" w = true then (decide (1 ≤ r.length) && decide (r.length ≤ 4)) && (isNm (r.getD 0 .none) && (r.drop 1).all fun t => isTs n t) else false) := by rw [isTs]
/-- what stands below -/
def bel : List PyData → List PyData
  | w :: r => if isS "store" w = true then r else if isS "op" w = true then r.drop 1 else []
  | [] => []
def wks : Nat → PyData → Bool
  | n + 1, .tuple ds => match ds with
    | w :: r => decide ((bel (w :: r)).length ≤ 4) && (bel (w :: r)).all fun t => wks n t
    | [] => false
  | _, _ => false
def wkg : Nat → PyData → Int
  | n + 1, .tuple ds => (if isS "hole" (ds.getD 0 .none) = true then 0 else 1) + ((bel ds).map fun t => wkg n t).sum
  | _, _ => 0
theorem ts_store {w : PyData} (h : (isS "hole" w || isS "load" w) = true ∨ isS "op" w = true) : isS "store" w = false := by
  rcases h with h | h
  · rcases Bool.or_eq_true_iff.mp h with h | h <;> (cases isS_eq h; decide)
  · cases isS_eq h; decide
theorem wks_ts : ∀ (n : Nat) (d : PyData), isTs n d = true → wks n d = true := by
  intro n
  induction n with
  | zero => intro d h; cases h
  | succ n ih =>
    intro d h
    cases d with
    | tuple ds =>
      cases ds with
      | nil => cases h
      | cons w r =>
        rw [isTs_cons] at h
        rw [wks]
        show (decide ((bel (w :: r)).length ≤ 4) && (bel (w :: r)).all fun t => wks n t) = true
        by_cases c : (isS "hole" w || isS "load" w) = true
        · have e : bel (w :: r) = [] := by
            unfold bel; dsimp only
            rw [ts_store (.inl c), if_neg (by decide)]
            rw [if_neg]
            intro z
            cases isS_eq z
            cases c
          rw [e]
          rfl
        · rw [if_neg c] at h
          by_cases c2 : isS "op" w = true
          · rw [if_pos c2] at h
            have e : bel (w :: r) = r.drop 1 := by
              unfold bel; dsimp only
              rw [ts_store (.inr c2), if_neg (by decide), if_pos c2]
            rw [e]
            simp only [Bool.and_eq_true, decide_eq_true_eq, List.all_eq_true] at h ⊢
            refine ⟨by rw [List.length_drop]; omega, fun t ht => ih t (h.2.2 t ht)⟩
          · rw [if_neg c2] at h
            cases h
    | _ => cases h
theorem wks_cons {n : Nat} {w : PyData} {r : List PyData} (h : wks (n + 1) (.tuple (w :: r)) = true) : (bel (w :: r)).length ≤ 4 ∧ ∀ t ∈ bel (w :: r), wks n t = true := by
  rw [wks] at h
  simp only [Bool.and_eq_true, decide_eq_true_eq, List.all_eq_true] at h
  exact h
theorem wks_tup {n : Nat} {d : PyData} (h : wks n d = true) : ∃ w r, d = .tuple (w :: r) := by
  cases n with
  | zero => cases h
  | succ n =>
    cases d with
    | tuple ds =>
      cases ds with
      | nil => cases h
      | cons w r => exact ⟨w, r, rfl⟩
    | _ => cases h
/-- a shape -/
def isSh : PyData → Bool
  | .tuple ds => if ds.length = 2 ∧ isS "store" (ds.getD 0 .none) = true then isTs 4 (ds.getD 1 .none) && decide (wkg 5 (.tuple ds) ≤ 4) else isTs 5 (.tuple ds) && decide (wkg 5 (.tuple ds) ≤ 4)
  | _ => false
end Tr
set_option maxHeartbeats 4000000
/-! l == [], l != [] of a list of anything; ** of a great int; chains of texts; t * n -/
namespace L2
open PySem PySem.Spec PyProof.Rows Lf
section
variable {X : Cx}
def rEqEL (K : PySem.W.Frag) : R2 := fun x y H Q => ∃ a b xs, x = .ref a ∧ y = .ref b ∧ SqL K H a xs ∧ SqL K H b [] ∧ Q (.bl (xs.isEmpty)) H
def rNeEL (K : PySem.W.Frag) : R2 := fun x y H Q => ∃ a b xs, x = .ref a ∧ y = .ref b ∧ SqL K H a xs ∧ SqL K H b [] ∧ Q (.bl (!xs.isEmpty)) H
theorem op_eqEL (hu : X.A.units < cLine) : OpR X (compareOp .Eq) (rEqEL X.K) := by
  intro pins s σ H x y v u Q I rx ry h
  obtain ⟨a, b, xs, rfl, rfl, ha, hb, q⟩ := h
  cases rx
  cases ry
  obtain ⟨its, rv, pl, _⟩ := I.list ha
  obtain ⟨its2, rv2, pl2, _⟩ := I.list hb
  cases rv2
  cases rv with
  | nil => exact SeqAt.RcAt.lists (e := fun _ => true) pl.isList pl2.isList rfl hu (fun j h1 h2 => absurd h2 (by simp)) X.prog X.w _ _ ⟨.bl true, H, I, rfl, q⟩
  | cons r rr => exact SeqAt.RcAt.lists_lengths pl.isList pl2.isList (by simp) hu X.prog X.w _ _ ⟨.bl false, H, I, rfl, q⟩
theorem op_neEL (hu : X.A.units < cLine) : OpR X (compareOp .NotEq) (rNeEL X.K) := by
  intro pins s σ H x y v u Q I rx ry h
  obtain ⟨a, b, xs, rfl, rfl, ha, hb, q⟩ := h
  cases rx
  cases ry
  obtain ⟨its, rv, pl, _⟩ := I.list ha
  obtain ⟨its2, rv2, pl2, _⟩ := I.list hb
  cases rv2
  cases rv with
  | nil => exact SeqAt.RcNeAt.lists (e := fun _ => true) pl.isList pl2.isList rfl hu (fun j h1 h2 => absurd h2 (by simp)) X.prog X.w _ _ ⟨.bl false, H, I, rfl, q⟩
  | cons r rr => exact SeqAt.RcNeAt.lists_lengths pl.isList pl2.isList (by simp) hu X.prog X.w _ _ ⟨.bl true, H, I, rfl, q⟩
def CPowX (i j : Int) : Prop := 0 ≤ j ∧ (Builtin.Int.intBits i : Int) * j ≤ 2 ^ 27
theorem op_powX : OpR X (binaryOp .Pow) (rI CPowX fun i j => .int (i ^ j.toNat)) := opI fun _ _ _ _ _ _ _ hc q => PyProof.Rows.pow_int hc.1 hc.2 q
def rLeS : R2 := fun x y H Q => ∃ i j : Str, x = .str i ∧ y = .str j ∧ Q (.bl (!decide (j.cps.toList < i.cps.toList))) H
theorem op_leS : OpR X (compareOp .LtE) rLeS := op_le_str
end
end L2
namespace Lf
open PySem L2 Evl
section
variable {K : PySem.W.Frag} {σ : L2.St} {G : Hp} {ta tb tc te : TE} {ds : List PyData} {d : PyData}
theorem ev_eqEL (ha : EvD ta σ G (.list ds)) : Ev (tOp (rEqEL K) ta (tLst tNil)) σ G (.bl ds.isEmpty) := fun H1 x Q q => ha G H1 (Ex.refl _) x _ fun v G2 H2 r hd => ⟨by decide, fun p hp => by
  obtain ⟨a, xs, rfl, e, hs⟩ := hd.lst_
  have x3 : Ex H2 (upd H2 p (.lst [])) := Ex.new hp
  refine ⟨a, p, xs, rfl, rfl, SqL.of (x3 _ _ (r.s _ _ e)), SqL.of upd_same, ?_⟩
  have : xs.isEmpty = ds.isEmpty := by cases hs <;> rfl
  rw [this]
  exact q _ (r.h.trans x3)⟩
theorem ev_neEL (ha : EvD ta σ G (.list ds)) : Ev (tOp (rNeEL K) ta (tLst tNil)) σ G (.bl (!ds.isEmpty)) := fun H1 x Q q => ha G H1 (Ex.refl _) x _ fun v G2 H2 r hd => ⟨by decide, fun p hp => by
  obtain ⟨a, xs, rfl, e, hs⟩ := hd.lst_
  have x3 : Ex H2 (upd H2 p (.lst [])) := Ex.new hp
  refine ⟨a, p, xs, rfl, rfl, SqL.of (x3 _ _ (r.s _ _ e)), SqL.of upd_same, ?_⟩
  have : xs.isEmpty = ds.isEmpty := by cases hs <;> rfl
  rw [this]
  exact q _ (r.h.trans x3)⟩
/-- a <= b <= c of texts -/
theorem ev_chainS {a b c : Str} (ha : Ev ta σ G (.str a)) (hb : Ev tb σ G (.str b)) (hc : Ev tc σ G (.str c)) : Ev (tChain rLeS rLeS ta tb tc) σ G (.bl (!decide (b.cps.toList < a.cps.toList) && !decide (c.cps.toList < b.cps.toList))) := fun H1 x Q q =>
  ha H1 x _ fun H2 x2 => hb H2 (x.trans x2) _ fun H3 x3 => ⟨a, b, rfl, rfl, _, rfl, by
    have q3 : ∀ H4, Ex H3 H4 → Q (.bl (!decide (b.cps.toList < a.cps.toList) && !decide (c.cps.toList < b.cps.toList))) H4 := fun H4 x4 => q H4 ((x2.trans x3).trans x4)
    generalize (!decide (b.cps.toList < a.cps.toList)) = fb at *
    cases fb with
    | false => rw [if_neg Bool.false_ne_true]; exact q3 H3 (Ex.refl _)
    | true => rw [if_pos rfl]; exact hc H3 ((x.trans x2).trans x3) _ fun H4 x4 => ⟨b, c, rfl, rfl, q3 H4 x4⟩⟩
/-- a + b, a * n of lists; t * n -/
theorem evd_catL {es : List PyData} (ha : EvD ta σ G (.list ds)) (hb : EvD tb σ G (.list es)) (hl : ds.length + es.length ≤ 100000) : EvD (tOp rCat ta tb) σ G (.list (ds ++ es)) := fun G1 H1 x s Q q =>
  ha G1 H1 x s _ fun v G2 H2 r hd => hb G2 H2 (x.trans r.g) r.s _ fun w G3 H3 r2 he => by
    obtain ⟨a, xs, rfl, e1, h1⟩ := (hd.up r2.g).lst_
    obtain ⟨b, ys, rfl, e2, h2⟩ := he.lst_
    have r3 := r.trans r2
    refine ⟨a, b, xs, ys, rfl, rfl, r3.s _ _ e1, r3.s _ _ e2, by rw [h1.len, h2.len]; exact sz_of hl, fun p hp => ?_⟩
    have n := Gr.new (o := .lst (xs ++ ys)) r3.s hp rfl
    exact q (.ref p) _ _ (r3.trans n) (.lst upd_same ((h1.app h2).up n.g))
theorem DaAll.rep {H : Hp} {vs : List V} (h : DaAll H vs ds) : ∀ n : Nat, DaAll H (List.replicate n vs).flatten (List.replicate n ds).flatten
  | 0 => .nil
  | n + 1 => by
    rw [List.replicate_succ, List.replicate_succ, List.flatten_cons, List.flatten_cons]
    exact h.app (DaAll.rep h n)
theorem evd_repL {n : Int} (ha : EvD ta σ G (.list ds)) (hb : Ev tb σ G (.int n)) (h0 : 0 ≤ n) (h1 : n ≤ 1000) (hl : ds.length ≤ 100) : EvD (tOp rRep ta tb) σ G (.list (List.replicate n.toNat ds).flatten) := fun G1 H1 x s Q q =>
  ha G1 H1 x s _ fun v G2 H2 r hd => hb H2 ((x.trans r.g).trans r.s) _ fun H3 x3 => by
    obtain ⟨a, xs, rfl, e1, h2⟩ := hd.lst_
    have r3 := r.trans (Gr.keep r.s x3)
    refine ⟨a, n, xs, rfl, rfl, r3.s _ _ e1, by omega, by omega, ?_, fun p hp => ?_⟩
    · rw [h2.len]
      exact Nat.le_trans (Nat.mul_le_mul hl (show n.toNat ≤ 1000 by omega)) (by decide)
    · have m := Gr.new (o := .lst (List.replicate n.toNat xs).flatten) r3.s hp rfl
      exact q (.ref p) _ _ (r3.trans m) (.lst upd_same ((h2.rep _).up m.g))
theorem evd_repT {n : Int} (ha : EvD ta σ G (.tuple ds)) (hb : Ev tb σ G (.int n)) (h0 : 2 ≤ n) (h1 : n ≤ 1000) (hl : ds.length ≤ 1000) (hn : ds ≠ []) : EvD (tOp (rRepT K) ta tb) σ G (.tuple (List.replicate n.toNat ds).flatten) := fun G1 H1 x s Q q =>
  ha G1 H1 x s _ fun v G2 H2 r hd => hb H2 ((x.trans r.g).trans r.s) _ fun H3 x3 => by
    obtain ⟨a, xs, rfl, e1, h2⟩ := hd.tup_
    have r3 := r.trans (Gr.keep r.s x3)
    refine ⟨a, n, xs, rfl, rfl, SqT.of (r3.s _ _ e1), fun z => ?_, h0, h1, by rw [h2.len]; exact hl, fun p hp => ?_⟩
    · subst z
      cases h2
      exact hn rfl
    · have m := Gr.new (o := .tup (List.replicate n.toNat xs).flatten) r3.s hp rfl
      exact q (.ref p) _ _ (r3.trans m) (.tup upd_same ((h2.rep _).up m.g))
end
end Lf
set_option maxHeartbeats 4000000
/-! What is drawn: an expression that turns the wheel at L (a list that the view does not know) and evaluates to some data of which P holds -/
namespace Lf
open PySem L2 Evl
def ExB (L : Addr) (H H' : Hp) : Prop := ∀ a o, a ≠ L → H a = some o → H' a = some o
section
variable {Lm : List V → Prop} {L : Addr} {G H G1 H1 G2 H2 : Hp}
theorem ExB.refl : ExB L H H := fun _ _ _ h => h
theorem ExB.trans (a : ExB L H H1) (b : ExB L H1 H2) : ExB L H H2 := fun x o n h => b x o n (a x o n h)
theorem ExB.of (x : Ex H H1) : ExB L H H1 := fun a o _ h => x a o h
end
/-- the wheel at L, behind the view -/
structure At (Lm : List V → Prop) (L : Addr) (G H : Hp) : Prop where
  s : Ex G H
  f : G L = none
  l : ∃ xs, H L = some (.lst xs) ∧ Lm xs
structure GrB (Lm : List V → Prop) (L : Addr) (G H G' H' : Hp) : Prop where
  h : ExB L H H'
  g : Ex G G'
  n : ∀ a, H a ≠ none → G a = none → G' a = none
  t : ∀ a o, G' a = some o → G a = some o ∨ dataO o = true
  w : At Lm L G' H'
section
variable {Lm : List V → Prop} {L : Addr} {G H G1 H1 G2 H2 : Hp}
theorem At.up (w : At Lm L G H) (x : Ex H H1) : At Lm L G H1 := ⟨w.s.trans x, w.f, let ⟨xs, h, m⟩ := w.l; ⟨xs, x _ _ h, m⟩⟩
theorem At.some_ (w : At Lm L G H) : H L ≠ none := by
  obtain ⟨xs, h, _⟩ := w.l
  rw [h]
  exact fun z => by cases z
theorem GrB.of (w : At Lm L G H) (r : Gr G H G1 H1) : GrB Lm L G H G1 H1 := ⟨ExB.of r.h, r.g, r.n, r.t, r.s, r.n L w.some_ w.f, let ⟨xs, h, m⟩ := w.l; ⟨xs, r.h _ _ h, m⟩⟩
theorem GrB.refl (w : At Lm L G H) : GrB Lm L G H G H := GrB.of w (Gr.refl w.s)
theorem GrB.keep (w : At Lm L G H) (x : Ex H H1) : GrB Lm L G H G H1 := GrB.of w (Gr.keep w.s x)
theorem GrB.s (r : GrB Lm L G H G1 H1) : Ex G1 H1 := r.w.s
theorem GrB.trans (a : GrB Lm L G H G1 H1) (b : GrB Lm L G1 H1 G2 H2) : GrB Lm L G H G2 H2 := by
  refine ⟨a.h.trans b.h, a.g.trans b.g, fun c h1 h2 => b.n c (fun z => ?_) (a.n c h1 h2), fun c o h => ?_, b.w⟩
  · by_cases e : c = L
    · subst e
      exact a.w.some_ z
    · cases e2 : H c with
      | none => exact h1 e2
      | some o => rw [a.h _ _ e e2] at z; cases z
  · rcases b.t c o h with h | h
    · exact a.t c o h
    · exact .inr h
theorem GrB.gr (a : GrB Lm L G H G1 H1) (b : Gr G1 H1 G2 H2) : GrB Lm L G H G2 H2 := a.trans (GrB.of a.w b)
/-- the wheel turns -/
theorem GrB.turn (w : At Lm L G H) {xs : List V} (m : Lm xs) : GrB Lm L G H G (upd H L (.lst xs)) := by
  refine ⟨fun a o n h => by rw [upd_ne n]; exact h, Ex.refl _, fun _ _ h => h, fun _ _ h => .inl h, Ex.mut w.s w.f, w.f, xs, upd_same, m⟩
/-- an object that the view does not know may change -/
theorem GrB.mut {p : Addr} {o : HO} (r : GrB Lm L G H G1 H1) (hp : G p = none) (hh : H p ≠ none) (ne : p ≠ L) : At Lm L G1 (upd H1 p o) := by
  refine ⟨fun a u h => ?_, r.w.f, ?_⟩
  · rw [upd_ne (fun e => by rw [e, r.n p hh hp] at h; cases h)]
    exact r.s _ _ h
  · obtain ⟨xs, h, m⟩ := r.w.l
    exact ⟨xs, by rw [upd_ne (Ne.symm ne)]; exact h, m⟩
end
def Dr (Lm : List V → Prop) (L : Addr) (te : TE) (σ : L2.St) (G : Hp) (P : PyData → Prop) : Prop := ∀ G1 H1, Ex G G1 → At Lm L G1 H1 → ∀ Q : VK, (∀ v d G2 H2, GrB Lm L G1 H1 G2 H2 → P d → Da G2 v d → Q v H2) → te σ H1 Q
def DrS (Lm : List V → Prop) (L : Addr) (ta : TA) (σ : L2.St) (G : Hp) (R : List PyData → Prop) : Prop := ∀ G1 H1, Ex G G1 → At Lm L G1 H1 → ∀ Q : List V → Hp → Prop, (∀ vs ds G2 H2, GrB Lm L G1 H1 G2 H2 → R ds → DaAll G2 vs ds → Q vs H2) → ta σ H1 Q
/-- a test that comes out one way or the other -/
def DrT (Lm : List V → Prop) (L : Addr) (t : TT) (σ : L2.St) (G : Hp) (B : Bool → Prop) : Prop := ∀ G1 H1, Ex G G1 → At Lm L G1 H1 → ∀ Q : Bool → Hp → Prop, (∀ b G2 H2, GrB Lm L G1 H1 G2 H2 → B b → Q b H2) → t σ H1 Q
def isI (P : Int → Prop) (d : PyData) : Prop := ∃ i, d = .int i ∧ P i
def isB (P : Bool → Prop) (d : PyData) : Prop := ∃ i, d = .bool i ∧ P i
section
variable {K : PySem.W.Frag} {Lm : List V → Prop} {L : Addr} {σ : L2.St} {G G' H : Hp} {ta tb te tl : TE} {t u : TT} {tA tr : TA} {d e : PyData} {ds es : List PyData} {v : V} {P P' : PyData → Prop} {R R' : List PyData → Prop} {B : Bool → Prop}
theorem Dr.mono (x : Ex G G') (h : Dr Lm L te σ G P) : Dr Lm L te σ G' P := fun G1 H1 a w Q q => h G1 H1 (x.trans a) w Q q
theorem Dr.imp (h : Dr Lm L te σ G P) (i : ∀ d, P d → P' d) : Dr Lm L te σ G P' := fun G1 H1 a w Q q => h G1 H1 a w Q fun v d G2 H2 r p hd => q v d G2 H2 r (i d p) hd
theorem DrS.imp (h : DrS Lm L tA σ G R) (i : ∀ d, R d → R' d) : DrS Lm L tA σ G R' := fun G1 H1 a w Q q => h G1 H1 a w Q fun v d G2 H2 r p hd => q v d G2 H2 r (i d p) hd
theorem Dr.go (h : Dr Lm L te σ G P) (w : At Lm L G H) {Q : VK} (k : ∀ v d G2 H2, GrB Lm L G H G2 H2 → P d → Da G2 v d → Q v H2) : te σ H Q := h G H (Ex.refl _) w Q k
theorem dr_of (h : EvD te σ G d) : Dr Lm L te σ G (fun z => z = d) := fun G1 H1 a w Q q => h G1 H1 a w.s Q fun v G2 H2 r hd => q v d G2 H2 (GrB.of w r) rfl hd
theorem dr_int {i : Int} (h : Ev te σ G (.int i)) : Dr Lm L te σ G (isI fun z => z = i) := (dr_of (evd_int h)).imp fun d e => ⟨i, e, rfl⟩
theorem drs_of (h : EvDs tA σ G ds) : DrS Lm L tA σ G (fun z => z = ds) := fun G1 H1 a w Q q => h G1 H1 a w.s Q fun v G2 H2 r hd => q v ds G2 H2 (GrB.of w r) rfl hd
theorem drs_nil : DrS Lm L tNil σ G (fun ds => ds = []) := fun G1 H1 _ w Q q => q [] [] G1 H1 (GrB.refl w) rfl .nil
theorem drs_cons (h : Dr Lm L te σ G P) (hr : DrS Lm L tr σ G R) : DrS Lm L (tCons te tr) σ G (fun ds => ∃ d r, ds = d :: r ∧ P d ∧ R r) := fun G1 H1 x w Q q => h G1 H1 x w _ fun v d G2 H2 r p hd => hr G2 H2 (x.trans r.g) r.w _ fun vs ds G3 H3 r2 p2 hds => q (v :: vs) (d :: ds) G3 H3 (r.trans r2) ⟨d, ds, rfl, p, p2⟩ (.cons (hd.up r2.g) hds)
theorem dr_tup (h : DrS Lm L tA σ G R) (hl : ∀ ds, R ds → ds.length ≤ 100000) : Dr Lm L (tTup tA) σ G (fun d => ∃ ds, d = .tuple ds ∧ R ds) := fun G1 H1 x w Q q => h G1 H1 x w _ fun vs ds G2 H2 r p hds =>
  ⟨by rw [hds.len]; exact sz_of (hl _ p), fun a ha => have n := Gr.new (o := .tup vs) r.s ha rfl; q (.ref a) _ _ _ (r.gr n) ⟨ds, rfl, p⟩ (.tup upd_same (hds.up n.g))⟩
theorem dr_lst (h : DrS Lm L tA σ G R) (hl : ∀ ds, R ds → ds.length ≤ 100000) : Dr Lm L (tLst tA) σ G (fun d => ∃ ds, d = .list ds ∧ R ds) := fun G1 H1 x w Q q => h G1 H1 x w _ fun vs ds G2 H2 r p hds =>
  ⟨by rw [hds.len]; exact sz_of (hl _ p), fun a ha => have n := Gr.new (o := .lst vs) r.s ha rfl; q (.ref a) _ _ _ (r.gr n) ⟨ds, rfl, p⟩ (.lst upd_same (hds.up n.g))⟩
/-- l[i], i drawn -/
theorem dr_ixL (ha : Dr Lm L ta σ G (fun z => z = .list ds)) {B : Int → Prop} (hb : Dr Lm L tb σ G (isI B)) (hi : ∀ i, B i → 0 ≤ i ∧ i < ds.length) : Dr Lm L (tOp (rIxL K) ta tb) σ G (fun d => d ∈ ds) := fun G1 H1 x w Q q => ha G1 H1 x w _ fun v d G2 H2 r e hd => hb G2 H2 (x.trans r.g) r.w _ fun v2 d2 G3 H3 r3 ⟨i, ei, hB⟩ hd2 => by
  subst e
  subst ei
  obtain ⟨a, xs, rfl, e, hs⟩ := (hd.up r3.g).lst_
  cases hd2.int_
  obtain ⟨h0, h1⟩ := hi i hB
  have hn : i = ((i.toNat : Nat) : Int) := by omega
  have hd3 : ds[i.toNat]? = some ds[i.toNat] := List.getElem?_eq_getElem (by omega)
  obtain ⟨w3, hw, hdw⟩ := hs.get hd3
  refine ⟨a, xs, i, w3, rfl, rfl, SqL.of (r3.s _ _ e), ?_, q w3 _ G3 H3 (r.trans r3) (List.mem_of_getElem? hd3) hdw⟩
  rw [hn]
  exact atI_nat hw
/-- a one-place operation on ints, a two-place one -/
theorem dr_opI {f : Int → Int → Int} {A B : Int → Prop} (ha : Dr Lm L ta σ G (isI A)) (hb : Dr Lm L tb σ G (isI B)) : Dr Lm L (tOp (rI0 fun i j => .int (f i j)) ta tb) σ G (isI fun k => ∃ i j, A i ∧ B j ∧ k = f i j) := fun G1 H1 x w Q q => ha G1 H1 x w _ fun v d G2 H2 r ⟨i, ei, hA⟩ hd => hb G2 H2 (x.trans r.g) r.w _ fun v2 d2 G3 H3 r3 ⟨j, ej, hB⟩ hd2 => by
  subst ei
  subst ej
  cases hd.int_
  cases hd2.int_
  exact ⟨i, j, rfl, rfl, q _ _ G3 H3 (r.trans r3) ⟨_, rfl, i, j, hA, hB, rfl⟩ (.int _)⟩
theorem dr_opC {C : Int → Int → Prop} {f : Int → Int → Int} {A B : Int → Prop} (ha : Dr Lm L ta σ G (isI A)) (hb : Dr Lm L tb σ G (isI B)) (hc : ∀ i j, A i → B j → C i j) : Dr Lm L (tOp (rI C fun i j => .int (f i j)) ta tb) σ G (isI fun k => ∃ i j, A i ∧ B j ∧ k = f i j) := fun G1 H1 x w Q q => ha G1 H1 x w _ fun v d G2 H2 r ⟨i, ei, hA⟩ hd => hb G2 H2 (x.trans r.g) r.w _ fun v2 d2 G3 H3 r3 ⟨j, ej, hB⟩ hd2 => by
  subst ei
  subst ej
  cases hd.int_
  cases hd2.int_
  exact ⟨i, j, rfl, rfl, hc i j hA hB, q _ _ G3 H3 (r.trans r3) ⟨_, rfl, i, j, hA, hB, rfl⟩ (.int _)⟩
theorem dr_cmpI {f : Int → Int → Bool} {A B : Int → Prop} (ha : Dr Lm L ta σ G (isI A)) (hb : Dr Lm L tb σ G (isI B)) : Dr Lm L (tOp (rI0 fun i j => .bl (f i j)) ta tb) σ G (isB fun k => ∃ i j, A i ∧ B j ∧ k = f i j) := fun G1 H1 x w Q q => ha G1 H1 x w _ fun v d G2 H2 r ⟨i, ei, hA⟩ hd => hb G2 H2 (x.trans r.g) r.w _ fun v2 d2 G3 H3 r3 ⟨j, ej, hB⟩ hd2 => by
  subst ei
  subst ej
  cases hd.int_
  cases hd2.int_
  exact ⟨i, j, rfl, rfl, q _ _ G3 H3 (r.trans r3) ⟨_, rfl, i, j, hA, hB, rfl⟩ (.bl _)⟩
theorem dr_eqI {A B : Int → Prop} (ha : Dr Lm L ta σ G (isI A)) (hb : Dr Lm L tb σ G (isI B)) : Dr Lm L (tOp rEq ta tb) σ G (isB fun k => ∃ i j, A i ∧ B j ∧ k = decide (i = j)) := fun G1 H1 x w Q q => ha G1 H1 x w _ fun v d G2 H2 r ⟨i, ei, hA⟩ hd => hb G2 H2 (x.trans r.g) r.w _ fun v2 d2 G3 H3 r3 ⟨j, ej, hB⟩ hd2 => by
  subst ei
  subst ej
  cases hd.int_
  cases hd2.int_
  refine ⟨rfl, q _ (.bool (decide (i = j))) G3 H3 (r.trans r3) ⟨_, rfl, i, j, hA, hB, rfl⟩ ?_⟩
  have : decide (V.int i = V.int j) = decide (i = j) := by rw [decide_eq_decide]; simp
  rw [this]
  exact .bl _
theorem drt_test (h : Dr Lm L te σ G (isB B)) : DrT Lm L (tTest te) σ G B := fun G1 H1 x w Q q => h G1 H1 x w _ fun v d G2 H2 r ⟨b, e, hb⟩ hd => by
  subst e
  cases hd.bl_
  exact ⟨b, rfl, q b G2 H2 r hb⟩
theorem drt_of {b : Bool} (h : EvT t σ G b) : DrT Lm L t σ G (fun z => z = b) := fun G1 H1 x w Q q => h H1 (x.trans w.s) _ fun H2 x2 => q b G1 H2 (GrB.keep w x2) rfl
theorem DrT.imp {B' : Bool → Prop} (h : DrT Lm L t σ G B) (i : ∀ b, B b → B' b) : DrT Lm L t σ G B' := fun G1 H1 x w Q q => h G1 H1 x w Q fun b G2 H2 r hb => q b G2 H2 r (i b hb)
theorem drt_and {B' : Bool → Prop} (h : DrT Lm L t σ G B) (h2 : B true → DrT Lm L u σ G B') : DrT Lm L (tAnd t u) σ G (fun z => (z = true ∧ B true ∧ B' true) ∨ (z = false ∧ (B false ∨ (B true ∧ B' false)))) := fun G1 H1 x w Q q => h G1 H1 x w _ fun b G2 H2 r hb => by
  cases b with
  | false => exact q false G2 H2 r (.inr ⟨rfl, .inl hb⟩)
  | true =>
    show u σ H2 Q
    refine h2 hb G2 H2 (x.trans r.g) r.w _ fun c G3 H3 r3 hc => ?_
    cases c with
    | true => exact q true G3 H3 (r.trans r3) (.inl ⟨rfl, hb, hc⟩)
    | false => exact q false G3 H3 (r.trans r3) (.inr ⟨rfl, .inr ⟨hb, hc⟩⟩)
theorem drt_or {B' : Bool → Prop} (h : DrT Lm L t σ G B) (h2 : B false → DrT Lm L u σ G B') : DrT Lm L (tOr t u) σ G (fun z => (z = false ∧ B false ∧ B' false) ∨ (z = true ∧ (B true ∨ (B false ∧ B' true)))) := fun G1 H1 x w Q q => h G1 H1 x w _ fun b G2 H2 r hb => by
  cases b with
  | true => exact q true G2 H2 r (.inr ⟨rfl, .inl hb⟩)
  | false =>
    show u σ H2 Q
    refine h2 hb G2 H2 (x.trans r.g) r.w _ fun c G3 H3 r3 hc => ?_
    cases c with
    | false => exact q false G3 H3 (r.trans r3) (.inl ⟨rfl, hb, hc⟩)
    | true => exact q true G3 H3 (r.trans r3) (.inr ⟨rfl, .inr ⟨hb, hc⟩⟩)
theorem drt_not (h : DrT Lm L t σ G B) : DrT Lm L (tNot t) σ G (fun z => B (!z)) := fun G1 H1 x w Q q => h G1 H1 x w _ fun b G2 H2 r hb => q (!b) G2 H2 r (show B (!!b) by rw [Bool.not_not]; exact hb)
theorem dr_if (h : DrT Lm L t σ G B) (h1 : B true → Dr Lm L ta σ G P) (h2 : B false → Dr Lm L tb σ G P) : Dr Lm L (tIf t ta tb) σ G P := fun G1 H1 x w Q q => h G1 H1 x w _ fun b G2 H2 r hb => by
  cases b with
  | true =>
    show ta σ H2 Q
    exact h1 hb G2 H2 (x.trans r.g) r.w Q fun v d G3 H3 r3 p hd => q v d G3 H3 (r.trans r3) p hd
  | false =>
    show tb σ H2 Q
    exact h2 hb G2 H2 (x.trans r.g) r.w Q fun v d G3 H3 r3 p hd => q v d G3 H3 (r.trans r3) p hd
/-- a + b of tuples, tuple(l), list(t) -/
theorem dr_cat (ha : Dr Lm L ta σ G (fun d => ∃ ds, d = .tuple ds ∧ R ds)) (hb : Dr Lm L tb σ G (fun d => ∃ ds, d = .tuple ds ∧ R' ds)) (hl : ∀ ds es, R ds → R' es → ds.length + es.length ≤ 100000) : Dr Lm L (tOp (rCatA K) ta tb) σ G (fun d => ∃ ds es, d = .tuple (ds ++ es) ∧ R ds ∧ R' es) := fun G1 H1 x w Q q =>
  ha G1 H1 x w _ fun v d G2 H2 r ⟨ds, e1, p1⟩ hd => hb G2 H2 (x.trans r.g) r.w _ fun w' d' G3 H3 r2 ⟨es, e2, p2⟩ he => by
    subst e1
    subst e2
    obtain ⟨a, xs, rfl, e1, h1⟩ := (hd.up r2.g).tup_
    obtain ⟨b, ys, rfl, e2, h2⟩ := he.tup_
    have r3 := r.trans r2
    refine ⟨a, b, xs, ys, rfl, rfl, SqT.of (r3.s _ _ e1), SqT.of (r3.s _ _ e2), by rw [h1.len, h2.len]; exact sz_of (hl _ _ p1 p2), fun z => ?_, fun _ z => ?_, fun _ _ p hp => ?_⟩
    · subst z
      cases h1
      exact q _ _ G3 H3 r3 ⟨[], es, rfl, p1, p2⟩ he
    · subst z
      cases h2
      refine q _ _ G3 H3 r3 ⟨ds, [], rfl, p1, p2⟩ ?_
      rw [List.append_nil]
      exact hd.up r2.g
    · have n := Gr.new (o := .tup (xs ++ ys)) r3.s hp rfl
      exact q (.ref p) _ _ _ (r3.gr n) ⟨ds, es, rfl, p1, p2⟩ (.tup upd_same ((h1.app h2).up n.g))
/-- a call of a def that draws -/
def spDr (Lm : List V → Prop) (Pre : List PyData → Prop) (Post : List PyData → PyData → Prop) : Sp := fun vs H Q _ => ∃ L G us ds, vs = .ref L :: us ∧ At Lm L G H ∧ DaAll G us ds ∧ Pre ds ∧ ∀ v d G' H', GrB Lm L G H G' H' → Post ds d → Da G' v d → Q v H'
theorem spDr_len {Pre : List PyData → Prop} {Post : List PyData → PyData → Prop} {n : Nat} (hp : ∀ ds, Pre ds → ds.length = n) {vs : List V} {Q : VK} {E : XK} (h : spDr Lm Pre Post vs H Q E) : vs.length = n + 1 := by
  obtain ⟨L, G, us, ds, rfl, _, h2, h3, _⟩ := h
  rw [List.length_cons, h2.len, hp ds h3]
theorem dr_call {Pre : List PyData → Prop} {Post : List PyData → PyData → Prop} {i : Nat} {E : XK} (hL : σ[i]? = some (some (.ref L))) (h : DrS Lm L tA σ G R) (hp : ∀ ds, R ds → Pre ds) : Dr Lm L (tCallD (spDr Lm Pre Post) E (tCons (tVar i) tA)) σ G (fun d => ∃ ds, R ds ∧ Post ds d) := fun G1 H1 x w Q q =>
  ⟨_, hL, h G1 H1 x w _ fun vs ds G2 H2 r p hds => ⟨L, G2, vs, ds, rfl, r.w, hds, hp ds p, fun v d G3 H3 r3 po hd => q v d G3 H3 (r.trans r3) ⟨ds, p, po⟩ hd⟩⟩
/-- [e for x in range(n)], e drawn -/
theorem dr_lcR {j : Nat} {vs : List Nat} {ta : TA} {n : Int} (h : DrS Lm L ta σ G (fun ds => ds = [.int n])) (hn : 0 ≤ n ∧ n ≤ 10000) (hw : ∀ x, wipe ((wipe σ vs).set j (some x)) vs = wipe σ vs)
    (he : ∀ (i : Nat) G1, Ex G G1 → Dr Lm L te ((wipe σ vs).set j (some (.int (0 + (i : Int))))) G1 P) : Dr Lm L (tLc (iRng1 ta) (gName j) tYes te vs) σ G (fun d => ∃ ds, d = .list ds ∧ (ds.length : Int) = n ∧ ∀ d ∈ ds, P d) := fun G1 H1 x w Q q => h G1 H1 x w _ fun us ds G2 H2 r e hds => by
  subst e
  cases hds with
  | cons h0 t =>
    cases t
    cases h0.int_
    refine ⟨n, rfl, by omega, by omega, fun D hD => ?_⟩
    have gD : G2 D = none := by
      cases e : G2 D with
      | none => rfl
      | some o => rw [r.s _ _ e] at hD; cases hD
    have ne : D ≠ L := fun e => r.w.some_ (by rw [← e]; exact hD)
    refine lc_range (lo := 0) (n := n.toNat) (fun i H' => ∃ G' ys ds, GrB Lm L G2 H2 G' H' ∧ G' D = none ∧ H' D = some (.lst ys) ∧ DaAll G' ys ds ∧ ds.length = i ∧ ∀ d ∈ ds, P d) ⟨G2, [], [], GrB.keep r.w (Ex.new hD), gD, upd_same, .nil, rfl, fun d h => by cases h⟩ ?_ ?_
    · rintro i H' hi ⟨G', ys, ds, r3, e3, e4, h3, hl, hP⟩
      refine ⟨hw _, ?_⟩
      refine he i G' ((x.trans r.g).trans r3.g) G' H' (Ex.refl _) r3.w _ fun v d G4 H4 r4 p hd => ⟨ys, r4.h _ _ ne e4, ?_, ?_⟩
      · rw [h3.len, hl]
        exact Nat.lt_of_lt_of_le (by omega : i < 100000) (by decide)
      · have nD : G4 D = none := r4.n D (by rw [e4]; exact fun z => by cases z) e3
        have r5 := r3.trans r4
        refine ⟨G4, ys ++ [v], ds ++ [d], ⟨fun a o na ha => ?_, r5.g, r5.n, r5.t, Ex.mut r5.s nD, r5.w.f, ?_⟩, nD, upd_same, (h3.up r4.g).app (.cons hd .nil), by rw [List.length_append, hl]; rfl, fun z hz => ?_⟩
        · rw [upd_ne (fun e => by rw [e, hD] at ha; cases ha)]
          exact r5.h _ _ na ha
        · obtain ⟨xs, h, m⟩ := r5.w.l
          exact ⟨xs, by rw [upd_ne (Ne.symm ne)]; exact h, m⟩
        · rcases List.mem_append.mp hz with hz | hz
          · exact hP z hz
          · cases List.mem_singleton.mp hz
            exact p
    · rintro H' ⟨G', ys, ds, r3, e3, e4, h3, hl, hP⟩
      have xx : Ex G' (upd G' D (.lst ys)) := Ex.new e3
      refine q (.ref D) (.list ds) (upd G' D (.lst ys)) H' (r.trans ⟨r3.h, r3.g.trans xx, fun a e1 e2 => ?_, fun a o h => ?_, fun a o h => ?_, ?_, r3.w.l⟩) ⟨ds, rfl, by rw [hl]; omega, hP⟩ (.lst upd_same (h3.up xx))
      · rw [upd_ne (fun e => e1 (by rw [e]; exact hD))]
        exact r3.n a e1 e2
      · by_cases e : a = D
        · subst e
          rw [upd_same] at h
          cases h
          exact .inr rfl
        · rw [upd_ne e] at h
          exact r3.t a o h
      · by_cases e : a = D
        · subst e
          rw [upd_same] at h
          cases h
          exact e4
        · rw [upd_ne e] at h
          exact r3.s _ _ h
      · rw [upd_ne (Ne.symm ne)]
        exact r3.w.f
/-! ### statements -/
variable {D : Ends} {tz tu tw : TS}
theorem q_asgR {i : Nat} (w : At Lm L G H) (h : Dr Lm L te σ G P) (k : ∀ v d G1 H1, GrB Lm L G H G1 H1 → P d → Da G1 v d → tz D (σ.set i (some v)) H1) : tSeq (tAsg te (gName i)) tz D σ H := h.go w k
theorem s_retR (w : At Lm L G H) (h : Dr Lm L te σ G P) (k : ∀ v d G1 H1, GrB Lm L G H G1 H1 → P d → Da G1 v d → D.rt v H1) : tRet te D σ H := h.go w k
theorem q_ifR (w : At Lm L G H) (h : DrT Lm L t σ G B) (h1 : B true → ∀ G1 H1, GrB Lm L G H G1 H1 → tu { D with nx := tz D } σ H1) (h2 : B false → ∀ G1 H1, GrB Lm L G H G1 H1 → tw { D with nx := tz D } σ H1) : tSeq (tIfS t tu tw) tz D σ H := h G H (Ex.refl _) w _ fun b G1 H1 r hb => by
  cases b with
  | true =>
    show tu { D with nx := tz D } σ H1
    exact h1 hb G1 H1 r
  | false =>
    show tw { D with nx := tz D } σ H1
    exact h2 hb G1 H1 r
theorem q_parR {i j : Nat} (w : At Lm L G H) (h : DrS Lm L tA σ G R) (k : ∀ v1 v2 d1 d2 G1 H1, GrB Lm L G H G1 H1 → R [d1, d2] → Da G1 v1 d1 → Da G1 v2 d2 → tz D ((σ.set i (some v1)).set j (some v2)) H1) (hl : ∀ ds, R ds → ds.length = 2) : tSeq (tPar i j tA) tz D σ H := h G H (Ex.refl _) w _ fun vs ds G1 H1 r p hds => by
  match ds, hds, p, hl ds p with
  | [d1, d2], .cons h1 (.cons h2 .nil), p, _ => exact ⟨_, _, rfl, k _ _ d1 d2 G1 H1 r p h1 h2⟩
/-- a, b = e -/
theorem q_unpR {i j : Nat} (w : At Lm L G H) (h : Dr Lm L te σ G P) (hP : ∀ d, P d → ∃ d1 d2, d = .tuple [d1, d2]) (k : ∀ v1 v2 d1 d2 G1 H1, GrB Lm L G H G1 H1 → P (.tuple [d1, d2]) → Da G1 v1 d1 → Da G1 v2 d2 → tz D ((σ.set i (some v1)).set j (some v2)) H1) :
    tSeq (tAsg te (gTup K 2 (gCons (gName i) (gCons (gName j) gNil)))) tz D σ H := h.go w fun v d G1 H1 r p hd => by
  obtain ⟨d1, d2, rfl⟩ := hP d p
  obtain ⟨a, xs, rfl, e, hs⟩ := hd.tup_
  match xs, hs with
  | [v1, v2], .cons h1 (.cons h2 .nil) => exact ⟨a, [v1, v2], rfl, SqT.of (r.s _ _ e), rfl, v1, [v2], rfl, v2, [], rfl, rfl, k v1 v2 d1 d2 G1 H1 r p h1 h2⟩
end
end Lf
namespace L2
open PySem PySem.Spec PyProof.Rows
/-- a promise holds where more room is asked for -/
theorem ok_lvl {P : Program} {w : World} {K : PySem.W.Frag} {mg : Str → Option Value} {base : Heap} {CX : CXT} {k n : Nat} {x : Str} {ps : List Str} {sp : Sp} (D : DefOk P w K mg base CX k x ps sp) (h : k ≤ n) : DefOk P w K mg base CX n x ps sp := by
  obtain ⟨f, fd, hm, hk, hb, F⟩ := D
  exact ⟨f, fd, hm, hk, hb, ⟨F.len, fun A outer s H args us vs Q E hr => F.run A outer s H args us vs Q E (hr.mono h)⟩⟩
end L2
set_option maxHeartbeats 4000000
namespace My
open PySem L2 Lf Evl Tr
abbrev s_is_tree_shape : Stmt := top 29
theorem sc_is_tree_shape : FnScope ["value", "most", "one"] ["value", "most"] (defScope s_is_tree_shape) := ⟨rfl, rfl, rfl, by decide +kernel, rfl, by decide +kernel, by decide +kernel⟩
abbrev s_is_shape : Stmt := top 30
theorem sc_is_shape : FnScope ["value"] ["value"] (defScope s_is_shape) := ⟨rfl, rfl, rfl, by decide +kernel, rfl, by decide +kernel, by decide +kernel⟩
abbrev s_below_in : Stmt := top 31
theorem sc_below_in : FnScope ["shape"] ["shape"] (defScope s_below_in) := ⟨rfl, rfl, rfl, by decide +kernel, rfl, by decide +kernel, by decide +kernel⟩
abbrev s_working : Stmt := top 32
theorem sc_working : FnScope ["shape", "one"] ["shape"] (defScope s_working) := ⟨rfl, rfl, rfl, by decide +kernel, rfl, by decide +kernel, by decide +kernel⟩
section
variable {K : PySem.W.Frag} {σ : L2.St} {G : Hp} {ta tb tc te : TE} {t u : TT} {d : PyData} {ds : List PyData}
theorem ev_eqI {i j : Int} (ha : Ev ta σ G (.int i)) (hb : Ev tb σ G (.int j)) : Ev (tOp rEq ta tb) σ G (.bl (decide (i = j))) := by
  have h := ev_op ha hb (rv_eq (x := V.int i) (y := V.int j) rfl)
  have : decide (V.int i = V.int j) = decide (i = j) := by rw [decide_eq_decide]; simp
  rwa [this] at h
theorem ev_neI {i j : Int} (ha : Ev ta σ G (.int i)) (hb : Ev tb σ G (.int j)) : Ev (tOp rNe ta tb) σ G (.bl (!decide (i = j))) := by
  have h := ev_op ha hb (rv_ne (x := V.int i) (y := V.int j) rfl)
  have : decide (V.int i = V.int j) = decide (i = j) := by rw [decide_eq_decide]; simp
  rwa [this] at h
theorem et_orT (h1 : EvT t σ G true) : EvT (tOr t u) σ G true := et_or (b := false) h1 fun z => by cases z
theorem et_andF (h1 : EvT t σ G false) : EvT (tAnd t u) σ G false := et_and (b := true) h1 fun z => by cases z
theorem ev_is {v w : V} (h : Ev te σ G v) (e : v = w) : Ev te σ G w := e ▸ h
theorem ev_sumD {is : List Int} (h : EvD te σ G (.list (is.map PyData.int))) : Ev (tCB (rSum K) (tCons te tNil)) σ G (.int is.sum) := fun H1 x Q q => h G H1 (Ex.refl _) x _ fun v G2 H2 r hd => by
  obtain ⟨a, xs, rfl, e, hs⟩ := hd.lst_
  cases da_ints hs
  exact ⟨a, is, rfl, SqL.of (r.s _ _ e), q H2 r.h⟩
theorem ev_eqET (ha : EvD ta σ G (.tuple ds)) : Ev (tOp (rEqE K) ta (tTup tNil)) σ G (.bl ds.isEmpty) := fun H1 x Q q => ha G H1 (Ex.refl _) x _ fun v G2 H2 r hd => ⟨by decide, fun p hp => by
  obtain ⟨a, xs, rfl, e, hs⟩ := hd.tup_
  have x3 : Ex H2 (upd H2 p (.tup [])) := Ex.new hp
  refine ⟨a, p, xs, rfl, rfl, SqT.of (x3 _ _ (r.s _ _ e)), SqT.of upd_same, ?_⟩
  have : xs.isEmpty = ds.isEmpty := by cases hs <;> rfl
  rw [this]
  exact q _ (r.h.trans x3)⟩
theorem ev_intB {b : Bool} (h : Ev te σ G (.bl b)) : Ev (tCB (fun xs H Q => (∃ i, xs = [V.int i] ∧ Q (.int i) H) ∨ ∃ k, xs = [V.bl k] ∧ Q (.int (if k then 1 else 0)) H) (tCons te tNil)) σ G (.int (if b then 1 else 0)) := fun H1 x Q q => h H1 x _ fun H2 x2 => .inr ⟨b, rfl, q H2 x2⟩
end
/-! partial promises of one and of two values -/
def spO (f : PyData → Option PyData) : Sp := spF fun ds => match ds with
  | [d] => f d
  | _ => none
theorem spO_len {f : PyData → Option PyData} {vs : List V} {H : Hp} {Q : VK} {E : XK} (h : spO f vs H Q E) : vs.length = 1 := by
  refine spF_len (fun ds d e => ?_) h
  split at e
  · rfl
  · cases e
theorem spO_of {f : PyData → Option PyData} {vs : List V} {H : Hp} {Q : VK} {E : XK} (h : spO f vs H Q E) : ∃ G v d e, vs = [v] ∧ Ex G H ∧ Da G v d ∧ f d = some e ∧ ∀ v' G' H', Gr G H G' H' → Da G' v' e → Q v' H' := by
  obtain ⟨G, ds, d, s, h2, h3, k⟩ := h
  dsimp only at h3
  split at h3
  · cases h2 with
    | cons h t =>
      cases t
      exact ⟨G, _, _, d, rfl, s, h, h3, k⟩
  · cases h3
theorem evd_callO {f : PyData → Option PyData} {σ : L2.St} {G : Hp} {te : TE} {d e : PyData} {E : XK} (h : EvD te σ G d) (hf : f d = some e) : EvD (tCallD (spO f) E (tCons te tNil)) σ G e := evd_call (evd_cons h evd_nil) hf
/-- a judge of data with a number of levels below n -/
def spN (f : Nat → PyData → Bool) (n : Nat) : Sp := spF fun ds => match ds with
  | [d, .int m] => if 0 ≤ m ∧ m < n then some (.bool (f m.toNat d)) else none
  | _ => none
theorem spN_len {f : Nat → PyData → Bool} {n : Nat} {vs : List V} {H : Hp} {Q : VK} {E : XK} (h : spN f n vs H Q E) : vs.length = 2 := by
  refine spF_len (fun ds d e => ?_) h
  split at e
  · rfl
  · cases e
theorem spN_of {f : Nat → PyData → Bool} {n : Nat} {vs : List V} {H : Hp} {Q : VK} {E : XK} (h : spN f n vs H Q E) : ∃ G v d m, vs = [v, .int m] ∧ Ex G H ∧ Da G v d ∧ 0 ≤ m ∧ m < n ∧ ∀ H', Ex H H' → Q (.bl (f m.toNat d)) H' := by
  obtain ⟨G, ds, d, s, h2, h3, k⟩ := h
  dsimp only at h3
  split at h3
  · rename_i d' m
    split at h3
    · rename_i hm
      cases h3
      cases h2 with
      | cons h t =>
        cases t with
        | cons h' t =>
          cases t
          rw [h'.int_]
          exact ⟨G, _, d', m, rfl, s, h, hm.1, hm.2, fun H' x => k _ G H' (Gr.keep s x) (.bl _)⟩
    · cases h3
  · cases h3
theorem ev_callN {f : Nat → PyData → Bool} {n : Nat} {σ : L2.St} {G : Hp} {ta tb : TE} {d : PyData} {m : Int} {E : XK} (h : EvD ta σ G d) (hb : Ev tb σ G (.int m)) (h0 : 0 ≤ m) (h1 : m < n) : Ev (tCallD (spN f n) E (tCons ta (tCons tb tNil))) σ G (.bl (f m.toNat d)) :=
  EvD.bl_ (evd_call (evd_cons h (evd_cons (evd_int hb) evd_nil)) (by dsimp only; rw [if_pos ⟨h0, h1⟩]))
def fBel : PyData → Option PyData
  | .tuple (w :: r) => some (.tuple (bel (w :: r)))
  | _ => none
def fWk (n : Nat) (d : PyData) : Option PyData := if wks n d = true then some (.int (wkg n d)) else none
section
variable {P : Program} {w : World} {K : PySem.W.Frag} {mg : Str → Option Value} {base : Heap} {CA CB CP fP : Addr}
theorem ok_ts0 (D : Df K mg "is_tree_shape" s_is_tree_shape) : DefOk P w K mg base CX0 1 "is_tree_shape" ["value", "most"] (spN isTs 0) := by
  refine D.ok sc_is_tree_shape (fun _ _ _ _ _ _ us hl => match us, hl with | [_, _], _ => rfl) (fun vs H Q E h => spN_len h) (fun f cdv A outer s H vs Q E hr h => ?_)
  obtain ⟨_, _, _, m, _, _, _, h0, h1, _⟩ := spN_of h
  exact absurd h1 (by omega)
theorem ok_tsS (T : Txt P K mg CA CB CP fP) (D : Df K mg "is_tree_shape" s_is_tree_shape) {n l : Nat} (hl3 : 1 ≤ l) (D_is_tree_shape : DefOk P w K mg base CX0 l "is_tree_shape" ["value", "most"] (spN isTs n)) (D_is_name : DefOk P w K mg base CX0 1 "is_name" ["value"] (spB isNm)) :
    DefOk P w K mg base CX0 (l + 1) "is_tree_shape" ["value", "most"] (spN isTs (n + 1)) := by
  refine D.ok sc_is_tree_shape (fun _ _ _ _ _ _ us hl => match us, hl with | [_, _], _ => rfl) (fun vs H Q E h => spN_len h) (fun f cdv A outer s H vs Q E hr h => ?_)
  obtain ⟨G, v, d, m, rfl, s, hd, m0, m1, k⟩ := spN_of h
  refine ⟨_, (pss_cons (ps_if (PW.pt (pw_or (pt_not (pt_val (pe_callB call_isi (by rfl) T.n_isinstance (by decide +kernel) (pa_cons (pv 0) (pa_cons (pe_bltn (v := .ty "tuple") (by rfl) T.n_tuple (by decide +kernel) rfl) pa_nil))))) (pw_or (pt_cmpR op_eq (pv 1) pe_int (nomark _)) (pw_or1 (pt_cmpR (op_eqE hr.units0) (pv 0) (pe_tup pa_nil) (nomark _))))))
 (pss_one (ps_ret pe_bl))
 pss_nil)
 (pss_cons (ps_if (PW.pt (pw_or (pt_cmpR (op_eqS hr.units0) (pe_ix ix_tup (pv 0) pe_int (fun _ _ => rfl)) (pe_gStr (by rfl) T.g_HOLE) (nomark _)) (pw_or1 (pt_cmpR (op_eqS hr.units0) (pe_ix ix_tup (pv 0) pe_int (fun _ _ => rfl)) (pe_gStr (by rfl) T.g_LOAD) (nomark _)))))
 (pss_one (ps_ret (pe_cmpR op_eq (pe_callB call_len_seq (by rfl) T.n_len (by decide +kernel) (pa_cons (pv 0) pa_nil)) pe_int (nomark _))))
 pss_nil)
 (pss_cons (ps_if (PW.pt (pw_or (pt_cmpR (op_neS hr.units0) (pe_ix ix_tup (pv 0) pe_int (fun _ _ => rfl)) (pe_gStr (by rfl) T.g_OP) (nomark _)) (pw_or (pt_not (pt_chain op_le op_le pe_int (pe_callB call_len_seq (by rfl) T.n_len (by decide +kernel) (pa_cons (pv 0) pa_nil)) (pe_op op_add pe_int (pe_gInt (by rfl) T.g_MAX_TREES)))) (pw_or1 (pt_not (pt_val (pe_callD D_is_name (hr.mono (by omega)) pass0 (pa_cons (pe_ix ix_tup (pv 0) pe_int (fun _ _ => rfl)) pa_nil))))))))
 (pss_one (ps_ret pe_bl))
 pss_nil)
 (pss_one (ps_ret (pe_callB (cr_all rfl) (by rfl) T.n_all (by decide +kernel) (pa_cons (pe_lc (own := [("one", 2)]) (by rfl) sc_is_tree_shape.nd (pi_tup (pe_slice sl_tupA (pv 0) (po_some pe_int) po_none)) (blkOk_by (own := [("one", 2)]) (N := ["value", "most", "one"]) (sc := defScope s_is_tree_shape) (by decide +kernel)) (fun _ _ _ _ _ => (pg_name (i := 2) sc_is_tree_shape.nd rfl (Or.inl rfl))) (fun _ _ _ _ _ => pts_nil) (fun _ _ _ _ _ => (pe_callD D_is_tree_shape (hr.mono (by omega)) pass0 (pa_cons (pv 2) (pa_cons (pe_op op_sub (pv 1) pe_int) pa_nil))))) pa_nil))))))), ?_⟩
  by_cases c : kd d = "tuple"
  · obtain ⟨ds, rfl⟩ := kd_tup c
    match ds, hd, k with
    | [], hd, k =>
      have e : isTs m.toNat (.tuple []) = false := by cases m.toNat <;> rfl
      rw [e] at k
      refine q_ifD s (et_or (b := true) (et_not (et_B (ev_isTup (evd_var rfl hd)))) fun _ => et_is (et_or (b := true) (et_test (ev_eqI (ev_var rfl) ev_c)) fun _ => et_test (ev_eqET (evd_var rfl hd))) (Bool.or_true _)) (fun _ H1 x1 => k H1 x1) (fun z => by cases z)
    | dw :: r, hd, k =>
      have i0 : ∀ {G'}, Ex G G' → EvD (tOp (rIxT K) (tVar 0) (tC (.int 0))) (start ["value", "most", "one"] [v, .int m]) G' dw := fun x => evd_ixT (evd_var rfl (hd.up x)) ev_c (atI_nat (j := 0) rfl)
      have i0 := i0 (Ex.refl G)
      refine q_ifD s (b := decide (m = 0)) (et_is (et_or (et_not (et_B (ev_isTup (evd_var rfl hd)))) fun _ => et_or (et_test (ev_eqI (ev_var rfl) ev_c)) fun _ => et_test (ev_eqET (evd_var rfl hd))) ?_) (fun hb H1 x1 => ?_) (fun hb H1 x1 => ?_)
      · show (false || (decide (m = 0) || false)) = _
        rw [Bool.false_or, Bool.or_false]
      · have z : m = 0 := of_decide_eq_true hb
        subst z
        exact k H1 x1
      · have z : ¬ m = 0 := of_decide_eq_false hb
        obtain ⟨j, rfl⟩ : ∃ j : Nat, m = (j : Int) + 1 := ⟨(m - 1).toNat, by omega⟩
        have e1 : ((j : Int) + 1).toNat = j + 1 := by omega
        rw [e1, isTs_cons] at k
        have s1 := s.trans x1
        have len : ((dw :: r).length : Int) = r.length + 1 := by rw [List.length_cons]; omega
        dsimp only [tNext]
        refine q_ifD s1 (et_or (et_test (ev_eqS i0 ev_c)) fun _ => et_test (ev_eqS i0 ev_c)) (fun ha H2 x2 => ?_) (fun ha H2 x2 => ?_)
        · rw [if_pos ha] at k
          have e2 : r.isEmpty = decide (((dw :: r).length : Int) = 1) := by
            cases r with
            | nil => rfl
            | cons a t => rw [decide_eq_false (by rw [List.length_cons, List.length_cons]; omega)]; rfl
          rw [e2] at k
          exact Ev.ret (s1.trans x2) (ev_eqI (ev_lenT (evd_var rfl hd)) ev_c) (fun H3 x3 => k H3 ((x1.trans x2).trans x3))
        · rw [if_neg (by rw [ha]; decide)] at k
          have s2 := s1.trans x2
          have x12 := x1.trans x2
          by_cases c2 : isS "op" dw = true
          · rw [if_pos c2] at k
            cases isS_eq c2
            by_cases c3 : 1 ≤ r.length ∧ r.length ≤ 4
            · rw [decide_eq_true c3.1, decide_eq_true c3.2, Bool.and_true, Bool.true_and] at k
              obtain ⟨dn, ts, rfl⟩ : ∃ dn ts, r = dn :: ts := by
                match r, c3.1 with
                | a :: b, _ => exact ⟨a, b, rfl⟩
              have i1 : EvD (tOp (rIxT K) (tVar 0) (tC (.int 1))) (start ["value", "most", "one"] [v, .int ((j : Int) + 1)]) G dn := evd_ixT (evd_var rfl hd) ev_c (atI_nat (j := 1) rfl)
              refine q_ifD s2 (b := !isNm dn) (et_is (et_or (et_test (ev_neS i0 ev_c)) fun _ => et_or (et_not (et_test (ev_chain ev_c (ev_lenT (evd_var rfl hd)) (ev_op ev_c ev_c rv_I0)))) fun _ => et_not (et_B (ev_callB i1))) ?_) (fun hb2 H3 x3 => ?_) (fun hb2 H3 x3 => ?_)
              · have q1 : decide ((2 : Int) ≤ ((PyData.str "op" :: dn :: ts).length : Int)) = true := decide_eq_true (by rw [len, List.length_cons]; omega)
                have q2 : decide (((PyData.str "op" :: dn :: ts).length : Int) ≤ 2 + 3) = true := decide_eq_true (by have := c3.2; rw [len]; rw [List.length_cons] at this ⊢; omega)
                rw [q1, q2]
                rfl
              · have : isNm dn = false := by simpa using hb2
                rw [show (dn :: ts).getD 0 .none = dn from rfl, this] at k
                exact k _ (x12.trans x3)
              · have hn : isNm dn = true := by simpa using hb2
                rw [show (dn :: ts).getD 0 .none = dn from rfl, hn, Bool.true_and, show (dn :: ts).drop 1 = ts from rfl] at k
                have e3 : (ts.all fun t => isTs j t) = ((ts.map fun t => isTs j t).all id) := by rw [List.all_map]; rfl
                rw [e3] at k
                have h4 := c3.2
                rw [List.length_cons] at h4
                refine Ev.ret (s2.trans x3) (ev_allD (K := K) (EvD.is (evd_lcT (ds := ts) (fun _ => true) (fun t => .bool (isTs j t)) (EvD.is (evd_sl (evd_var rfl hd) (EvO.some_ ev_c) EvO.none_) ?_) (by omega) (fun _ => rfl) (fun d _ v G1 _ _ => et_yes (b := true)) (fun d _ _ v G1 _ hv => evd_bl (ev_is (ev_callN (evd_var rfl hv) (ev_op (ev_var rfl) ev_c rv_I0) ?_ ?_) ?_))) ?_)) (fun H4 x4 => k H4 ((x12.trans x3).trans x4))
                · rw [show (2 : Int) = ((2 : Nat) : Int) from rfl, cutD_from]
                  rfl
                · omega
                · omega
                · rw [show ((j : Int) + 1 - 1).toNat = j by omega]
                · rw [filter_yes, List.map_map]
                  rfl
            · have e4 : (decide (1 ≤ r.length) && decide (r.length ≤ 4) && (isNm (r.getD 0 .none) && (r.drop 1).all fun t => isTs j t)) = false := by
                rw [← Bool.decide_and, decide_eq_false c3]
                rfl
              rw [e4] at k
              refine q_ifD s2 (b := true) (et_is (et_or (b := true) (et_test (ev_neS i0 ev_c)) fun _ => et_orT (et_is (et_not (et_test (ev_chain ev_c (ev_lenT (evd_var rfl hd)) (ev_op ev_c ev_c rv_I0)))) ?_)) (Bool.or_true _)) (fun _ H3 x3 => k _ (x12.trans x3)) (fun z => by cases z)
              rw [← Bool.decide_and, len, decide_eq_false (by omega)]
              rfl
          · rw [if_neg c2] at k
            have c2 : isS "op" dw = false := by simpa using c2
            exact q_ifD s2 (et_orT (et_is (et_test (ev_neS i0 ev_c)) (by rw [c2]; rfl))) (fun _ H3 x3 => k _ (x12.trans x3)) (fun z => by cases z)
  · have e1 : isTs m.toNat d = false := by
      cases hm : m.toNat with
      | zero => rfl
      | succ j => cases d <;> (first | rfl | exact absurd rfl c)
    rw [e1] at k
    refine q_ifD s (et_orT (et_is (et_not (et_B (ev_isTup (evd_var rfl hd)))) ?_)) (fun _ H1 x1 => k H1 x1) (fun z => by cases z)
    rw [beq_eq_false_iff_ne.mpr c]
    rfl
theorem ok_below_in (T : Txt P K mg CA CB CP fP) (D : Df K mg "below_in" s_below_in) : DefOk P w K mg base CX0 1 "below_in" ["shape"] (spO fBel) := by
  refine D.ok sc_below_in (fun _ _ _ _ _ _ us hl => match us, hl with | [_], _ => rfl) (fun vs H Q E h => spO_len h) (fun f cdv A outer s H vs Q E hr h => ?_)
  obtain ⟨G, v, d, e, rfl, s, hd, he, k⟩ := spO_of h
  refine ⟨_, (pss_cons (ps_if (pt_cmpR (op_eqS hr.units0) (pe_ix ix_tup (pv 0) pe_int (fun _ _ => rfl)) (pe_gStr (by rfl) T.g_STORE) (nomark _))
 (pss_one (ps_ret (pe_slice sl_tupA (pv 0) (po_some pe_int) po_none)))
 pss_nil)
 (pss_one (ps_ret (pe_ifExp (pt_cmpR (op_eqS hr.units0) (pe_ix ix_tup (pv 0) pe_int (fun _ _ => rfl)) (pe_gStr (by rfl) T.g_OP) (nomark _)) (pe_slice sl_tupA (pv 0) (po_some pe_int) po_none) (pe_tup pa_nil))))), ?_⟩
  unfold fBel at he
  split at he
  · rename_i w r
    cases he
    have i0 : EvD (tOp (rIxT K) (tVar 0) (tC (.int 0))) (start ["shape"] [v]) G w := evd_ixT (evd_var rfl hd) ev_c (atI_nat (j := 0) rfl)
    refine q_ifD s (et_test (ev_eqS i0 ev_c)) (fun c H1 x1 => ?_) (fun c H1 x1 => ?_)
    · refine s_retD (s.trans x1) (EvD.is (evd_sl (evd_var rfl hd) (EvO.some_ ev_c) EvO.none_) ?_) (fun v' G' H' r => k v' G' H' ((Gr.keep s x1).trans r))
      rw [show (1 : Int) = ((1 : Nat) : Int) from rfl, cutD_from, bel, if_pos c]
      rfl
    · refine s_retD (s.trans x1) (evd_if (b := isS "op" w) (et_test (ev_eqS i0 ev_c)) (fun c2 => EvD.is (evd_sl (evd_var rfl hd) (EvO.some_ ev_c) EvO.none_) ?_) (fun c2 => EvD.is (evd_tup evd_nil (by decide)) ?_)) (fun v' G' H' r => k v' G' H' ((Gr.keep s x1).trans r))
      · rw [show (2 : Int) = ((2 : Nat) : Int) from rfl, cutD_from, bel, c, if_neg Bool.false_ne_true, if_pos c2]
        rfl
      · rw [bel, c, if_neg Bool.false_ne_true, c2, if_neg Bool.false_ne_true]
  · cases he
theorem ok_wk0 (D : Df K mg "working" s_working) : DefOk P w K mg base CX0 1 "working" ["shape"] (spO (fWk 0)) := by
  refine D.ok sc_working (fun _ _ _ _ _ _ us hl => match us, hl with | [_], _ => rfl) (fun vs H Q E h => spO_len h) (fun f cdv A outer s H vs Q E hr h => ?_)
  obtain ⟨G, v, d, e, rfl, s, hd, he, k⟩ := spO_of h
  have w0 : wks 0 d = false := by cases d <;> rfl
  unfold fWk at he
  rw [w0, if_neg Bool.false_ne_true] at he
  cases he
theorem ok_wkS (T : Txt P K mg CA CB CP fP) (D : Df K mg "working" s_working) {n l : Nat} (hl3 : 1 ≤ l) (D_working : DefOk P w K mg base CX0 l "working" ["shape"] (spO (fWk n))) (D_below_in : DefOk P w K mg base CX0 1 "below_in" ["shape"] (spO fBel)) : DefOk P w K mg base CX0 (l + 1) "working" ["shape"] (spO (fWk (n + 1))) := by
  refine D.ok sc_working (fun _ _ _ _ _ _ us hl => match us, hl with | [_], _ => rfl) (fun vs H Q E h => spO_len h) (fun f cdv A outer s H vs Q E hr h => ?_)
  obtain ⟨G, v, d, e, rfl, s, hd, he, k⟩ := spO_of h
  unfold fWk at he
  split at he
  · rename_i hw
    cases he
    obtain ⟨w, r, rfl⟩ := wks_tup hw
    obtain ⟨h4, hall⟩ := wks_cons hw
    refine ⟨_, (pss_one (ps_ret (pe_op op_add (pe_callTy call_int1 (by rfl) T.n_int (by decide +kernel) (pa_cons (pe_cmpR (op_neS hr.units0) (pe_ix ix_tup (pv 0) pe_int (fun _ _ => rfl)) (pe_gStr (by rfl) T.g_HOLE) (nomark _)) pa_nil)) (pe_callB (cr_sum rfl) (by rfl) T.n_sum (by decide +kernel) (pa_cons (pe_lc (own := [("one", 1)]) (by rfl) sc_working.nd (pi_tup (pe_callD D_below_in (hr.mono (by omega)) pass0 (pa_cons (pv 0) pa_nil))) (blkOk_by (own := [("one", 1)]) (N := ["shape", "one"]) (sc := defScope s_working) (by decide +kernel)) (fun _ _ _ _ _ => (pg_name (i := 1) sc_working.nd rfl (Or.inl rfl))) (fun _ _ _ _ _ => pts_nil) (fun _ _ _ _ _ => (pe_callD D_working (hr.mono (by omega)) pass0 (pa_cons (pv 1) pa_nil)))) pa_nil))))), ?_⟩
    have i0 : EvD (tOp (rIxT K) (tVar 0) (tC (.int 0))) (start ["shape", "one"] [v]) G w := evd_ixT (evd_var rfl hd) ev_c (atI_nat (j := 0) rfl)
    refine s_retD s (EvD.is (evd_int (ev_op (ev_intB (ev_neS i0 ev_c)) (ev_sumD (K := K) (is := (bel (w :: r)).map fun t => wkg n t) (EvD.is (evd_lcT (fun _ => true) (fun t => .int (wkg n t)) (evd_callO (evd_var rfl hd) rfl) (by omega) (fun _ => rfl) (fun d _ v G1 _ _ => et_yes (b := true)) (fun d hd' _ v G1 _ hv => evd_callO (evd_var rfl hv) ?_)) ?_)) rv_I0)) ?_) k
    · unfold fWk
      rw [if_pos (hall d hd')]
    · rw [filter_yes, List.map_map]
      rfl
    · rw [wkg, show (w :: r).getD 0 .none = w from rfl]
      cases isS "hole" w <;> rfl
  · cases he
theorem ok_is_shape (T : Txt P K mg CA CB CP fP) (D : Df K mg "is_shape" s_is_shape) (D_is_tree_shape : DefOk P w K mg base CX0 7 "is_tree_shape" ["value", "most"] (spN isTs 6)) (D_working : DefOk P w K mg base CX0 6 "working" ["shape"] (spO (fWk 5))) : DefOk P w K mg base CX0 8 "is_shape" ["value"] (spB isSh) := by
  refine D.ok sc_is_shape (fun _ _ _ _ _ _ us hl => match us, hl with | [_], _ => rfl) (fun vs H Q E h => spF_len f1_len h) (fun f cdv A outer s H vs Q E hr h => ?_)
  obtain ⟨G, v, d, rfl, s, hd, k⟩ := spB_of h
  refine ⟨_, (pss_cons (ps_if (PW.pt (pw_and (pt_val (pe_callB call_isi (by rfl) T.n_isinstance (by decide +kernel) (pa_cons (pv 0) (pa_cons (pe_bltn (v := .ty "tuple") (by rfl) T.n_tuple (by decide +kernel) rfl) pa_nil)))) (pw_and (pt_cmpR op_eq (pe_callB call_len_seq (by rfl) T.n_len (by decide +kernel) (pa_cons (pv 0) pa_nil)) pe_int (nomark _)) (pw_and1 (pt_cmpR (op_eqS hr.units0) (pe_ix ix_tup (pv 0) pe_int (fun _ _ => rfl)) (pe_gStr (by rfl) T.g_STORE) (nomark _))))))
 (pss_one (ps_ret (pe_and (pe_callD D_is_tree_shape (hr.mono (by decide)) pass0 (pa_cons (pe_ix ix_tup (pv 0) pe_int (fun _ _ => rfl)) (pa_cons (pe_gInt (by rfl) T.g_MAX_SHAPE) pa_nil))) (pe_one (pe_cmpR op_le (pe_callD D_working (hr.mono (by decide)) pass0 (pa_cons (pv 0) pa_nil)) (pe_gInt (by rfl) T.g_MAX_SHAPE) (nomark _))))))
 pss_nil)
 (pss_one (ps_ret (pe_and (pe_callD D_is_tree_shape (hr.mono (by decide)) pass0 (pa_cons (pv 0) (pa_cons (pe_op op_add (pe_gInt (by rfl) T.g_MAX_SHAPE) pe_int) pa_nil))) (pe_one (pe_cmpR op_le (pe_callD D_working (hr.mono (by decide)) pass0 (pa_cons (pv 0) pa_nil)) (pe_gInt (by rfl) T.g_MAX_SHAPE) (nomark _))))))), ?_⟩
  have rest : ∀ {H1}, Ex H H1 → (∀ H', Ex H H' → Q (.bl (isTs 5 d && decide (wkg 5 d ≤ 4))) H') → tRet (tAndV (tCallD (spN isTs 6) E0 (tCons (tVar 0) (tCons (tOp (rI0 fun i j => .int (i + j)) (tC (.int 4)) (tC (.int 1))) tNil))) (tOp (rI0 fun i j => .bl (decide (i ≤ j))) (tCallD (spO (fWk 5)) E0 (tCons (tVar 0) tNil)) (tC (.int 4)))) { nx := fun _ H' => Q .non H', rt := Q } (start ["value"] [v]) H1 := fun x1 k1 => by
    refine Ev.ret (s.trans x1) (ev_andV (ev_callN (m := 4 + 1) (evd_var rfl hd) (ev_op ev_c ev_c rv_I0) (by decide) (by decide)) fun h5 => ?_) (fun H2 x2 => k1 H2 (x1.trans x2))
    exact ev_op (EvD.int_ (evd_callO (e := .int (wkg 5 d)) (evd_var rfl hd) (by unfold fWk; rw [if_pos (wks_ts 5 d h5)]))) ev_c rv_I0
  by_cases c : kd d = "tuple"
  · obtain ⟨ds, rfl⟩ := kd_tup c
    by_cases c2 : ds.length = 2
    · obtain ⟨dw, dx, rfl⟩ : ∃ dw dx, ds = [dw, dx] := by
        match ds, c2 with
        | [a, b], _ => exact ⟨a, b, rfl⟩
      have i0 : EvD (tOp (rIxT K) (tVar 0) (tC (.int 0))) (start ["value"] [v]) G dw := evd_ixT (evd_var rfl hd) ev_c (atI_nat (j := 0) rfl)
      have i1 : EvD (tOp (rIxT K) (tVar 0) (tC (.int 1))) (start ["value"] [v]) G dx := evd_ixT (evd_var rfl hd) ev_c (atI_nat (j := 1) rfl)
      refine q_ifD s (b := isS "store" dw) (et_is (et_and (et_B (ev_isTup (evd_var rfl hd))) fun _ => et_and (et_test (ev_eqI (ev_lenT (evd_var rfl hd)) ev_c)) fun _ => et_test (ev_eqS i0 ev_c)) ?_) (fun hb H1 x1 => ?_) (fun hb H1 x1 => ?_)
      · rfl
      · have e : isSh (.tuple [dw, dx]) = (isTs 4 dx && decide (wkg 5 (.tuple [dw, dx]) ≤ 4)) := by
          unfold isSh; dsimp only
          rw [if_pos ⟨rfl, hb⟩]
          rfl
        rw [e] at k
        refine Ev.ret (s.trans x1) (ev_andV (ev_callN (m := 4) i1 ev_c (by decide) (by decide)) fun h4 => ?_) (fun H2 x2 => k H2 (x1.trans x2))
        have hw : wks 5 (.tuple [dw, dx]) = true := by
          have e2 : bel [dw, dx] = [dx] := by unfold bel; dsimp only; rw [if_pos hb]
          rw [wks]
          show (decide ((bel [dw, dx]).length ≤ 4) && (bel [dw, dx]).all fun t => wks 4 t) = true
          rw [e2]
          simp [wks_ts 4 dx h4]
        exact ev_op (EvD.int_ (evd_callO (e := .int (wkg 5 (.tuple [dw, dx]))) (evd_var rfl hd) (by unfold fWk; rw [if_pos hw]))) ev_c rv_I0
      · refine rest x1 ?_
        have e : isSh (.tuple [dw, dx]) = (isTs 5 (.tuple [dw, dx]) && decide (wkg 5 (.tuple [dw, dx]) ≤ 4)) := by
          unfold isSh; dsimp only
          rw [if_neg (fun z => by rw [show [dw, dx].getD 0 .none = dw from rfl, hb] at z; cases z.2)]
        rw [e] at k
        exact k
    · have e : isSh (.tuple ds) = (isTs 5 (.tuple ds) && decide (wkg 5 (.tuple ds) ≤ 4)) := by
        unfold isSh; dsimp only
        rw [if_neg (fun z => c2 z.1)]
      rw [e] at k
      refine q_ifD s (b := false) (et_is (et_and (b := false) (et_B (ev_isTup (evd_var rfl hd))) fun _ => et_andF (et_is (et_test (ev_eqI (ev_lenT (evd_var rfl hd)) ev_c)) (decide_eq_false (by omega)))) (Bool.and_false _)) (fun z => by cases z) (fun _ H1 x1 => rest x1 k)
  · have e : isSh d = (isTs 5 d && decide (wkg 5 d ≤ 4)) := by cases d <;> (first | rfl | exact absurd rfl c)
    rw [e] at k
    refine q_ifD s (et_andF (et_is (et_B (ev_isTup (evd_var rfl hd))) (beq_eq_false_iff_ne.mpr c))) (fun z => by cases z) (fun _ H1 x1 => rest x1 k)
end
end My
set_option maxHeartbeats 4000000
/-! Where shapes fit, plain -/
namespace Tr
open PySem Lf
theorem isTr_succ : ∀ (n : Nat) (d : PyData), isTr n d = true → isTr (n + 1) d = true := by
  intro n
  induction n with
  | zero => intro d h; cases h
  | succ n ih =>
    intro d h
    obtain ⟨w, nm, ts, rfl⟩ := isTr_tup h
    rw [isTr_cons] at h ⊢
    split at h
    · rename_i c; rw [if_pos c]; exact h
    · rename_i c
      rw [if_neg c]
      split at h
      · rename_i c2; rw [if_pos c2]; exact h
      · rename_i c2
        rw [if_neg c2]
        split at h
        · rename_i c3
          rw [if_pos c3]
          simp only [Bool.and_eq_true, List.all_eq_true] at h ⊢
          exact ⟨h.1, h.2.1, fun t ht => ih t (h.2.2 t ht)⟩
        · cases h
theorem isTs_succ : ∀ (n : Nat) (d : PyData), isTs n d = true → isTs (n + 1) d = true := by
  intro n
  induction n with
  | zero => intro d h; cases h
  | succ n ih =>
    intro d h
    obtain ⟨w, r, rfl⟩ := wks_tup (wks_ts _ _ h)
    rw [isTs_cons] at h ⊢
    split at h
    · rename_i c; rw [if_pos c]; exact h
    · rename_i c
      rw [if_neg c]
      split at h
      · rename_i c2
        rw [if_pos c2]
        simp only [Bool.and_eq_true, List.all_eq_true] at h ⊢
        exact ⟨h.1, h.2.1, fun t ht => ih t (h.2.2 t ht)⟩
      · cases h
def stS (n : Nat) : PyData → Bool
  | .tuple [w, x] => isS "store" w && isTs n x
  | _ => false
def stT (n : Nat) : PyData → Bool
  | .tuple [w, _, _, _, _, x] => isS "store" w && isTr n x
  | _ => false
def fOk (n : Nat) (s t : PyData) : Bool := (isTs (n + 1) s || stS n s) && (isTr (n + 1) t || stT n t)
def strOf : PyData → Str
  | .str x => x
  | _ => Str.empty
def ixD (d : PyData) (i : Nat) : PyData := match d with
  | .tuple ds => ds.getD i .none
  | _ => .none
def lenD : PyData → Nat
  | .tuple ds => ds.length
  | _ => 0
def restD : PyData → List PyData
  | .tuple ds => ds.drop 2
  | _ => []
/-- whether a shape fits at a tree, n levels deep -/
def fit : Nat → PyData → PyData → Bool
  | 0, _, _ => false
  | n + 1, s, t =>
    if (isS "store" (ixD s 0) || isS "store" (ixD t 0)) = true then decide (strOf (ixD s 0) = strOf (ixD t 0)) && fit n (ixD s 1) (ixD t 5)
    else if isS "hole" (ixD s 0) = true then true
    else if strOf (ixD s 0) ≠ strOf (ixD t 0) then false
    else if isS "load" (ixD s 0) = true then true
    else if strOf (ixD s 1) ≠ strOf (ixD t 1) ∨ lenD s ≠ lenD t then false
    else ((restD s).zip (restD t)).all fun p => fit n p.1 p.2
/-- what a shape is: its word, and what stands below -/
theorem ts_cases {n : Nat} {s : PyData} (h : isTs (n + 1) s = true) : (s = .tuple [.str "hole"] ∨ s = .tuple [.str "load"]) ∨ ∃ (x : Str) (ts : List PyData), s = .tuple (.str "op" :: .str x :: ts) ∧ ts.length ≤ 3 ∧ ∀ t ∈ ts, isTs n t = true := by
  obtain ⟨w, r, rfl⟩ := wks_tup (wks_ts _ _ h)
  rw [isTs_cons] at h
  split at h
  · rename_i c
    have : r = [] := List.isEmpty_iff.mp h
    subst this
    rcases Bool.or_eq_true_iff.mp c with c | c
    · cases isS_eq c; exact .inl (.inl rfl)
    · cases isS_eq c; exact .inl (.inr rfl)
  · split at h
    · rename_i c2
      cases isS_eq c2
      simp only [Bool.and_eq_true, decide_eq_true_eq, List.all_eq_true] at h
      obtain ⟨⟨h1, h2⟩, h3, h4⟩ := h
      cases r with
      | nil => simp at h1
      | cons nm ts =>
        have : ∃ x, nm = .str x := by
          have h3 : isNm nm = true := h3
          cases nm with
          | str x => exact ⟨x, rfl⟩
          | _ => cases h3
        obtain ⟨x, rfl⟩ := this
        refine .inr ⟨x, ts, rfl, ?_, fun t ht => h4 t ht⟩
        simp at h2
        exact h2
    · cases h
/-- what a tree is -/
theorem tr_cases {n : Nat} {t : PyData} (h : isTr (n + 1) t = true) : ∃ (w x : Str) (ts : List PyData), t = .tuple (.str w :: .str x :: ts) ∧ w ≠ "store" ∧ w ≠ "hole" ∧ (w = "op" → ts.length ≤ 3 ∧ ∀ t ∈ ts, isTr n t = true) := by
  obtain ⟨w, nm, ts, rfl⟩ := isTr_tup h
  have hs := isTr_sub h
  rw [isTr_cons] at h
  have nmx : isNm nm = true → ∃ x, nm = .str x := fun h3 => by
    cases nm with
    | str x => exact ⟨x, rfl⟩
    | _ => cases h3
  have e0 : subs (w :: nm :: ts) = if isS "op" w = true then ts else [] := rfl
  split at h
  · rename_i c
    rw [Bool.and_eq_true] at h
    obtain ⟨x, rfl⟩ := nmx h.1
    cases isS_eq c.2
    exact ⟨_, x, ts, rfl, by decide, by decide, fun z => absurd z (by decide)⟩
  · split at h
    · rename_i c
      rw [Bool.and_eq_true] at h
      obtain ⟨x, rfl⟩ := nmx h.1
      cases isS_eq c.2
      exact ⟨_, x, ts, rfl, by decide, by decide, fun z => absurd z (by decide)⟩
    · split at h
      · rename_i c
        rw [Bool.and_eq_true] at h
        obtain ⟨x, rfl⟩ := nmx h.1
        rw [e0, if_pos c] at hs
        cases isS_eq c
        exact ⟨_, x, ts, rfl, by decide, by decide, fun _ => hs⟩
      · cases h
theorem sS_cases {n : Nat} {s : PyData} (h : stS n s = true) : ∃ x, s = .tuple [.str "store", x] ∧ isTs n x = true := by
  unfold stS at h
  split at h
  · rename_i w x
    rw [Bool.and_eq_true] at h
    cases isS_eq h.1
    exact ⟨x, rfl, h.2⟩
  · cases h
theorem sT_cases {n : Nat} {s : PyData} (h : stT n s = true) : ∃ a b c d x, s = .tuple [.str "store", a, b, c, d, x] ∧ isTr n x = true := by
  unfold stT at h
  split at h
  · rename_i w a b c d x
    rw [Bool.and_eq_true] at h
    cases isS_eq h.1
    exact ⟨a, b, c, d, x, rfl, h.2⟩
  · cases h
theorem fOk_of {n : Nat} {s t : PyData} (h1 : isTs n s = true) (h2 : isTr n t = true) : fOk n s t = true := by
  unfold fOk
  rw [isTs_succ n s h1, isTr_succ n t h2]
  rfl
end Tr
set_option maxHeartbeats 4000000
/-! [e for x, y in zip(s, t)] of tuples of data; texts: ' '.join(l), t.split(' '); [*l, ..] -/
namespace Lf
open PySem L2 Evl
theorem walk_zipT {K : PySem.W.Frag} {a b : Addr} {xs ys : List V} {n : Nat} (hn : n = min xs.length ys.length) : Walk (RZ.ItzT K a b) n (fun H => SqT K H a xs ∧ SqT K H b ys) (YPair (fun i => xs[i]?) (fun i => ys[i]?)) := by
  subst hn
  refine ⟨fun i _ hi q => ?_, fun _ q => ⟨xs, ys, q.1, q.2, by omega⟩, fun i H v H' _ q y => ?_⟩
  · have h1 : i < xs.length := by omega
    have h2 : i < ys.length := by omega
    exact ⟨xs, ys, xs[i], ys[i], q.1, q.2, by simp [h1], by simp [h2]⟩
  · obtain ⟨T, x, z, h1, h2, h3, h4, h5⟩ := y
    exact ⟨T, x, z, h1, h2, h3, h4 xs q.1, h5 ys q.2⟩
theorem LcI.up {G1 H1 H' H2 : Hp} {D : Addr} {ds : List PyData} (I : LcI G1 H1 D H' ds) (x : Ex H' H2) : LcI G1 H1 D H2 ds := by
  obtain ⟨⟨G', ys, r, h1, h2, h3⟩, fr⟩ := I
  exact ⟨⟨G', ys, r.trans (Gr.keep r.s x), h1, x _ _ h2, h3⟩, fr⟩
section
variable {K : PySem.W.Frag} {σ : L2.St} {G : Hp} {ta tb te : TE} {ds es : List PyData}
theorem evd_lcZ {i j : Nat} {vs : List Nat} (f : PyData → PyData → PyData) (ha : EvD ta σ G (.tuple ds)) (hb : EvD tb σ G (.tuple es)) (hz : ds.length ≤ 50000) (hw : ∀ x y, wipe (((wipe σ vs).set i (some x)).set j (some y)) vs = wipe σ vs)
    (he : ∀ p ∈ ds.zip es, ∀ x y G1, Ex G G1 → Da G1 x p.1 → Da G1 y p.2 → EvD te (((wipe σ vs).set i (some x)).set j (some y)) G1 (f p.1 p.2)) :
    EvD (tLc (RZ.iZipA K (tCons ta (tCons tb tNil))) (gTup K 2 (gCons (gName i) (gCons (gName j) gNil))) tYes te vs) σ G (.list ((ds.zip es).map fun p => f p.1 p.2)) := fun G0 H0 x0 s0 Q q => ha G0 H0 x0 s0 _ fun v0 G1 H1 r1 hd1 => hb G1 H1 (x0.trans r1.g) r1.s _ fun v2 G2 H2 r2 hd2 => by
  obtain ⟨a, xs, rfl, ea, hs⟩ := (hd1.up r2.g).tup_
  obtain ⟨b, ys, rfl, eb, ht⟩ := hd2.tup_
  have r := r1.trans r2
  have hmin : (ds.zip es).length = min xs.length ys.length := by rw [List.length_zip, hs.len, ht.len]
  refine ⟨a, b, xs, ys, rfl, .inr ⟨SqT.of (r.s _ _ ea), SqT.of (r.s _ _ eb), fun D hD => lc_it (walk_zipT (n := (ds.zip es).length) hmin) (fun k H' => LcI G2 H2 D H' ((((ds.zip es).take k).filter fun _ => true).map fun p => f p.1 p.2)) (LcI.start r.s hD) (fun k H' _ I => ⟨SqT.of (I.sub _ _ ea), SqT.of (I.sub _ _ eb)⟩) ?_ ?_⟩⟩
  · rintro k x H' H'' hk I ⟨T, x1, y1, rfl, hT, rfl, e1, e2⟩
    obtain ⟨d1, hi1, hv1⟩ := hs.at e1
    obtain ⟨d2, hi2, hv2⟩ := ht.at e2
    have hp : (ds.zip es)[k]? = some (d1, d2) := by rw [List.getElem?_zip_eq_some]; exact ⟨hi1, hi2⟩
    have xT : Ex H' (upd H' T (.tup [x1, y1])) := Ex.new hT
    have I2 := I.up xT
    refine ⟨T, [x1, y1], rfl, SqT.of upd_same, rfl, x1, [y1], rfl, y1, [], rfl, rfl, hw x1 y1, ?_⟩
    exact I2.turn hp (by rw [List.length_zip]; omega) (et_yes (b := true)) (fun _ => he _ (List.mem_of_getElem? hp) x1 y1 G2 (x0.trans r.g) hv1 hv2) fun H3 I3 => I3
  · rintro H' I
    rw [List.take_length, List.filter_eq_self.mpr (fun _ _ => rfl)] at I
    obtain ⟨G3, r3, h3⟩ := I.done
    exact q (.ref D) G3 H' (r.trans r3) h3
end
end Lf
set_option maxHeartbeats 4000000
namespace My
open PySem L2 Lf Evl Tr
abbrev s_is_fit : Stmt := top 33
theorem sc_is_fit : FnScope ["shape", "tree", "one", "other"] ["shape", "tree"] (defScope s_is_fit) := ⟨rfl, rfl, rfl, by decide +kernel, rfl, by decide +kernel, by decide +kernel⟩
abbrev s_require_shape : Stmt := top 34
theorem sc_require_shape : FnScope ["value"] ["value"] (defScope s_require_shape) := ⟨rfl, rfl, rfl, by decide +kernel, rfl, by decide +kernel, by decide +kernel⟩
abbrev s_fits : Stmt := top 35
theorem sc_fits : FnScope ["shape", "tree"] ["shape", "tree"] (defScope s_fits) := ⟨rfl, rfl, rfl, by decide +kernel, rfl, by decide +kernel, by decide +kernel⟩
section
variable {K : PySem.W.Frag} {σ : L2.St} {G : Hp} {ta tb tc te : TE} {t u : TT} {d : PyData} {ds : List PyData}
theorem ev_eqSS {x y : Str} (ha : Ev ta σ G (.str x)) (hb : Ev tb σ G (.str y)) : Ev (tOp rEq ta tb) σ G (.bl (decide (x = y))) := by
  have h := ev_op ha hb (rv_eq (x := V.str x) (y := V.str y) rfl)
  have : decide (V.str x = V.str y) = decide (x = y) := by rw [decide_eq_decide]; simp
  rwa [this] at h
theorem ev_neSS {x y : Str} (ha : Ev ta σ G (.str x)) (hb : Ev tb σ G (.str y)) : Ev (tOp rNe ta tb) σ G (.bl (!decide (x = y))) := by
  have h := ev_op ha hb (rv_ne (x := V.str x) (y := V.str y) rfl)
  have : decide (V.str x = V.str y) = decide (x = y) := by rw [decide_eq_decide]; simp
  rwa [this] at h
end
def sp2 (f : PyData → PyData → Option PyData) : Sp := spF fun ds => match ds with
  | [d, e] => f d e
  | _ => none
theorem sp2_len {f : PyData → PyData → Option PyData} {vs : List V} {H : Hp} {Q : VK} {E : XK} (h : sp2 f vs H Q E) : vs.length = 2 := by
  refine spF_len (fun ds d e => ?_) h
  split at e
  · rfl
  · cases e
theorem sp2_of {f : PyData → PyData → Option PyData} {vs : List V} {H : Hp} {Q : VK} {E : XK} (h : sp2 f vs H Q E) : ∃ G v v2 d d2 e, vs = [v, v2] ∧ Ex G H ∧ Da G v d ∧ Da G v2 d2 ∧ f d d2 = some e ∧ ∀ v' G' H', Gr G H G' H' → Da G' v' e → Q v' H' := by
  obtain ⟨G, ds, d, s, h2, h3, k⟩ := h
  dsimp only at h3
  split at h3
  · cases h2 with
    | cons h t =>
      cases t with
      | cons h' t =>
        cases t
        exact ⟨G, _, _, _, _, d, rfl, s, h, h', h3, k⟩
  · cases h3
theorem evd_call2 {f : PyData → PyData → Option PyData} {σ : L2.St} {G : Hp} {ta tb : TE} {d d2 e : PyData} {E : XK} (h : EvD ta σ G d) (h2 : EvD tb σ G d2) (hf : f d d2 = some e) : EvD (tCallD (sp2 f) E (tCons ta (tCons tb tNil))) σ G e := evd_call (evd_cons h (evd_cons h2 evd_nil)) hf
def fFit (n : Nat) (s t : PyData) : Option PyData := if 0 < n ∧ fOk (n - 1) s t = true then some (.bool (fit n s t)) else none
theorem atI_get {ds : List PyData} {i : Nat} (h : i < ds.length) : atI ds ((i : Nat) : Int) = some (ds.getD i .none) := atI_nat (by rw [List.getD_eq_getElem?_getD, List.getElem?_eq_getElem h]; rfl)
section
variable {P : Program} {w : World} {K : PySem.W.Frag} {mg : Str → Option Value} {base : Heap} {CA CB CP fP : Addr}
theorem ok_fit0 (D : Df K mg "is_fit" s_is_fit) : DefOk P w K mg base CX0 1 "is_fit" ["shape", "tree"] (sp2 (fFit 0)) := by
  refine D.ok sc_is_fit (fun _ _ _ _ _ _ us hl => match us, hl with | [_, _], _ => rfl) (fun vs H Q E h => sp2_len h) (fun f cdv A outer s H vs Q E hr h => ?_)
  obtain ⟨G, v, v2, d, d2, e, rfl, s, hd, hd2, he, k⟩ := sp2_of h
  unfold fFit at he
  rw [if_neg (fun z => absurd z.1 (by decide))] at he
  cases he
theorem ok_fitS (T : Txt P K mg CA CB CP fP) (D : Df K mg "is_fit" s_is_fit) {n l : Nat} (hl3 : 1 ≤ l) (D_is_fit : DefOk P w K mg base CX0 l "is_fit" ["shape", "tree"] (sp2 (fFit n))) : DefOk P w K mg base CX0 (l + 1) "is_fit" ["shape", "tree"] (sp2 (fFit (n + 1))) := by
  refine D.ok sc_is_fit (fun _ _ _ _ _ _ us hl => match us, hl with | [_, _], _ => rfl) (fun vs H Q E h => sp2_len h) (fun f cdv A outer s H vs Q E hr h => ?_)
  obtain ⟨G, v, v2, d, d2, e, rfl, s, hd, hd2, he, k⟩ := sp2_of h
  unfold fFit at he
  split at he
  · rename_i hok
    cases he
    have hok := hok.2
    rw [Nat.add_sub_cancel] at hok
    unfold fOk at hok
    rw [Bool.and_eq_true, Bool.or_eq_true_iff, Bool.or_eq_true_iff] at hok
    obtain ⟨hS, hT⟩ := hok
    -- the words
    obtain ⟨w1, r1, rfl, c1⟩ : ∃ (w1 : Str) (r1 : List PyData), d = .tuple (.str w1 :: r1) ∧ ((w1 = "store" ∧ ∃ x, r1 = [x] ∧ isTs n x = true) ∨ (w1 ≠ "store" ∧ isTs (n + 1) (.tuple (.str w1 :: r1)) = true)) := by
      rcases hS with h | h
      · have h' := h
        rcases ts_cases h with (rfl | rfl) | ⟨x, ts, rfl, _, _⟩
        · exact ⟨_, _, rfl, .inr ⟨by decide, h'⟩⟩
        · exact ⟨_, _, rfl, .inr ⟨by decide, h'⟩⟩
        · exact ⟨_, _, rfl, .inr ⟨by decide, h'⟩⟩
      · obtain ⟨x, rfl, hx⟩ := sS_cases h
        exact ⟨_, _, rfl, .inl ⟨rfl, x, rfl, hx⟩⟩
    obtain ⟨w2, r2, rfl, c2⟩ : ∃ (w2 : Str) (r2 : List PyData), d2 = .tuple (.str w2 :: r2) ∧ ((w2 = "store" ∧ ∃ a b c d x, r2 = [a, b, c, d, x] ∧ isTr n x = true) ∨ (w2 ≠ "store" ∧ isTr (n + 1) (.tuple (.str w2 :: r2)) = true)) := by
      rcases hT with h | h
      · have h' := h
        obtain ⟨w, x, ts, rfl, n1, _, _⟩ := tr_cases h
        exact ⟨_, _, rfl, .inr ⟨n1, h'⟩⟩
      · obtain ⟨a, b, c, d, x, rfl, hx⟩ := sT_cases h
        exact ⟨_, _, rfl, .inl ⟨rfl, a, b, c, d, x, rfl, hx⟩⟩
    have k : ∀ H', Ex H H' → Q (.bl (fit (n + 1) (.tuple (.str w1 :: r1)) (.tuple (.str w2 :: r2)))) H' := fun H' x => k _ G H' (Gr.keep s x) (.bl _)
    refine ⟨_, (pss_cons (ps_if (PW.pt (pw_or (pt_cmpR (op_eqS hr.units0) (pe_ix ix_tup (pv 0) pe_int (fun _ _ => rfl)) (pe_gStr (by rfl) T.g_STORE) (nomark _)) (pw_or1 (pt_cmpR (op_eqS hr.units0) (pe_ix ix_tup (pv 1) pe_int (fun _ _ => rfl)) (pe_gStr (by rfl) T.g_STORE) (nomark _)))))
 (pss_one (ps_ret (pe_and (pe_cmpR op_eq (pe_ix ix_tup (pv 0) pe_int (fun _ _ => rfl)) (pe_ix ix_tup (pv 1) pe_int (fun _ _ => rfl)) (nomark _)) (pe_one (pe_callD D_is_fit (hr.mono (by omega)) pass0 (pa_cons (pe_ix ix_tup (pv 0) pe_int (fun _ _ => rfl)) (pa_cons (pe_ix ix_tup (pv 1) pe_int (fun _ _ => rfl)) pa_nil)))))))
 pss_nil)
 (pss_cons (ps_if (pt_cmpR (op_eqS hr.units0) (pe_ix ix_tup (pv 0) pe_int (fun _ _ => rfl)) (pe_gStr (by rfl) T.g_HOLE) (nomark _))
 (pss_one (ps_ret pe_bl))
 pss_nil)
 (pss_cons (ps_if (pt_cmpR op_ne (pe_ix ix_tup (pv 0) pe_int (fun _ _ => rfl)) (pe_ix ix_tup (pv 1) pe_int (fun _ _ => rfl)) (nomark _))
 (pss_one (ps_ret pe_bl))
 pss_nil)
 (pss_cons (ps_if (pt_cmpR (op_eqS hr.units0) (pe_ix ix_tup (pv 0) pe_int (fun _ _ => rfl)) (pe_gStr (by rfl) T.g_LOAD) (nomark _))
 (pss_one (ps_ret pe_bl))
 pss_nil)
 (pss_cons (ps_if (PW.pt (pw_or (pt_cmpR op_ne (pe_ix ix_tup (pv 0) pe_int (fun _ _ => rfl)) (pe_ix ix_tup (pv 1) pe_int (fun _ _ => rfl)) (nomark _)) (pw_or1 (pt_cmpR op_ne (pe_callB call_len_seq (by rfl) T.n_len (by decide +kernel) (pa_cons (pv 0) pa_nil)) (pe_callB call_len_seq (by rfl) T.n_len (by decide +kernel) (pa_cons (pv 1) pa_nil)) (nomark _)))))
 (pss_one (ps_ret pe_bl))
 pss_nil)
 (pss_one (ps_ret (pe_callB (cr_all rfl) (by rfl) T.n_all (by decide +kernel) (pa_cons (pe_lc (own := [("one", 2), ("other", 3)]) (g := (gTup K 2 (gCons (gName 2) (gCons (gName 3) gNil)))) (by rfl) sc_is_fit.nd (RZ.pi_zipA (by rfl) T.n_zip (pa_cons (pe_slice sl_tupA (pv 0) (po_some pe_int) po_none) (pa_cons (pe_slice sl_tupA (pv 1) (po_some pe_int) po_none) pa_nil))) (blkOk_by (own := [("one", 2), ("other", 3)]) (N := ["shape", "tree", "one", "other"]) (sc := defScope s_is_fit) (by decide +kernel)) (fun _ _ _ _ _ => (pg_tup (by rfl) (pgs_cons (pg_name (i := 2) sc_is_fit.nd rfl (Or.inl rfl)) (pgs_cons (pg_name (i := 3) sc_is_fit.nd rfl (Or.inl rfl)) pgs_nil)))) (fun _ _ _ _ _ => pts_nil) (fun _ _ _ _ _ => (pe_callD D_is_fit (hr.mono (by omega)) pass0 (pa_cons (pv 2) (pa_cons (pv 3) pa_nil))))) pa_nil))))))))), ?_⟩
    have i0 : EvD (tOp (rIxT K) (tVar 0) (tC (.int 0))) (start ["shape", "tree", "one", "other"] [v, v2]) G (.str w1) := evd_ixT (evd_var rfl hd) ev_c (atI_nat (j := 0) rfl)
    have j0 : EvD (tOp (rIxT K) (tVar 1) (tC (.int 0))) (start ["shape", "tree", "one", "other"] [v, v2]) G (.str w2) := evd_ixT (evd_var rfl hd2) ev_c (atI_nat (j := 0) rfl)
    have e0 : ixD (.tuple (.str w1 :: r1)) 0 = .str w1 := rfl
    have e0' : ixD (.tuple (.str w2 :: r2)) 0 = .str w2 := rfl
    rw [fit, e0, e0'] at k
    refine q_ifD s (et_or (et_test (ev_eqS i0 ev_c)) fun _ => et_test (ev_eqS j0 ev_c)) (fun hb H1 x1 => ?_) (fun hb H1 x1 => ?_)
    · rw [if_pos hb] at k
      refine Ev.ret (s.trans x1) (ev_andV (ev_eqSS (EvD.str_ i0) (EvD.str_ j0)) fun hq => ?_) (fun H2 x2 => k H2 (x1.trans x2))
      have hw : w1 = w2 := of_decide_eq_true hq
      subst hw
      have hst : w1 = "store" := by
        rcases Bool.or_eq_true_iff.mp hb with z | z
        · cases isS_eq z; rfl
        · cases isS_eq z; rfl
      rcases c1 with ⟨_, x, rfl, hx⟩ | ⟨z, _⟩
      · rcases c2 with ⟨_, a, b, c, d, y, rfl, hy⟩ | ⟨z, _⟩
        · refine EvD.bl_ (evd_call2 (e := .bool (fit n x y)) (evd_ixT (evd_var rfl hd) ev_c (atI_nat (j := 1) rfl)) (evd_ixT (evd_var rfl hd2) ev_c (atI_nat (j := 5) rfl)) ?_)
          unfold fFit
          cases n with
          | zero => cases hx
          | succ n => exact if_pos ⟨Nat.succ_pos _, by unfold fOk; rw [Nat.add_sub_cancel, hx, hy]; try rfl⟩
        · exact absurd hst z
      · exact absurd hst z
    · rw [if_neg (by rw [hb]; decide)] at k
      rw [Bool.or_eq_false_iff] at hb
      have c1 : isTs (n + 1) (.tuple (.str w1 :: r1)) = true := by
        rcases c1 with ⟨z, _⟩ | ⟨_, z⟩
        · subst z; cases hb.1
        · exact z
      have c2 : isTr (n + 1) (.tuple (.str w2 :: r2)) = true := by
        rcases c2 with ⟨z, _⟩ | ⟨_, z⟩
        · subst z; cases hb.2
        · exact z
      have s1 := s.trans x1
      dsimp only [tNext]
      refine q_ifD s1 (et_test (ev_eqS i0 ev_c)) (fun ha H2 x2 => ?_) (fun ha H2 x2 => ?_)
      · rw [if_pos ha] at k
        exact k _ (x1.trans x2)
      rw [ha, if_neg Bool.false_ne_true] at k
      have s2 := s1.trans x2
      have x12 := x1.trans x2
      refine q_ifD s2 (et_test (ev_neSS (EvD.str_ i0) (EvD.str_ j0))) (fun hc H3 x3 => ?_) (fun hc H3 x3 => ?_)
      · have : ¬ w1 = w2 := by simpa using hc
        rw [if_pos (show strOf (.str w1) ≠ strOf (.str w2) from this)] at k
        exact k _ (x12.trans x3)
      have hw : w1 = w2 := by simpa using hc
      subst hw
      rw [if_neg (show ¬ strOf (.str w1) ≠ strOf (.str w1) from fun z => z rfl)] at k
      have s3 := s2.trans x3
      have x13 := x12.trans x3
      refine q_ifD s3 (et_test (ev_eqS i0 ev_c)) (fun hl H4 x4 => ?_) (fun hl H4 x4 => ?_)
      · rw [if_pos hl] at k
        exact k _ (x13.trans x4)
      rw [hl, if_neg Bool.false_ne_true] at k
      have s4 := s3.trans x4
      have x14 := x13.trans x4
      rcases ts_cases c1 with (z | z) | ⟨x, ts, z, l3, hts⟩
      · cases z; cases ha
      · cases z; cases hl
      cases z
      obtain ⟨w, y, us, z, _, _, hus⟩ := tr_cases c2
      cases z
      obtain ⟨m3, hus⟩ := hus rfl
      have i1 : EvD (tOp (rIxT K) (tVar 0) (tC (.int 1))) (start ["shape", "tree", "one", "other"] [v, v2]) G (.str x) := evd_ixT (evd_var rfl hd) ev_c (atI_nat (j := 1) rfl)
      have j1 : EvD (tOp (rIxT K) (tVar 1) (tC (.int 1))) (start ["shape", "tree", "one", "other"] [v, v2]) G (.str y) := evd_ixT (evd_var rfl hd2) ev_c (atI_nat (j := 1) rfl)
      refine q_ifD s4 (et_or (et_test (ev_neSS (EvD.str_ i1) (EvD.str_ j1))) fun _ => et_test (ev_neI (ev_lenT (evd_var rfl hd)) (ev_lenT (evd_var rfl hd2)))) (fun hn H5 x5 => ?_) (fun hn H5 x5 => ?_)
      · rw [if_pos] at k
        · exact k _ (x14.trans x5)
        · show x ≠ y ∨ (PyData.str "op" :: .str x :: ts).length ≠ (PyData.str "op" :: .str y :: us).length
          rw [Bool.or_eq_true_iff] at hn
          rcases hn with hn | hn
          · exact .inl (by simpa using hn)
          · refine .inr fun z => ?_
            rw [z] at hn
            simp at hn
      rw [Bool.or_eq_false_iff] at hn
      rw [if_neg] at k
      · have e3 : (((restD (.tuple (.str "op" :: .str x :: ts))).zip (restD (.tuple (.str "op" :: .str y :: us)))).all fun p => fit n p.1 p.2) = (((ts.zip us).map fun p => fit n p.1 p.2).all id) := by rw [List.all_map]; rfl
        rw [e3] at k
        refine Ev.ret (s4.trans x5) (ev_allD (K := K) (EvD.is (evd_lcZ (ds := ts) (es := us) (fun p q => .bool (fit n p q)) (EvD.is (evd_sl (evd_var rfl hd) (EvO.some_ ev_c) EvO.none_) ?_) (EvD.is (evd_sl (evd_var rfl hd2) (EvO.some_ ev_c) EvO.none_) ?_) (by omega) (fun _ _ => rfl) (fun p hp x y G1 _ h1 h2 => evd_call2 (evd_var rfl h1) (evd_var rfl h2) ?_)) ?_)) (fun H6 x6 => k H6 ((x14.trans x5).trans x6))
        · rw [show (2 : Int) = ((2 : Nat) : Int) from rfl, cutD_from]; rfl
        · rw [show (2 : Int) = ((2 : Nat) : Int) from rfl, cutD_from]; rfl
        · have g1 := hts p.1 (List.of_mem_zip hp).1
          have g2 := hus p.2 (List.of_mem_zip hp).2
          unfold fFit
          cases n with
          | zero => cases g1
          | succ n => exact if_pos ⟨Nat.succ_pos _, by unfold fOk; rw [Nat.add_sub_cancel, g1, g2]; try rfl⟩
        · rw [List.map_map]; rfl
      · intro z
        rcases z with z | z
        · have : x = y := by simpa using hn.1
          exact z this
        · have h2 := hn.2
          simp only [Bool.not_eq_false', decide_eq_true_eq] at h2
          have h3 : (PyData.str "op" :: .str x :: ts).length ≠ (PyData.str "op" :: .str y :: us).length := z
          omega
  · cases he
/-- the value is a shape and f is told, or InvalidArgument is let out -/
def spQ (CB : Addr) (f : PyData → PyData) : Sp := fun vs H Q E => ∃ G v d, vs = [v] ∧ Ex G H ∧ Da G v d ∧ (isSh d = true → ∀ v' G' H', Gr G H G' H' → Da G' v' (f d) → Q v' H') ∧ (isSh d = false → ∀ d' H', Ex H H' → E (.ref CB) d' H')
theorem spQ_len {f : PyData → PyData} {vs : List V} {H : Hp} {Q : VK} {E : XK} (h : spQ CB f vs H Q E) : vs.length = 1 := by
  obtain ⟨G, v, d, rfl, _⟩ := h
  rfl
theorem ok_require_shape (T : Txt P K mg CA CB CP fP) (D : Df K mg "require_shape" s_require_shape) (D_is_shape : DefOk P w K mg base CX0 8 "is_shape" ["value"] (spB isSh)) : DefOk P w K mg base (L2.CX P w) 9 "require_shape" ["value"] (spQ CB fun _ => .none) := by
  refine D.okX sc_require_shape (fun _ _ _ _ _ _ us hl => match us, hl with | [_], _ => rfl) (fun vs H Q E h => spQ_len h) (fun f cdv A outer s H vs Q E hr h => ?_)
  obtain ⟨G, v, d, rfl, s, hd, k1, k2⟩ := h
  refine ⟨_, (pss_one (ps_if (pt_not (pt_val (pe_callD D_is_shape (hr.mono (by decide)) pass0 (pa_cons (pv 0) pa_nil))))
 (pss_one (ps_raise rfl (takes_of rfl rfl rfl rfl) (pmk_own PySem.F.excBase_ValueError T.xB T.gB T.kB (raises_own T.bB T.tB) rfl)))
 pss_nil)), ?_⟩
  refine (et_not (et_B (ev_callB (evd_var rfl hd)))) H s _ fun H2 x2 => ?_
  cases c : isSh d with
  | true => exact if_no rfl (k1 c _ G _ (Gr.keep s x2) .non)
  | false => exact if_so rfl (k2 c _ _ x2)
/-- a tree, or a statement that stores -/
def okT (t : PyData) : Bool := isTr 4 t || (isSt t && isS "store" (hd0 t))
def spFits (CA CB : Addr) : Sp := fun vs H Q E => ∃ G v v2 d d2, vs = [v, v2] ∧ Ex G H ∧ Da G v d ∧ Da G v2 d2 ∧ (isSh d = true → okT d2 = true → ∀ H', Ex H H' → Q (.bl (fit 6 d d2)) H') ∧ (isSh d = false → ∀ d' H', Ex H H' → E (.ref CB) d' H') ∧ (isSh d = true → okT d2 = false → ∀ d' H', Ex H H' → E (.ref CA) d' H')
theorem sh_fOk {d t : PyData} (h : isSh d = true) (ht : okT t = true) : fOk 5 d t = true := by
  have e1 : (isTs 6 d || stS 5 d) = true := by
    cases d with
    | tuple ds =>
      unfold isSh at h
      dsimp only at h
      split at h
      · rename_i c
        rw [Bool.and_eq_true] at h
        match ds, c.1, c.2, h.1 with
        | [a, b], _, c2, h1 =>
          have : stS 5 (.tuple [a, b]) = true := by
            show (isS "store" a && isTs 5 b) = true
            rw [show isS "store" a = true from c2, isTs_succ 4 b h1]
            rfl
          rw [this, Bool.or_true]
      · rw [Bool.and_eq_true] at h
        rw [isTs_succ 5 _ h.1]
        rfl
    | _ => cases h
  have e2 : (isTr 6 t || stT 5 t) = true := by
    unfold okT at ht
    rcases Bool.or_eq_true_iff.mp ht with z | z
    · rw [isTr_succ 5 t (isTr_succ 4 t z)]
      rfl
    · rw [Bool.and_eq_true] at z
      cases t with
      | tuple ds =>
        have z1 := z.1
        unfold isSt at z1
        dsimp only at z1
        split at z1
        · rename_i c
          match ds, c.1, c.2, z.2 with
          | [a, b, x], _, c2, z2 =>
            have c2 : isS "set" a = true := c2
            have z2 : isS "store" a = true := z2
            cases isS_eq c2
            cases z2
        · split at z1
          · rename_i c
            match ds, c.1, c.2, z1 with
            | [a, b, c, d, e, x], _, c2, z1 =>
              simp only [Bool.and_eq_true] at z1
              have : stT 5 (.tuple [a, b, c, d, e, x]) = true := by
                show (isS "store" a && isTr 5 x) = true
                rw [show isS "store" a = true from c2, isTr_succ 4 x z1.2.2.2.2.2]
                rfl
              rw [this, Bool.or_true]
          · cases z1
      | _ => cases z.1
  unfold fOk
  rw [e1, e2]
  rfl
theorem ok_fits (T : Txt P K mg CA CB CP fP) (D : Df K mg "fits" s_fits) (D_require_shape : DefOk P w K mg base (L2.CX P w) 9 "require_shape" ["value"] (spQ CB fun _ => .none)) (D_is_tree : DefOk P w K mg base CX0 9 "is_tree" ["value"] (spB (isTr 4))) (D_is_statement : DefOk P w K mg base CX0 10 "is_statement" ["value"] (spB isSt))
    (D_is_fit : DefOk P w K mg base CX0 7 "is_fit" ["shape", "tree"] (sp2 (fFit 6))) : DefOk P w K mg base (L2.CX P w) 11 "fits" ["shape", "tree"] (spFits CA CB) := by
  refine D.okX sc_fits (fun _ _ _ _ _ _ us hl => match us, hl with | [_, _], _ => rfl) (fun vs H Q E h => ?_) (fun f cdv A outer s H vs Q E hr h => ?_)
  · obtain ⟨G, v, v2, d, d2, rfl, _⟩ := h
    rfl
  obtain ⟨G, v, v2, d, d2, rfl, s, hd, hd2, k1, k2, k3⟩ := h
  refine ⟨_, (pss_cons (ps_expr (pe_callD D_require_shape (hr.mono (by decide)) (passes_call (takes_of rfl rfl rfl rfl) (fun _ _ _ _ h => h)) (pa_cons (pv 0) pa_nil)))
 (pss_cons (ps_if (PW.pt (pw_and (pt_not (pt_val (pe_callD D_is_tree (hr.mono (by decide)) pass0 (pa_cons (pv 1) pa_nil)))) (pw_and1 (pt_not (PW.pt (pw_and (pt_val (pe_callD D_is_statement (hr.mono (by decide)) pass0 (pa_cons (pv 1) pa_nil))) (pw_and1 (pt_cmpR (op_eqS hr.units0) (pe_ix ix_tup (pv 1) pe_int (fun _ _ => rfl)) (pe_gStr (by rfl) T.g_STORE) (nomark _)))))))))
 (pss_one (ps_raise rfl (takes_of rfl rfl rfl rfl) (pmk_own PySem.F.excBase_ValueError T.xA T.gA T.kA (raises_own T.bA T.tA) rfl)))
 pss_nil)
 (pss_one (ps_ret (pe_callD D_is_fit (hr.mono (by decide)) pass0 (pa_cons (pv 0) (pa_cons (pv 1) pa_nil))))))), ?_⟩
  refine ⟨_, rfl, G, v, d, rfl, s, hd, fun c v' G' H' r _ => ?_, k2⟩
  have hd' := hd.up r.g
  have hd2' := hd2.up r.g
  have tt : EvT _ _ G' (!okT d2) := et_is (et_and (et_not (et_B (ev_callB (f := isTr 4) (te := tVar 1) (E := E0) (σ := start ["shape", "tree"] [v, v2]) (evd_var rfl hd2')))) fun h1 => et_not (et_and (et_B (ev_callB (f := isSt) (te := tVar 1) (E := E0) (evd_var rfl hd2'))) fun h2 => et_test (ev_eqS (d := hd0 d2) (z := "store") (ta := tOp (rIxT K) (tVar 1) (tC (.int 0))) (tb := tC (.str "store")) (by
      cases d2 with
      | tuple ds =>
        cases ds with
        | nil => cases h2
        | cons a b => exact evd_ixT (evd_var rfl hd2') ev_c (atI_nat (j := 0) rfl)
      | _ => cases h2) ev_c))) (by unfold okT; rw [Bool.not_or])
  dsimp only
  refine q_ifD r.s tt (fun hb H1 x1 => ?_) (fun hb H1 x1 => ?_)
  · have : okT d2 = false := by simpa using hb
    exact k3 c this _ _ (r.h.trans x1)
  · have : okT d2 = true := by simpa using hb
    refine Ev.ret (r.s.trans x1) (EvD.bl_ (evd_call2 (e := .bool (fit 6 d d2)) (evd_var rfl hd') (evd_var rfl hd2') ?_)) (fun H2 x2 => k1 c this H2 ((r.h.trans x1).trans x2))
    unfold fFit
    rw [if_pos ⟨by decide, sh_fOk c this⟩]
end
end My
set_option maxHeartbeats 4000000
/-! The words of shapes, and the paths in them; plain -/
namespace Tr
open PySem Lf
def wds : Nat → PyData → List Str
  | 0, _ => []
  | n + 1, d => if isS "store" (ixD d 0) = true then "=" :: wds n (ixD d 1) else if isS "hole" (ixD d 0) = true then ["_"] else if isS "load" (ixD d 0) = true then ["@"]
    else strOf (ixD d 1) :: "(" :: ((restD d).flatMap (fun t => wds n t) ++ [(")" : Str)])
def sOk (n : Nat) (d : PyData) : Bool := isTs (n + 1) d || stS n d
theorem wds_len : ∀ (n : Nat) (d : PyData), sOk (n - 1) d = true → (wds n d).length ≤ 4 ^ n := by
  intro n
  induction n with
  | zero => intro d _; exact Nat.zero_le _
  | succ n ih =>
    intro d h
    rw [Nat.add_sub_cancel] at h
    have p1 : 1 ≤ 4 ^ n := Nat.one_le_pow _ _ (by decide)
    have p2 : 4 ^ (n + 1) = 4 * 4 ^ n := by rw [Nat.pow_succ]; omega
    unfold sOk at h
    rcases Bool.or_eq_true_iff.mp h with h | h
    · rcases ts_cases h with (rfl | rfl) | ⟨x, ts, rfl, h3, hts⟩
      · show 1 ≤ _; omega
      · show 1 ≤ _; omega
      · show (x :: ("(" : Str) :: (ts.flatMap (fun t => wds n t) ++ [(")" : Str)])).length ≤ _
        have hb : ∀ (l : List PyData), (∀ t ∈ l, isTs n t = true) → (l.flatMap fun t => wds n t).length ≤ l.length * 4 ^ n := fun l => by
          induction l with
          | nil => intro _; exact Nat.zero_le _
          | cons b l ihl =>
            intro hl
            rw [List.flatMap_cons, List.length_append, List.length_cons, Nat.succ_mul]
            have hb := hl b (List.mem_cons_self ..)
            have : (wds n b).length ≤ 4 ^ n := ih b (by
              cases n with
              | zero => cases hb
              | succ n => unfold sOk; rw [Nat.add_sub_cancel, hb]; rfl)
            have := ihl fun t ht => hl t (List.mem_cons_of_mem _ ht)
            omega
        have h4 := hb ts hts
        have h5 : ts.length * 4 ^ n ≤ 3 * 4 ^ n := Nat.mul_le_mul_right _ h3
        cases n with
        | zero =>
          have : ts = [] := by
            cases ts with
            | nil => rfl
            | cons a l => have := hts a (List.mem_cons_self ..); cases this
          subst this
          show 3 ≤ 4
          decide
        | succ n =>
          have p3 : 4 ≤ 4 ^ (n + 1) := by rw [Nat.pow_succ]; have := Nat.one_le_pow n 4 (by decide); omega
          simp only [List.length_cons, List.length_append, List.length_nil]
          omega
    · obtain ⟨x, rfl, hx⟩ := sS_cases h
      show ((("=" : Str)) :: wds n x).length ≤ _
      have : (wds n x).length ≤ 4 ^ n := ih x (by
        cases n with
        | zero => cases hx
        | succ n => unfold sOk; rw [Nat.add_sub_cancel, hx]; rfl)
      rw [List.length_cons]
      omega
def pin : Nat → PyData → Str → List PyData → List PyData
  | n + 1, .tuple ds, w, p => (if isS w (ds.getD 0 .none) = true then [.tuple p] else []) ++ (List.range (bel ds).length).flatMap fun j => pin n ((bel ds).getD j .none) w (p ++ [.int (j : Nat)])
  | _, _, _, _ => []
def pinTo (n : Nat) (bs : List PyData) (w : Str) (p : List PyData) (i : Nat) : List PyData := (List.range i).flatMap fun j => pin n (bs.getD j .none) w (p ++ [.int (j : Nat)])
theorem pinTo_succ (n : Nat) (bs : List PyData) (w : Str) (p : List PyData) (i : Nat) : pinTo n bs w p (i + 1) = pinTo n bs w p i ++ pin n (bs.getD i .none) w (p ++ [.int (i : Nat)]) := by
  unfold pinTo
  rw [List.range_succ, List.flatMap_append]
  simp
theorem pin_len : ∀ (n : Nat) (d : PyData) (w : Str) (p : List PyData), wks n d = true → (pin n d w p).length ≤ 5 ^ n := by
  intro n
  induction n with
  | zero => intro d w p h; cases d <;> cases h
  | succ n ih =>
    intro d w p h
    obtain ⟨w0, r, rfl⟩ := wks_tup h
    obtain ⟨h4, hall⟩ := wks_cons h
    rw [pin, List.length_append]
    have hb : ∀ i, i ≤ (bel (w0 :: r)).length → (pinTo n (bel (w0 :: r)) w p i).length ≤ i * 5 ^ n := fun i => by
      induction i with
      | zero => intro _; exact Nat.zero_le _
      | succ i ihi =>
        intro hi
        rw [pinTo_succ, List.length_append, Nat.succ_mul]
        have hm : (bel (w0 :: r)).getD i .none ∈ bel (w0 :: r) := by rw [List.getD_eq_getElem?_getD, List.getElem?_eq_getElem (by omega)]; exact List.getElem_mem _
        have := ih _ w (p ++ [.int (i : Nat)]) (hall _ hm)
        have := ihi (by omega)
        omega
    have h5 : ((List.range (bel (w0 :: r)).length).flatMap fun j => pin n ((bel (w0 :: r)).getD j .none) w (p ++ [.int (j : Nat)])).length ≤ (bel (w0 :: r)).length * 5 ^ n := hb _ (Nat.le_refl _)
    have h6 : (bel (w0 :: r)).length * 5 ^ n ≤ 4 * 5 ^ n := Nat.mul_le_mul_right _ h4
    have p1 : 1 ≤ 5 ^ n := Nat.one_le_pow _ _ (by decide)
    have p2 : 5 ^ (n + 1) = 5 * 5 ^ n := by rw [Nat.pow_succ]; omega
    have h7 : (if isS w ((w0 :: r).getD 0 .none) = true then [PyData.tuple p] else []).length ≤ 1 := by split <;> simp
    omega
theorem pinTo_len {n : Nat} {bs : List PyData} (hall : ∀ t ∈ bs, wks n t = true) (w : Str) (p : List PyData) : ∀ i, i ≤ bs.length → (pinTo n bs w p i).length ≤ i * 5 ^ n := by
  intro i
  induction i with
  | zero => intro _; exact Nat.zero_le _
  | succ i ihi =>
    intro hi
    rw [pinTo_succ, List.length_append, Nat.succ_mul]
    have hm : bs.getD i .none ∈ bs := by rw [List.getD_eq_getElem?_getD, List.getElem?_eq_getElem (by omega)]; exact List.getElem_mem _
    have := pin_len n _ w (p ++ [.int (i : Nat)]) (hall _ hm)
    have := ihi (by omega)
    omega
end Tr
set_option maxHeartbeats 4000000
/-! (*t, ..), [*l, ..] of data; [e for x in t for y in l] -/
namespace Lf
open PySem L2 Evl StX
section
variable {K : PySem.W.Frag} {σ : L2.St} {G : Hp} {ta tb te tl t1 : TE} {tr : TA} {ds es : List PyData}
theorem evd_starT (h : EvD te σ G (.tuple ds)) (hr : EvDs tr σ G es) : EvDs (tStar K te tr) σ G (ds ++ es) := fun G1 H1 x s Q q => h G1 H1 x s _ fun v G2 H2 r hd => by
  obtain ⟨a, xs, rfl, e, hs⟩ := hd.tup_
  exact ⟨a, xs, rfl, .inl (SqT.of (r.s _ _ e)), hr G2 H2 (x.trans r.g) r.s _ fun vs G3 H3 r3 hds => q (xs ++ vs) G3 H3 (r.trans r3) ((hs.up r3.g).app hds)⟩
theorem evd_starL (h : EvD te σ G (.list ds)) (hr : EvDs tr σ G es) : EvDs (tStar K te tr) σ G (ds ++ es) := fun G1 H1 x s Q q => h G1 H1 x s _ fun v G2 H2 r hd => by
  obtain ⟨a, xs, rfl, e, hs⟩ := hd.lst_
  exact ⟨a, xs, rfl, .inr (SqL.of (r.s _ _ e)), hr G2 H2 (x.trans r.g) r.s _ fun vs G3 H3 r3 hds => q (xs ++ vs) G3 H3 (r.trans r3) ((hs.up r3.g).app hds)⟩
/-- what a comprehension of two clauses has made, while the inner one walks a list known in G2 -/
structure LcJ (G1 H1 G2 : Hp) (D : Addr) (H' : Hp) (ds : List PyData) : Prop where
  w : ∃ G' ys, Gr G1 H1 G' H' ∧ Ex G2 G' ∧ G' D = none ∧ H' D = some (.lst ys) ∧ DaAll G' ys ds
theorem evd_lc2 {i j : Nat} {vs vs1 : List Nat} (ess : PyData → List PyData) (f : PyData → PyData → PyData) (h : EvD tl σ G (.tuple ds)) (hz : (ds.flatMap ess).length ≤ 50000) (hw : ∀ x, wipe ((wipe σ vs).set i (some x)) vs = wipe σ vs)
    (h1 : ∀ d ∈ ds, ∀ v G1, Ex G G1 → Da G1 v d → EvD t1 ((wipe σ vs).set i (some v)) G1 (.list (ess d))) (hw1 : ∀ v y, wipe ((wipe ((wipe σ vs).set i (some v)) vs1).set j (some y)) vs1 = wipe ((wipe σ vs).set i (some v)) vs1)
    (he : ∀ d ∈ ds, ∀ e ∈ ess d, ∀ v y G1, Ex G G1 → Da G1 v d → Da G1 y e → EvD te ((wipe ((wipe σ vs).set i (some v)) vs1).set j (some y)) G1 (f d e)) :
    EvD (tLc2 (iTup K tl) (gName i) tYes (iList K t1) (gName j) tYes te vs vs1) σ G (.list (ds.flatMap fun d => (ess d).map (f d))) := fun G0 H0 x0 s0 Q q => h G0 H0 x0 s0 _ fun v0 G1 H1 r1 hd => by
  obtain ⟨a, xs, rfl, ea, hs⟩ := hd.tup_
  refine ⟨a, rfl, ⟨xs, SqT.of (r1.s _ _ ea)⟩, fun D hD => ⟨fun k m H' => m = xs.length - k ∧ k ≤ xs.length ∧ LcI G1 H1 D H' ((ds.take k).flatMap fun d => (ess d).map (f d)), ⟨xs.length, by simp, Nat.zero_le _, LcI.start r1.s hD⟩, ?_⟩⟩
  rintro k m H' ⟨rfl, hk, I⟩
  by_cases hlt : k < xs.length
  · obtain ⟨x, hx⟩ : ∃ x, xs[k]? = some x := ⟨_, List.getElem?_eq_getElem hlt⟩
    obtain ⟨d, hdi, hdv⟩ := hs.at hx
    have mem := List.mem_of_getElem? hdi
    have etake : ds.take (k + 1) = ds.take k ++ [d] := take_da hdi
    have hsum : ((ds.take k).flatMap ess).length + (ess d).length ≤ 50000 := by
      have : (ds.flatMap ess).length = ((ds.take (k + 1)).flatMap ess).length + ((ds.drop (k + 1)).flatMap ess).length := by
        rw [← List.length_append, ← List.flatMap_append, List.take_append_drop]
      rw [etake, List.flatMap_append, List.length_append] at this
      have e1 : ([d].flatMap ess).length = (ess d).length := by simp
      omega
    have lenM : ∀ l : List PyData, (l.flatMap fun d => (ess d).map (f d)).length = (l.flatMap ess).length := fun l => by
      induction l with
      | nil => rfl
      | cons b l ih => rw [List.flatMap_cons, List.flatMap_cons, List.length_append, List.length_append, ih, List.length_map]
    refine .inr ⟨⟨xs, x, SqT.of (I.sub _ _ ea), hx⟩, fun H3 => LcI G1 H1 D H3 ((ds.take (k + 1)).flatMap fun d => (ess d).map (f d)), fun H3 I3 => ⟨xs.length - (k + 1), by omega, rfl, hlt, I3⟩, ?_⟩
    rintro x' H3 ⟨rfl, hx'⟩
    have ex : x' = x := Option.some.inj ((hx' xs (SqT.of (I.sub _ _ ea))).symm.trans hx)
    subst ex
    refine ⟨hw x', ?_⟩
    dsimp only [tYes]
    rw [if_pos rfl]
    obtain ⟨G', ys, r, g1, g2, g3⟩ := I.w
    refine h1 d mem x' G' ((x0.trans r1.g).trans r.g) (hdv.up r.g) G' H3 (Ex.refl _) r.s _ fun v1 G2 H4 r2 hd1 => ?_
    obtain ⟨b, zs, rfl, eb, hzs⟩ := hd1.lst_
    refine ⟨b, rfl, ⟨zs, SqL.of (r2.s _ _ eb)⟩, fun j' m' H5 => m' = zs.length - j' ∧ j' ≤ zs.length ∧ LcJ G1 H1 G2 D H5 (((ds.take k).flatMap fun d => (ess d).map (f d)) ++ ((ess d).take j').map (f d)), ⟨zs.length, by simp, Nat.zero_le _, ⟨G2, ys, r.trans r2, Ex.refl _, r2.n D (by rw [g2]; simp) g1, r2.h _ _ g2, by simpa using g3.up r2.g⟩⟩, ?_⟩
    rintro j' m' H5 ⟨rfl, hj, J⟩
    obtain ⟨G5, ys5, r5, x5, n5, d5, a5⟩ := J.w
    by_cases hlt2 : j' < zs.length
    · obtain ⟨z, hzj⟩ : ∃ z, zs[j']? = some z := ⟨_, List.getElem?_eq_getElem hlt2⟩
      obtain ⟨e, hei, hev⟩ := hzs.at hzj
      refine .inr ⟨⟨zs, z, SqL.of (r5.s _ _ (x5 _ _ eb)), hzj⟩, fun H6 => LcJ G1 H1 G2 D H6 (((ds.take k).flatMap fun d => (ess d).map (f d)) ++ ((ess d).take (j' + 1)).map (f d)), fun H6 J6 => ⟨zs.length - (j' + 1), by omega, rfl, hlt2, J6⟩, ?_⟩
      rintro z' H6 ⟨rfl, hz'⟩
      have ez : z' = z := Option.some.inj ((hz' zs (SqL.of (r5.s _ _ (x5 _ _ eb)))).symm.trans hzj)
      subst ez
      refine ⟨hw1 x' z', ?_⟩
      dsimp only [tYes]
      rw [if_pos rfl]
      refine he d mem e (List.mem_of_getElem? hei) x' z' G5 ((x0.trans r1.g).trans r5.g) (hdv.up r5.g) (hev.up x5) G5 H6 (Ex.refl _) r5.s _ fun v6 G6 H7 r6 hd6 => ⟨ys5, r6.h _ _ d5, ?_, ⟨G6, ys5 ++ [v6], ?_, x5.trans r6.g, r6.n D (by rw [d5]; simp) n5, upd_same, ?_⟩⟩
      · rw [a5.len, List.length_append, lenM, List.length_map, List.length_take]
        have hje : j' < (ess d).length := by rw [← hzs.len]; exact hlt2
        exact Nat.lt_of_le_of_lt (by omega : _ ≤ 50000) (by decide)
      · have nD : G6 D = none := r6.n D (by rw [d5]; simp) n5
        have r7 := r5.trans r6
        exact ⟨Ex.mut r7.h I.fr, r7.g, fun a o h => by rw [upd_ne (fun e => by rw [e, nD] at h; cases h)]; exact r7.s _ _ h, r7.n, r7.t⟩
      · rw [take_da hei, List.map_append, ← List.append_assoc]
        exact (a5.up r6.g).app (.cons hd6 .nil)
    · have ej : j' = zs.length := by omega
      subst ej
      refine .inl ⟨⟨zs, SqL.of (r5.s _ _ (x5 _ _ eb)), Nat.le_refl _⟩, ⟨⟨G5, ys5, r5, n5, d5, ?_⟩, I.fr⟩⟩
      rw [hzs.len, List.take_length] at a5
      rw [etake, List.flatMap_append]
      simpa using a5
  · have ek : k = xs.length := by omega
    subst ek
    rw [hs.len, List.take_length] at I
    obtain ⟨G3, r3, h3⟩ := I.done
    exact .inl ⟨⟨xs, SqT.of (I.sub _ _ ea), Nat.le_refl _⟩, q (.ref D) G3 H' (r1.trans r3) h3⟩
end
end Lf
set_option maxHeartbeats 4000000
/-! max(l, default=d) of a list of whole numbers -/
namespace Lf
open PySem PySem.F PySem.Spec PyProof.Rows L2 Evl
section
variable {prog : Program} {w : World} {A : Around} {E : Value → Shared → Prop} {s : Shared}
theorem fn_tree_kw {id : String} {b : Builtin} {args : List Value} {kw : List (Str × Value)} {Q : Value → Shared → Prop} (hk : builtinKind id = none) (hp : plainId id = true)
    (hb : entryFor table id = some b) (ha : argsOk id ⟨args, kw⟩)
    (hc : wpAny (model prog w) A.in1 (b ⟨args, kw⟩) (fun fin s' => match fin with
      | .done f => (match (Except.ok f : Result) with | .ok (.ret v) => Q v s' | .ok _ => False | .error e => E e s')
      | .again c' => c'.quiet = true ∧ codeAny (model prog w) A c' (fun r s' => match r with | .ok (.ret v) => Q v s' | .ok _ => False | .error e => E e s') s') E s) :
    wpAny (model prog w) A (call (.builtin id) args kw) Q E s := by
  refine wpAny_call (codeAny_call_builtin hp hb ?_)
  simp only [checkBuiltinCall, hk]
  cases hsig : Manifest.signature? id with
  | none => exact wpAny_pure hc
  | some sig =>
    have ha' : Bind.checkArgs id sig ⟨args, kw⟩ = pure () := by simpa only [argsOk, hsig] using ha
    simp only [ha']
    exact wpAny_pure hc
theorem args_max_df (a d : Value) : argsOk "max" ⟨[a], [("default", d)]⟩ := by unfold argsOk; kernel_rfl
theorem max_nm : (toString "max" ++ toString ".loop" : String) = "max.loop" := by decide
end
section
variable {prog : Program} {w : World} {A : Around} {R : Result → Shared → Prop} {I : Addr} {fp wr : List Addr} {n : Nat} {P : Nat → Value → Prop} {St : Nat → Heap → Prop} {d : Value}
/-- what the loop has found before it takes thing j -/
def BestAt (P : Nat → Value → Prop) (bt : Nat → Nat → Bool) : Nat → List Value → Prop
  | 0, l => l = []
  | j + 1, l => ∃ v, l = [v, v] ∧ P (argBest bt j) v
theorem max_loop_df (W : Walks prog w A.in1 I fp wr n P St) (bt : Nat → Nat → Bool) (hcmp : CmpOf prog w A.in1 .Gt P bt) (S : Addr) (hSf : S ∉ fp) :
    ∀ (k j : Nat) (s : Shared) (l : List Value) (c : Nat), n - j = k → j ≤ n → St j s.heap → BestAt P bt j l →
    s.heap.get? S = some { cls := .type "list", dict := none, data := .seq l.toArray c, slots := #[] } →
    (∀ v h' tk, (n = 0 → v = d) → (0 < n → P (argBest bt (n - 1)) v) → (∀ b o, b ∉ wr → b ≠ S → s.heap.get? b = some o → h'.get? b = some o) → R (.ok (.ret v)) { s with heap := h', toks := tk }) →
    codeAny (model prog w) A (.builtin "max.loop" ⟨[.ref I, .none, .ref S], [("default", d)]⟩) R s := by
  have hSw : S ∉ wr := fun h => hSf (W.sub _ h)
  intro k
  induction k with
  | zero =>
    intro j s l c hk hj hst hB hS hR
    have hin : j = n := by omega
    refine codeAny_builtin F.entry_max_loop ?_
    rw [Around.under_plainId F.plain_max_loop _]
    show wpAny _ A.in1 (seqItems? (.ref S) >>= _) _ _ s
    refine wpAny_bind (wpAny_seqItems hS rfl ?_)
    show wpAny _ A.in1 (tryCatch (pyNext (.ref I)) _ >>= _) _ _ s
    refine wpAny_bind (wpAny_tryCatch (W.done s _ _ (hin ▸ hst) fun h' tk hk' => ?_))
    have hS' := hk' S _ hSw hS
    cases j with
    | zero =>
      obtain rfl : l = [] := hB
      show wpAny _ A.in1 (rule _ >>= _) _ _ _
      refine wpAny_bind (wpAny_rule (wpAny_pure ?_))
      exact hR d _ tk (fun _ => rfl) (fun z => absurd z (by omega)) fun b o hbw hbS e => hk' b o hbw e
    | succ j =>
      obtain ⟨vb, rfl, hPb⟩ := hB
      show wpAny _ A.in1 (updateSeq S (fun _ => #[]) >>= _) _ _ _
      refine wpAny_bind ?_
      refine wpAny_updateSeq hS' rfl (wpAny_bind (wpAny_letGo (wpAny_pure ?_)))
      exact hR vb _ tk (fun z => by omega) (fun _ => by rw [← hin]; exact hPb) fun b o hbw hbS e => (Heap.get?_update_other _ _ (Ne.symm hbS)).trans (hk' b o hbw e)
  | succ k ih =>
    intro j s l c hk hj hst hB hS hR
    have hlt : j < n := by omega
    refine codeAny_builtin F.entry_max_loop ?_
    rw [Around.under_plainId F.plain_max_loop _]
    show wpAny _ A.in1 (seqItems? (.ref S) >>= _) _ _ s
    refine wpAny_bind (wpAny_seqItems hS rfl ?_)
    show wpAny _ A.in1 (tryCatch (pyNext (.ref I)) _ >>= _) _ _ s
    refine wpAny_bind (wpAny_tryCatch (W.item j s _ _ hlt hst fun v h' tk hP hst' hk' => ?_))
    have hS' := hk' S _ hSw hS
    have put : ∀ x : Value, P (argBest bt j) x → codeAny (model prog w) A (.builtin "max.loop" ⟨[.ref I, .none, .ref S], [("default", d)]⟩) R { s with heap := h'.update S (Obj.mapSeq fun _ => #[x, x]), toks := tk } := fun x hx =>
      ih (j + 1) _ [x, x] _ (by omega) hlt (W.frame _ _ _ hst' fun b hbf o e => (Heap.get?_update_other _ _ (fun h : S = b => hSf (by rw [h]; exact hbf))).trans e) ⟨x, rfl, hx⟩ (Heap.get?_update_self _ hS' rfl)
        fun v' h'' tk'' h0 hP' hk'' => hR v' h'' tk'' h0 hP' fun b o hbw hbS e => hk'' b o hbw hbS ((Heap.get?_update_other _ _ (Ne.symm hbS)).trans (hk' b o hbw e))
    cases j with
    | zero =>
      obtain rfl : l = [] := hB
      show wpAny _ A.in1 (updateSeq S (fun _ => #[v, v]) >>= _) _ _ _
      refine wpAny_bind ?_
      refine wpAny_updateSeq hS' rfl ?_
      rw [max_nm]
      exact wpAny_pure ⟨plainId_quiet F.plain_max_loop _, put v hP⟩
    | succ j =>
      obtain ⟨vb, rfl, hPb⟩ := hB
      show wpAny _ A.in1 (tryCatch (holding [v, v] (richCompare .Gt v vb >>= _)) _ >>= _) _ _ _
      refine wpAny_bind (wpAny_tryCatch (wpAny_holding (wpAny_bind (hcmp (j + 1) (argBest bt j) v vb _ _ _ hP hPb ?_))))
      refine wpAny_bind (wpAny_holding (wpAny_truthy_bool ?_))
      refine wpAny_bind (wpAny_letGo (wpAny_pure ?_))
      cases hb : bt (j + 1) (argBest bt j) with
      | true =>
        simp only [if_true]
        refine wpAny_bind ?_
        refine wpAny_updateSeq hS' rfl (wpAny_bind (wpAny_letGo ?_))
        rw [max_nm]
        exact wpAny_pure ⟨plainId_quiet F.plain_max_loop _, put v (by simp only [argBest, hb, if_true]; exact hP)⟩
      | false =>
        simp only [Bool.false_eq_true, if_false]
        refine wpAny_bind (wpAny_letGo ?_)
        rw [max_nm]
        refine wpAny_pure ⟨plainId_quiet F.plain_max_loop _, ih (j + 2) _ [vb, vb] c (by omega) hlt hst' ⟨vb, rfl, by simp only [argBest, hb, Bool.false_eq_true, if_false]; exact hPb⟩ hS' fun v' h'' tk'' h0 hP' hk'' => ?_⟩
        exact hR v' h'' tk'' h0 hP' fun b o hbw hbS e => hk'' b o hbw hbS (hk' b o hbw e)
end
section
variable {prog : Program} {w : World} {A : Around} {E : Value → Shared → Prop} {s : Shared}
theorem max_df_raw {l : Addr} {its : List Value} {ns : List Int} {d : Value} {Q : Value → Shared → Prop} (hh : A.handled = none) (hl : s.heap.IsList l its.toArray) (hi : IntsAre its ns)
    (h : ∀ h' tk v, (∀ b o, s.heap.get? b = some o → h'.get? b = some o) → (ns = [] → v = d) → (0 < ns.length → ∃ M t', v = .int M t' ∧ M ∈ ns ∧ (∀ a, a ∈ ns → a ≤ M)) → Q v { s with heap := h', toks := tk }) : wpAny (model prog w) A (call (.builtin "max") [.ref l] [("default", d)]) Q E s := by
  obtain ⟨xs, e⟩ := hi.allInts.items
  have hn : numsOf (intItems xs).toList = ns := by rw [← e]; exact hi.numsOf
  rw [nums_intItems] at hn
  subst hn
  rw [e] at hl
  refine fn_tree_kw F.kind_max F.plain_max F.entry_max (args_max_df _ _) ?_
  show wpAny _ A.in1 (Builtin.Builtins.bindParams "max" ["key", "default"] 0 ⟨[], [("default", d)]⟩ >>= _) _ _ s
  refine wpAny_bind (wpAny_of_eq (show Builtin.Builtins.bindParams "max" ["key", "default"] 0 ⟨[], [("default", d)]⟩ = pure [none, some d] from rfl) ?_)
  refine wpAny_bind (wpAny_pure ?_)
  refine wpAny_bind (iter_intList hl fun s₂ e st hfp hlI => ?_)
  refine wpAny_bind (wpAny_newObj_type ?_)
  have W := Walks.list (prog := prog) (w := w) (A := A.in1) hh _ l hlI (intItems xs)
  have hSf : s₂.heap.objs.size ∉ [s.heap.objs.size, l] := fun hm => Nat.lt_irrefl _ (hfp _ hm)
  rw [max_nm]
  refine wpAny_pure ⟨plainId_quiet F.plain_max_loop _, max_loop_df W _ (CmpOf.ints_gt (numAt xs) (fun _ _ => intItems_at)) s₂.heap.objs.size hSf _ 0 _ [] _ rfl (Nat.zero_le _) (W.frame _ _ _ st fun b _ o e => Heap.get?_push_of_some _ e) rfl (Heap.get?_push_size _ rfl) fun v h' tk h0 hP hk => ?_⟩
  subst e
  have key := old_kept (h' := h') (fun b o hbw (e : _ = some o) => hk b o hbw (Nat.ne_of_lt (Heap.lt_size e)) (Heap.get?_push_of_some _ e))
  refine h h' tk v key (fun z => h0 ?_) (fun z => ?_)
  · have := congrArg List.length z
    simpa [intItems] using this
  · have hsz : 0 < xs.size := by simpa using z
    have hv := hP (by simpa [intItems] using hsz)
    obtain ⟨t, rfl⟩ := intItems_at hv
    obtain ⟨h1, h2⟩ := argBest_gt (numAt xs) (xs.size - 1)
    have hz' : (intItems xs).size = xs.size := by simp [intItems]
    rw [hz']
    refine ⟨_, t, rfl, ?_, fun a ha => ?_⟩
    · rw [numAt_eq]; exact PySem.getD_mem (by rw [List.length_map, Array.length_toList]; omega)
    · obtain ⟨j, hj, rfl⟩ := mem_getD ha
      rw [List.length_map, Array.length_toList] at hj
      rw [← numAt_eq]; exact h2 j (by omega)
end
section
variable {X : Cx}
def topI (d : Int) (ns : List Int) : Int := match ns with
  | [] => d
  | n :: r => r.foldl max n
def rMaxDf (K : PySem.W.Frag) : List V → List V → Hp → VK → Prop := fun xs zs H Q => ∃ (a : Addr) (ns : List Int) (d : Int), xs = [V.ref a] ∧ zs = [V.int d] ∧ SqL K H a (ns.map V.int) ∧ (ns = [] → Q (.int d) H) ∧ (∀ m, m ∈ ns → (∀ y, y ∈ ns → y ≤ m) → Q (.int m) H)
theorem cr_max_df (hc : X.calm = true) : CallRK X (.builtin "max") ["default"] (rMaxDf X.K) := by
  intro pins s σ H xs zs us ws Q I r rz h
  obtain ⟨a, ns, d, rfl, rfl, hs, q0, q⟩ := h
  obtain ⟨its, rv, hl, _⟩ := I.list hs
  rw [Vals.ref1 r]
  obtain ⟨dv, rfl, t, rfl⟩ : ∃ dv, ws = [dv] ∧ ∃ t, dv = .int d t := by
    cases rz with
    | cons h t => cases t; exact ⟨_, rfl, h⟩
  refine max_df_raw (I.ok.hd hc) hl.isList rv.ints fun h' tk v hk e0 e1 => ?_
  cases ns with
  | nil => exact ⟨.int d, H, I.kept hk, ⟨t, e0 rfl⟩, q0 rfl⟩
  | cons n ns =>
    obtain ⟨M, t', rfl, h1, h2⟩ := e1 (by simp)
    exact ⟨.int M, H, I.kept hk, ⟨_, rfl⟩, q M h1 h2⟩
end
end Lf
set_option maxHeartbeats 4000000
/-! d.update(e) -/
namespace Lf
open PySem PySem.Spec PyProof.Rows L2 Evl
theorem putK_len (kvs : List (Key × V)) (k : Key) (v : V) : (putK kvs k v).length ≤ kvs.length + 1 := by
  unfold putK
  split <;> simp
theorem mergeK_len (more : List (Key × V)) : ∀ kvs : List (Key × V), (mergeK kvs more).length ≤ kvs.length + more.length := by
  induction more with
  | nil => intro kvs; exact Nat.le_refl _
  | cons a t ih =>
    intro kvs
    have := ih (putK kvs a.1 a.2)
    have h2 := putK_len kvs a.1 a.2
    show (mergeK (putK kvs a.1 a.2) t).length ≤ _
    rw [List.length_cons]
    omega
def rDUpd : V → List V → Hp → VK → Prop := fun x vs H Q => ∃ (a b : Addr) (kvs more : List (Key × V)), x = .ref a ∧ vs = [.ref b] ∧ a ≠ b ∧ H a = some (.dK kvs) ∧ H b = some (.dK more) ∧ kvs.length + more.length ≤ sizeLine ∧ Q .non (upd H a (.dK (mergeK kvs more)))
theorem mtd_update {X : Cx} : MtR X "dict.update" rDUpd := by
  intro pins s σ H x vs v us Q I rx rv h
  obtain ⟨a, b, kvs, more, rfl, rfl, hab, ea, eb, hz, q⟩ := h
  obtain rfl : v = Value.ref a := rx
  rw [Vals.ref1 rv]
  obtain ⟨z, hd, vs, rel, dd⟩ := dk_of I.hok ea
  obtain ⟨z2, hd2, vs2, rel2, dd2⟩ := dk_of I.hok eb
  refine call_meetsIn PySem.F.slot_dict_update dd.typeIs PySem.F.entry_dict_update (PySem.F.args_dict_update_2 _ _) (meets_dict_update (mixKind X.prog X.w) a b hab hd2) ⟨vs, vs2, dd, dd2, by rw [← rel.length, ← rel2.length]; exact hz, fun h' dd' _ hs => ?_⟩
  have he : ∃ q, h'.get? a = some q := let ⟨q, _, _, hq, _⟩ := dd'; ⟨q, hq⟩
  exact ⟨.non, _, d_write (t' := s.toks) I (by rw [ea]; exact True.intro) hs he (dk_new (Nat.le_trans (mergeK_len _ _) hz) hd (KV.merge rel2 rel) dd'), rfl, q⟩
section
variable {X : Cx} {o e : Expr} {es : List Expr} {to : TE} {t : TA} {apos cpos : Pos}
theorem pe_dupdate (ho : PE X o to) (ha : PA X (e :: es) t) (hbase : attributeBase o "update" X.env (eval o X.env) = eval o X.env := by rfl)
    (hfew : ((backTo cpos (starEach (e :: es) X.env)).all (fun x => !x.1) && (backToKw cpos (keywordEach [] X.env)).all (fun x => x.1.isSome)
      && decide ((e :: es).length + ([] : List Keyword).length + (if ([] : List Keyword).isEmpty then 0 else 1) < 30)) = true := by rfl)
    (hline : (apos.endLine == cpos.line) = true := by rfl) (hs : starEach (e :: es) X.env = (false, eval e X.env) :: starEach es X.env := by rfl) (hplain : (backTo cpos (starEach es X.env)).any (·.1) = false := by rfl) :
    PE X (.Call (.Attribute o "update" apos) (e :: es) [] cpos) (tBM X.K "dict" rDUpd to t) :=
  pe_bm PySem.F.plainAttrs_dict PySem.F.slot_dict_update PySem.F.type_dict_update mtd_update ho ha hbase hfew hline hs hplain
end
end Lf
set_option maxHeartbeats 4000000
/-! enumerate(tuple) -/
namespace Lf
open PySem PySem.Spec PyProof.Rows L2 Evl
theorem draws_tuple {prog : Program} {w : World} {A : Around} (hh : A.handled = none) (it l : Addr) (hne : l ≠ it) (items : Array Value) :
    Draws prog w A it [it, l] items.size (fun i v => items[i]? = some v) (fun i h => h.IsTupleIter it l i ∧ h.IsTuple l items) where
  live := fun _ _ st => let ⟨o, ho, _⟩ := st.1; ⟨o, ho⟩
  frame := fun _ _ _ st hk => ⟨st.1.at fun o e => hk it (by simp) o e, let ⟨o, ho, r⟩ := st.2; ⟨o, hk l (by simp) o ho, r⟩⟩
  item := fun i s Q E hi st hQ => by
    refine RZ.nextOf_tuple_item st.1 st.2 (x := items[i]) (by simp [hi]) fun h' hit' hs' => ?_
    exact hQ _ h' s.toks (by simp [hi]) ⟨hit', let ⟨o, ho, r⟩ := st.2; ⟨o, (hs'.2 l hne).trans ho, r⟩⟩ hs'
  done := fun s Q E st hE => RZ.nextOf_tuple_end hh st.1 st.2 (by simp) hE
open AutoSeq1 (wpAny_loadPart') in
theorem enum_newT (l : Addr) (items : Array Value) (o : Obj) (hc : o.cls = .type "tuple") (hd : ∃ n, o.data = .seq items n) :
    Meets (Builtin.«enumerate.__new__» ⟨[.type "enumerate", .ref l], []⟩) (fun _ R s => s.heap.get? l = some o ∧
      R (.ok (.ret (.ref (s.heap.push { cls := .type "tuple_iterator", data := .fields #[.ref l, .int 0 0] }).objs.size)))
        { s with heap := (s.heap.push { cls := .type "tuple_iterator", data := .fields #[.ref l, .int 0 0] }).push { cls := .type "enumerate", data := .fields #[.none, .bool false, .ref s.heap.objs.size, rawInt 0, .none, .none] } }) :=
  .of_wp fun prog w A R s h => by
    obtain ⟨hp, g, d, tk, os⟩ := s; obtain ⟨hl, h⟩ := h
    have hsub := sub_enumerate
    have hL : Heap.IsTuple (Shared.heap ⟨hp, g, d, tk, os⟩) l items := ⟨o, hl, hc, hd⟩
    wp_walk using wpAny_loadPart' hl
    refine wpAny_stack_any fun st => wpAny_pure ?_
    split
    · rename_i c _ _ _ _ _
      cases (c == Value.type "enumerate")
      · wp_walk using wpAny_loadPart' hl, wpAny_pyIter_tuple hL
        exact ⟨_, rfl, h⟩
      · wp_walk using wpAny_loadPart' hl, wpAny_pyIter_tuple hL
        exact ⟨_, rfl, h⟩
    · wp_walk using wpAny_loadPart' hl, wpAny_pyIter_tuple hL
      exact ⟨_, rfl, h⟩
section
variable {prog : Program} {w : World} {A : Around} {E : Value → Shared → Prop} {s : Shared}
theorem call_enum_tuple {l : Addr} {items : Array Value} {Q : Value → Shared → Prop} (hL : s.heap.IsTuple l items)
    (h : ∀ h', IsEnum h' (s.heap.objs.size + 1) s.heap.objs.size 0 .none → h'.IsTupleIter s.heap.objs.size l 0 → h'.objs.size = s.heap.objs.size + 2 →
      (∀ b o, s.heap.get? b = some o → h'.get? b = some o) → Q (.ref (s.heap.objs.size + 1)) { s with heap := h' }) :
    wpAny (model prog w) A (call (.type "enumerate") [.ref l]) Q E s := by
  obtain ⟨o, hl, hc, hd⟩ := hL
  refine callType_new F.called_enumerate (by decide) (F.typeCall_enumerate_1 _) (F.newCall_enumerate_1 _) (fun obj => F.args_object_init_2 obj _) F.entry_enumerate_new
    (enum_newT l items o hc hd) ⟨hl, ?_⟩
  have hz : (s.heap.push { cls := .type "tuple_iterator", data := .fields #[.ref l, .int 0 0] }).objs.size = s.heap.objs.size + 1 := Heap.size_push ..
  show _ ∧ _
  rw [hz]
  have he : IsEnum ((s.heap.push { cls := .type "tuple_iterator", data := .fields #[.ref l, .int 0 0] }).push
      { cls := .type "enumerate", data := .fields #[.none, .bool false, .ref s.heap.objs.size, rawInt 0, .none, .none] }) (s.heap.objs.size + 1) s.heap.objs.size 0 .none := by
    have := Heap.get?_push_size (s.heap.push { cls := .type "tuple_iterator", data := .fields #[.ref l, .int 0 0] })
      (o := { cls := .type "enumerate", data := .fields #[.none, .bool false, .ref s.heap.objs.size, rawInt 0, .none, .none] }) rfl
    rw [hz] at this; exact this
  exact ⟨⟨_, he, rfl⟩, h _ he ⟨_, Heap.get?_push_of_some _ (Heap.get?_push_size _ rfl), rfl, rfl⟩ (by rw [Heap.size_push, hz]) fun b o x => Heap.get?_push_of_some _ (Heap.get?_push_of_some _ x)⟩
end
/-- the tuple at a, each item in a new pair -/
def IteT (K : PySem.W.Frag) (a : Addr) : It :=
  ⟨fun i H => ∃ (xs : List V) (x : V), SqT K H a xs ∧ xs[i]? = some x, fun i H v H' => ∃ T x, v = .ref T ∧ H T = none ∧ H' = upd H T (.tup [.int (i : Nat), x]) ∧ ∀ xs, SqT K H a xs → xs[i]? = some x, fun i H => ∃ xs : List V, SqT K H a xs ∧ xs.length = i⟩
theorem tup_apart {h : Heap} {a b : Addr} {items : Array Value} {o : Obj} {c : String} (ha : h.IsTuple a items) (hb : h.get? b = some o) (hc : o.cls = .type c) (hn : c ≠ "tuple") : a ≠ b := fun z => by
  obtain ⟨o', e, hc', _⟩ := ha
  rw [z, hb] at e
  cases e
  rw [hc] at hc'
  cases hc'
  exact hn rfl
theorem turn_enumT {P : Program} {w : World} {K : PySem.W.Frag} {elts : List Expr} {kk : Nat} {tpos : Pos} (a e it : Addr) :
    Turn P w K (.Tuple elts kk tpos) (IteT K a) [e, it] e (fun i h => (∃ old, IsEnum h e it ((i : Nat) : Int) old) ∧ h.IsTupleIter it a i ∧ e ≠ it) where
  mem := by simp
  obj := fun i h st b hb => by
    obtain ⟨⟨old, he⟩, ⟨o, ho, hc, hd⟩, _⟩ := st
    have e' : b = e ∨ b = it := by simpa using hb
    rcases e' with z | z
    · rw [z]; exact ⟨_, he, fun v q => nomatch q⟩
    · rw [z]; exact ⟨o, ho, fun v q => by rw [hd] at q; cases q⟩
  keep := fun i h h' st k => let ⟨⟨old, he⟩, hi, hne⟩ := st; ⟨⟨old, k e (by simp) _ he⟩, hi.at fun o q => k it (by simp) o q, hne⟩
  item := by
    intro X hP hw hK hc i pins s σ H E I hf st hg
    subst hP hw hK
    obtain ⟨⟨old, he⟩, hit, hne⟩ := st
    obtain ⟨xs, x, hq, hx⟩ := hg
    obtain ⟨its, rv, p, hz⟩ := I.tuple hq
    have p : s.heap.IsTuple a its.toArray := p
    obtain ⟨u, hu, ru⟩ := rv.get hx
    have hel : e < s.heap.objs.size := Heap.lt_size he
    have hil : it < s.heap.objs.size := by obtain ⟨_, q, _⟩ := hit; exact Heap.lt_size q
    have hae : a ≠ e := tup_apart p he rfl (by decide)
    have hai : a ≠ it := by obtain ⟨oi, hoi, hci, _⟩ := hit; exact tup_apart p hoi hci (by decide)
    have hlt : i < its.toArray.size := by
      have := (List.getElem?_eq_some_iff.mp hu).1
      simpa using this
    refine wpAny_pyNext_enum_itemD (draws_tuple (A := X.A.in1) (I.ok.hd hc) it a hai its.toArray) he ⟨hit, p⟩ hlt hne (by simp [hne, Ne.symm hae]) fun y h' tk hP ho hst' hT hsz hk => ?_
    obtain rfl : u = y := by
      have : its[i]? = some y := by simpa using hP
      rw [hu] at this
      exact Option.some.inj this
    refine ⟨_, rfl, wpAny_letOwnedTupleGo_enum (s := { s with heap := h', toks := tk + 1 }) ho fun h'' he' sb => ?_⟩
    have hT2 : h''.get? s.heap.objs.size = some { cls := .type "tuple", data := .seq #[.int i tk, u] } := (sb.2 _ (Nat.ne_of_gt hel)).trans hT
    have new : ObjOk X.prog X.w (upd H s.heap.objs.size (.tup [.int (i : Nat), x])) h'' s.heap.objs.size (.tup [.int (i : Nat), x]) :=
      ⟨by show 2 ≤ sizeLine; decide, [.int i tk, u], .cons ⟨_, rfl⟩ (.cons ru .nil), ⟨_, hT2, rfl, _, rfl⟩⟩
    have I1 : Inv X pins σ (upd H s.heap.objs.size (.tup [.int (i : Nat), x])) { s with heap := h'', toks := tk + 1 } :=
      I.turnedNew (ch := [e, it]) (fun b ob hb q => (sb.2 b (fun z => hb (by simp [z]))).trans (hk b ob (fun z => hb (by simp [z])) (fun z => hb (by simp [z])) q)) hf (Nat.le_refl _) new
    refine ⟨.ref s.heap.objs.size, _, I1, rfl, ⟨_, x, rfl, I.hok.fresh (Nat.le_refl _), rfl, fun ys hy => by rw [I.tuple_inj hy hq]; exact hx⟩, ⟨⟨u, ?_⟩, hst'.1.at fun o q => (sb.2 it (Ne.symm hne)).trans q, hne⟩, fun b hb => ?_⟩
    · have e1 : ((i + 1 : Nat) : Int) = (i : Int) + 1 := by omega
      rw [e1]; exact he'
    · have hb' : b < s.heap.objs.size := by
        have e' : b = e ∨ b = it := by simpa using hb
        rcases e' with z | z
        · rw [z]; exact hel
        · rw [z]; exact hil
      rw [upd_ne (Nat.ne_of_lt hb')]
      exact (hf b hb).1
  done := by
    intro X hP hw hK hc i pins s σ H E I hf st hg
    subst hP hw hK
    obtain ⟨⟨old, he⟩, hit, hne⟩ := st
    obtain ⟨xs, hq, hx⟩ := hg
    obtain ⟨its, rv, p, hz⟩ := I.tuple hq
    have p : s.heap.IsTuple a its.toArray := p
    obtain ⟨f0, f1, f2, f3, f4, f5⟩ := hf it (by simp)
    have hl := rv.length
    have hai : a ≠ it := by obtain ⟨oi, hoi, hci, _⟩ := hit; exact tup_apart p hoi hci (by decide)
    have hn : its.toArray.size = i := by simp; omega
    exact wpAny_pyNext_enum_endD (draws_tuple (A := X.A.in1) (I.ok.hd hc) it a hai its.toArray) he ⟨by rw [hn]; exact hit, p⟩ fun h' eb => ⟨rfl, I.turned (t' := s.toks) (fun b o hb q => eb b o hb q) f0 f1 f3 f4 f5⟩
  self := fun A i s Q E st h => let ⟨⟨_, he⟩, _⟩ := st; wpAny_pyIter_enum he h
def iEnumT (K : PySem.W.Frag) (ta : TA) : TI := fun σ H R => ta σ H fun vs H1 => ∃ a xs, vs = [.ref a] ∧ SqT K H1 a xs ∧ R (IteT K a) H1
theorem pi_enumT {X : Cx} {e : Expr} {ta : TA} {p pos tpos : Pos} {elts : List Expr} {kk : Nat} (hg : Gl X "enumerate") (hm : X.mg "enumerate" = none) (ha : PA X [e] ta) (hs : starEach [e] X.env = [(false, eval e X.env)] := by rfl) :
    PI X (.Tuple elts kk tpos) (.Call (.Name "enumerate" p) [e] [] pos) (iEnumT X.K ta) := by
  refine ⟨fun pins s σ H R I h => ?_⟩
  refine Call_ (ld_blt I hg hm boot_enumerate (PyProof.Rows.callWith_type1 (thn (ha.run pos pins s σ H _ I h) fun us s1 ⟨vs, H1, I1, r1, q1⟩ => ?_) hs rfl))
  obtain ⟨a, xs, ex, hq, q⟩ := q1
  subst ex
  cases r1 with
  | cons r rr =>
    cases rr
    cases r
    obtain ⟨its, rv, p', hz⟩ := I1.tuple hq
    refine call_enum_tuple (show s1.heap.IsTuple a its.toArray from p') fun h' he hit hsz hk => wpAny_pyIter_enum he ?_
    have I2 : Inv X pins σ H1 { s1 with heap := h' } := I1.kept (t' := s1.toks) hk
    refine ⟨s1.heap.objs.size + 1, [s1.heap.objs.size + 1, s1.heap.objs.size], _, _, H1, rfl, I2, turn_enumT a (s1.heap.objs.size + 1) s1.heap.objs.size, ⟨⟨.none, he⟩, hit, Nat.succ_ne_self _⟩, fun b hb => ?_, q⟩
    have e' : b = s1.heap.objs.size + 1 ∨ b = s1.heap.objs.size := by simpa using hb
    have hle : s1.heap.objs.size ≤ b := by
      rcases e' with z | z
      · rw [z]; exact Nat.le_add_right _ _
      · rw [z]; exact Nat.le_refl _
    exact I1.fpOk hle (I1.hok.fresh hle)
end Lf
set_option maxHeartbeats 4000000
namespace My
open PySem L2 Lf Evl Tr StX
abbrev s_paths_in : Stmt := top 36
theorem sc_paths_in : FnScope ["shape", "word", "path", "found", "index", "one"] ["shape", "word", "path"] (defScope s_paths_in) := ⟨rfl, rfl, rfl, by decide +kernel, rfl, by decide +kernel, by decide +kernel⟩
abbrev s_holes : Stmt := top 37
theorem sc_holes : FnScope ["shape"] ["shape"] (defScope s_holes) := ⟨rfl, rfl, rfl, by decide +kernel, rfl, by decide +kernel, by decide +kernel⟩
abbrev s_loads : Stmt := top 38
theorem sc_loads : FnScope ["shape"] ["shape"] (defScope s_loads) := ⟨rfl, rfl, rfl, by decide +kernel, rfl, by decide +kernel, by decide +kernel⟩
abbrev s_words_of : Stmt := top 39
theorem sc_words_of : FnScope ["shape", "one", "word"] ["shape"] (defScope s_words_of) := ⟨rfl, rfl, rfl, by decide +kernel, rfl, by decide +kernel, by decide +kernel⟩
abbrev s_write_shape : Stmt := top 40
theorem sc_write_shape : FnScope ["shape"] ["shape"] (defScope s_write_shape) := ⟨rfl, rfl, rfl, by decide +kernel, rfl, by decide +kernel, by decide +kernel⟩
theorem walk_enumT {K : PySem.W.Frag} {a : Addr} {xs : List V} : Walk (IteT K a) xs.length (fun H => SqT K H a xs) (YPair (fun i => some (.int (i : Nat))) (fun i => xs[i]?)) := by
  refine ⟨fun i _ hi q => ⟨xs, xs[i], q, by simp [hi]⟩, fun _ q => ⟨xs, q, rfl⟩, fun i H v H' _ q y => ?_⟩
  obtain ⟨T, x, h1, h2, h3, h4⟩ := y
  exact ⟨T, .int (i : Nat), x, h1, h2, h3, rfl, h4 xs q⟩
theorem none_of_ex {H H' : Hp} {p : Addr} (x : Ex H H') (h : H' p = none) : H p = none := fresh_back x h
/-- a list that was made on the way comes into the view -/
theorem gr_add {G H G' H' : Hp} {q : Addr} {o : HO} (r : Gr G H G' H') (hq : H q = none) (hg : G' q = none) (hh : H' q = some o) (ho : dataO o = true) : Gr G H (upd G' q o) H' := by
  refine ⟨r.h, r.g.trans (Ex.new hg), fun a u h => ?_, fun a e1 e2 => ?_, fun a u h => ?_⟩
  · by_cases e : a = q
    · subst e
      rw [upd_same] at h
      cases h
      exact hh
    · rw [upd_ne e] at h
      exact r.s _ _ h
  · rw [upd_ne (fun e => e1 (by rw [e]; exact hq))]
    exact r.n a e1 e2
  · by_cases e : a = q
    · subst e
      rw [upd_same] at h
      cases h
      exact .inr ho
    · rw [upd_ne e] at h
      exact r.t a u h
/-- it changes -/
theorem gr_mut {G H G' H' : Hp} {q : Addr} {o : HO} (r : Gr G H G' H') (hq : H q = none) (hg : G' q = none) : Gr G H G' (upd H' q o) :=
  ⟨Ex.mut r.h hq, r.g, fun c u h => by rw [upd_ne (fun e => by rw [e, hg] at h; cases h)]; exact r.s _ _ h, r.n, r.t⟩
def spP (n : Nat) : Sp := spF fun ds => match ds with
  | [d, .str w, .tuple p] => if wks n d = true ∧ p.length + n ≤ 20 then some (.list (pin n d w p)) else none
  | _ => none
theorem spP_len {n : Nat} {vs : List V} {H : Hp} {Q : VK} {E : XK} (h : spP n vs H Q E) : vs.length = 3 := by
  refine spF_len (fun ds d e => ?_) h
  split at e
  · rfl
  · cases e
theorem spP_of {n : Nat} {vs : List V} {H : Hp} {Q : VK} {E : XK} (h : spP n vs H Q E) : ∃ G v d w v3 p, vs = [v, .str w, v3] ∧ Ex G H ∧ Da G v d ∧ w.length ≤ 1000 ∧ Da G v3 (.tuple p) ∧ wks n d = true ∧ p.length + n ≤ 20 ∧ ∀ v' G' H', Gr G H G' H' → Da G' v' (.list (pin n d w p)) → Q v' H' := by
  obtain ⟨G, ds, d, s, h2, h3, k⟩ := h
  dsimp only at h3
  split at h3
  · rename_i d' w p
    split at h3
    · rename_i hm
      cases h3
      cases h2 with
      | cons h t =>
        cases t with
        | cons h' t =>
          cases t with
          | cons h'' t =>
            cases t
            obtain ⟨rfl, hl⟩ := h'.str_
            exact ⟨G, _, d', w, _, p, rfl, s, h, hl, h'', hm.1, hm.2, k⟩
    · cases h3
  · cases h3
section
variable {P : Program} {w : World} {K : PySem.W.Frag} {mg : Str → Option Value} {base : Heap} {CA CB CP fP : Addr}
theorem ok_paths0 (D : Df K mg "paths_in" s_paths_in) : DefOk P w K mg base CX0 1 "paths_in" ["shape", "word", "path"] (spP 0) := by
  refine D.ok sc_paths_in (fun _ _ _ _ _ _ us hl => match us, hl with | [_, _, _], _ => rfl) (fun vs H Q E h => spP_len h) (fun f cdv A outer s H vs Q E hr h => ?_)
  obtain ⟨G, v, d, w, v3, p, rfl, s, hd, hwl, hd3, hw, _⟩ := spP_of h
  cases d <;> cases hw
theorem ok_pathsS (T : Txt P K mg CA CB CP fP) (D : Df K mg "paths_in" s_paths_in) {n l : Nat} (hl3 : 1 ≤ l) (hn5 : n ≤ 5) (D_paths_in : DefOk P w K mg base CX0 l "paths_in" ["shape", "word", "path"] (spP n)) (D_below_in : DefOk P w K mg base CX0 1 "below_in" ["shape"] (spO fBel)) :
    DefOk P w K mg base CX0 (l + 1) "paths_in" ["shape", "word", "path"] (spP (n + 1)) := by
  refine D.ok sc_paths_in (fun _ _ _ _ _ _ us hl => match us, hl with | [_, _, _], _ => rfl) (fun vs H Q E h => spP_len h) (fun f cdv A outer s H vs Q E hr h => ?_)
  obtain ⟨G, v, d, w, v3, p, rfl, s, hd, hwl, hd3, hw, hp20, k⟩ := spP_of h
  obtain ⟨w0, r, rfl⟩ := wks_tup hw
  obtain ⟨h4, hall⟩ := wks_cons hw
  refine ⟨_, (pss_cons (ps_set (i := 3) sc_paths_in.nd rfl (Or.inl rfl) (pe_ifExp (pt_cmpR (op_eqS hr.units0) (pe_ix ix_tup (pv 0) pe_int (fun _ _ => rfl)) (pv 1) (nomark _)) (pe_lst (pa_cons (pv 2) pa_nil)) (pe_lst pa_nil)))
 (pss_cons (ps_for PassesOwn.never rfl (pi_enumT (by rfl) T.n_enumerate (pa_cons (pe_callD D_below_in (hr.mono (by omega)) pass0 (pa_cons (pv 0) pa_nil)) pa_nil)) (pg_tup (by rfl) (pgs_cons (pg_name (i := 4) sc_paths_in.nd rfl (Or.inl rfl)) (pgs_cons (pg_name (i := 5) sc_paths_in.nd rfl (Or.inl rfl)) pgs_nil)))
 (pss_one (ps_expr (pe_bm PySem.F.plainAttrs_list PySem.F.slot_list_extend PySem.F.type_list_extend mt_extend (pv 3) (pa_cons (pe_callD D_paths_in (hr.mono (by omega)) pass0 (pa_cons (pv 5) (pa_cons (pv 1) (pa_cons (pe_tup (pa_star (pv 2) (pa_cons (pv 4) pa_nil))) pa_nil)))) pa_nil)))))
 (pss_one (ps_ret (pv 3))))), ?_⟩
  have i0 : EvD (tOp (rIxT K) (tVar 0) (tC (.int 0))) (start ["shape", "word", "path", "found", "index", "one"] [v, .str w, v3]) G w0 := evd_ixT (evd_var rfl hd) ev_c (atI_nat (j := 0) rfl)
  refine (et_test (ev_eqS i0 (ev_var rfl))) H s _ fun H1 x1 => ?_
  have cont : ∀ (q : Addr) (xs0 : List V) (acc0 : List PyData) (D' : Ends), H1 q = none → DaAll G xs0 acc0 → acc0 = (if isS w w0 = true then [.tuple p] else []) → D' = { nx := fun _ H' => Q .non H', rt := Q } →
      tSeq (tFor (iEnumT K (tCons (tCallD (spO fBel) E0 (tCons (tVar 0) tNil)) tNil)) (gTup K 2 (gCons (gName 4) (gCons (gName 5) gNil))) (tDrop (tBM K "list" rExtend (tVar 3) (tCons (tCallD (spP n) E0 (tCons (tVar 5) (tCons (tVar 1) (tCons (tTup (tStar K (tVar 2) (tCons (tVar 4) tNil))) tNil)))) tNil)))) (tRet (tVar 3)) D' ((start ["shape", "word", "path", "found", "index", "one"] [v, .str w, v3]).set 3 (some (.ref q))) (upd H1 q (.lst xs0)) := by
    intro q xs0 acc0 D' hq hx0 ha0 hD
    subst hD
    have hq0 : H q = none := fresh_back x1 hq
    have xd : Ex H (upd H1 q (.lst xs0)) := x1.trans (Ex.new hq)
    have sd := s.trans xd
    refine evd_callO (e := .tuple (bel (w0 :: r))) (evd_var rfl hd) rfl G _ (Ex.refl _) sd _ fun vb G2 H2 r2 hdb => ?_
    obtain ⟨a, xs, rfl, ea, hs⟩ := hdb.tup_
    have gq : G2 q = none := r2.n q (by rw [upd_same]; exact fun z => by cases z) (fresh_back s hq0)
    have p5 : 5 ^ n ≤ 5 ^ 5 := Nat.pow_le_pow_right (by decide) hn5
    have hx0l : xs0.length ≤ 1 := by
      rw [hx0.len, ha0]
      split <;> simp
    refine ⟨a, xs, rfl, SqT.of (r2.s _ _ ea), for_it (walk_enumT (K := K) (a := a) (xs := xs)) (fun i σ' H' => ∃ G' ys v4 v5, σ' = [some v, some (.str w), some v3, some (.ref q), v4, v5] ∧ Gr G H G' H' ∧ Ex G2 G' ∧ G' q = none ∧ H' q = some (.lst ys) ∧ DaAll G' ys (acc0 ++ pinTo n (bel (w0 :: r)) w p i)) ?_ ?_ ?_ ?_⟩
    · exact ⟨G2, xs0, _, _, rfl, (Gr.keep s xd).trans r2, Ex.refl _, gq, r2.h _ _ upd_same, by simpa [pinTo] using hx0.up r2.g⟩
    · rintro i σ' H' _ ⟨G', ys, v4, v5, rfl, y1, y2, _⟩
      exact SqT.of (y1.s _ _ (y2 _ _ ea))
    · rintro i x σ' H' H'' hi ⟨G', ys, v4, v5, rfl, y1, y2, y3, y4, y5⟩ ⟨T0, u1, u2, rfl, hT, rfl, e1, e2⟩
      obtain rfl : V.int (i : Nat) = u1 := Option.some.inj e1
      have e2 : xs[i]? = some u2 := e2
      obtain ⟨t, eti, hdt⟩ := hs.at e2
      have hil : i < (bel (w0 :: r)).length := by rw [← hs.len]; exact hi
      have eg : (bel (w0 :: r)).getD i .none = t := by rw [List.getD_eq_getElem?_getD, eti]; rfl
      have htt : wks n t = true := hall t (List.mem_of_getElem? eti)
      have hTq : T0 ≠ q := fun z => by rw [z, y4] at hT; cases hT
      have z3 : upd H' T0 (.tup [.int (i : Nat), u2]) q = some (.lst ys) := by rw [upd_ne (Ne.symm hTq)]; exact y4
      have y1' := y1.trans (Gr.keep y1.s (Ex.new (o := .tup [.int (i : Nat), u2]) hT))
      refine ⟨T0, _, rfl, SqT.of upd_same, rfl, _, _, rfl, _, _, rfl, rfl, ?_⟩
      refine ⟨_, rfl, .inl ⟨rfl, _, SqL.of z3⟩, ?_⟩
      refine evd_call (F := _) (d := .list (pin n t w (p ++ [.int (i : Nat)]))) (evd_cons (evd_var rfl (hdt.up y2)) (evd_cons (evd_str (ev_var rfl) hwl) (evd_cons (evd_tup (evd_starT (evd_var rfl (hd3.up (r2.g.trans y2))) (evd_cons (evd_int (ev_var rfl)) evd_nil)) ?_) evd_nil))) ?_ G' _ (Ex.refl _) y1'.s _ fun vc G3 H3 r3 hd5 => ?_
      · rw [List.length_append]
        simp
        omega
      · dsimp only
        rw [if_pos ⟨htt, by rw [List.length_append]; simp; omega⟩]
      · obtain ⟨b, zs, rfl, eb, hzs⟩ := hd5.lst_
        have g3q : G3 q = none := r3.n q (by rw [z3]; exact fun z => by cases z) y3
        have b1 := pin_len n t w (p ++ [.int (i : Nat)]) htt
        have b2 := pinTo_len hall w p i (by omega)
        have b3 : i * 5 ^ n ≤ 4 * 5 ^ 5 := Nat.mul_le_mul (by omega) p5
        have hys := y5.len
        rw [List.length_append] at hys
        have ha1 : acc0.length ≤ 1 := by rw [← hx0.len]; exact hx0l
        have hs5 : (20000 : Nat) ≤ sizeLine := by decide
        have e55 : (5 : Nat) ^ 5 = 3125 := by decide
        refine ⟨q, b, ys, zs, rfl, rfl, r3.h _ _ z3, r3.s _ _ eb, by rw [hys, hzs.len]; omega, ?_⟩
        refine ⟨G3, ys ++ zs, _, _, rfl, gr_mut (y1'.trans r3) hq0 g3q, y2.trans r3.g, g3q, upd_same, ?_⟩
        rw [pinTo_succ, ← List.append_assoc, eg]
        exact (y5.up r3.g).app hzs
    · rintro σ' H' ⟨G', ys, v4, v5, rfl, y1, y2, y3, y4, y5⟩
      refine ⟨_, rfl, k (.ref q) (upd G' q (.lst ys)) H' (gr_add y1 hq0 y3 y4 rfl) ?_⟩
      have e : pin (n + 1) (.tuple (w0 :: r)) w p = acc0 ++ pinTo n (bel (w0 :: r)) w p (bel (w0 :: r)).length := by rw [pin, ha0]; rfl
      rw [e, ← hs.len]
      exact .lst upd_same (y5.up (Ex.new y3))
  cases hb : isS w w0 with
  | true =>
    refine if_so rfl ⟨_, rfl, show 1 ≤ sizeLine by decide, fun q hq => ?_⟩
    exact cont q [v3] [.tuple p] _ hq (.cons hd3 .nil) (by rw [hb]; rfl) rfl
  | false =>
    refine if_no rfl ⟨show 0 ≤ sizeLine by decide, fun q hq => ?_⟩
    exact cont q [] [] _ hq .nil (by rw [hb]; rfl) rfl
theorem tr_of_ts {d : PyData} (h : isSh d = true) : wks 6 d = true := by
  cases d with
  | tuple ds =>
    unfold isSh at h
    dsimp only at h
    split at h
    · rename_i c
      rw [Bool.and_eq_true] at h
      match ds, c.1, c.2, h.1 with
      | [a, b], _, c2, h1 =>
        have e2 : bel [a, b] = [b] := by unfold bel; dsimp only; rw [if_pos (show isS "store" a = true from c2)]
        rw [wks]
        show (decide ((bel [a, b]).length ≤ 4) && (bel [a, b]).all fun t => wks 5 t) = true
        rw [e2]
        simp [wks_ts 5 b (isTs_succ 4 b h1)]
    · rw [Bool.and_eq_true] at h
      exact wks_ts 6 _ (isTs_succ 5 _ h.1)
  | _ => cases h
theorem evd_tupleOfL {K : PySem.W.Frag} {σ : L2.St} {G : Hp} {te : TE} {ds : List PyData} (h : EvD te σ G (.list ds)) : EvD (tCB (fun xs H Q => ∃ p ys, xs = [V.ref p] ∧ ((SqL K H p ys ∧ ∀ l, H l = none → Q (.ref l) (upd H l (.tup ys))) ∨ (SqT K H p ys ∧ Q (.ref p) H))) (tCons te tNil)) σ G (.tuple ds) := fun G1 H1 x s Q q => h G1 H1 x s _ fun v G2 H2 r hd => by
  obtain ⟨a, xs, rfl, e, hs⟩ := hd.lst_
  refine ⟨a, xs, rfl, .inl ⟨SqL.of (r.s _ _ e), fun l hl => ?_⟩⟩
  have n := Gr.new (o := .tup xs) r.s hl rfl
  exact q (.ref l) _ _ (r.trans n) (.tup upd_same (hs.up n.g))
theorem ok_holes (T : Txt P K mg CA CB CP fP) (D : Df K mg "holes" s_holes) (D_require_shape : DefOk P w K mg base (L2.CX P w) 9 "require_shape" ["value"] (spQ CB fun _ => .none)) (D_paths_in : DefOk P w K mg base CX0 7 "paths_in" ["shape", "word", "path"] (spP 6)) :
    DefOk P w K mg base (L2.CX P w) 10 "holes" ["shape"] (spQ CB fun d => .tuple (pin 6 d "hole" [])) := by
  refine D.okX sc_holes (fun _ _ _ _ _ _ us hl => match us, hl with | [_], _ => rfl) (fun vs H Q E h => spQ_len h) (fun f cdv A outer s H vs Q E hr h => ?_)
  obtain ⟨G, v, d, rfl, s, hd, k1, k2⟩ := h
  refine ⟨_, (pss_cons (ps_expr (pe_callD D_require_shape (hr.mono (by decide)) (passes_call (takes_of rfl rfl rfl rfl) (fun _ _ _ _ h => h)) (pa_cons (pv 0) pa_nil)))
 (pss_one (ps_ret (pe_callTy call_tuple_of (by rfl) T.n_tuple (by decide +kernel) (pa_cons (pe_callD D_paths_in (hr.mono (by decide)) pass0 (pa_cons (pv 0) (pa_cons (pe_gStr (by rfl) T.g_HOLE) (pa_cons (pe_tup pa_nil) pa_nil)))) pa_nil))))), ?_⟩
  refine ⟨_, rfl, G, v, d, rfl, s, hd, fun c v' G' H' r _ => ?_, k2⟩
  dsimp only
  refine s_retD r.s (evd_tupleOfL (evd_call (evd_cons (evd_var rfl (hd.up r.g)) (evd_cons (evd_str ev_c (by decide)) (evd_cons (evd_tup evd_nil (by decide)) evd_nil))) ?_)) (fun v2 G2 H2 r2 hd2 => k1 c v2 G2 H2 (r.trans r2) hd2)
  dsimp only
  rw [if_pos ⟨tr_of_ts c, by decide⟩]
theorem ok_loads (T : Txt P K mg CA CB CP fP) (D : Df K mg "loads" s_loads) (D_require_shape : DefOk P w K mg base (L2.CX P w) 9 "require_shape" ["value"] (spQ CB fun _ => .none)) (D_paths_in : DefOk P w K mg base CX0 7 "paths_in" ["shape", "word", "path"] (spP 6)) :
    DefOk P w K mg base (L2.CX P w) 10 "loads" ["shape"] (spQ CB fun d => .tuple (pin 6 d "load" [])) := by
  refine D.okX sc_loads (fun _ _ _ _ _ _ us hl => match us, hl with | [_], _ => rfl) (fun vs H Q E h => spQ_len h) (fun f cdv A outer s H vs Q E hr h => ?_)
  obtain ⟨G, v, d, rfl, s, hd, k1, k2⟩ := h
  refine ⟨_, (pss_cons (ps_expr (pe_callD D_require_shape (hr.mono (by decide)) (passes_call (takes_of rfl rfl rfl rfl) (fun _ _ _ _ h => h)) (pa_cons (pv 0) pa_nil)))
 (pss_one (ps_ret (pe_callTy call_tuple_of (by rfl) T.n_tuple (by decide +kernel) (pa_cons (pe_callD D_paths_in (hr.mono (by decide)) pass0 (pa_cons (pv 0) (pa_cons (pe_gStr (by rfl) T.g_LOAD) (pa_cons (pe_tup pa_nil) pa_nil)))) pa_nil))))), ?_⟩
  refine ⟨_, rfl, G, v, d, rfl, s, hd, fun c v' G' H' r _ => ?_, k2⟩
  dsimp only
  refine s_retD r.s (evd_tupleOfL (evd_call (evd_cons (evd_var rfl (hd.up r.g)) (evd_cons (evd_str ev_c (by decide)) (evd_cons (evd_tup evd_nil (by decide)) evd_nil))) ?_)) (fun v2 G2 H2 r2 hd2 => k1 c v2 G2 H2 (r.trans r2) hd2)
  dsimp only
  rw [if_pos ⟨tr_of_ts c, by decide⟩]
def fWd (n : Nat) (d : PyData) : Option PyData := if 0 < n ∧ sOk (n - 1) d = true then some (.list ((wds n d).map PyData.str)) else none
theorem ok_words0 (D : Df K mg "words_of" s_words_of) : DefOk P w K mg base CX0 1 "words_of" ["shape"] (spO (fWd 0)) := by
  refine D.ok sc_words_of (fun _ _ _ _ _ _ us hl => match us, hl with | [_], _ => rfl) (fun vs H Q E h => spO_len h) (fun f cdv A outer s H vs Q E hr h => ?_)
  obtain ⟨G, v, d, e, rfl, s, hd, he, k⟩ := spO_of h
  unfold fWd at he
  rw [if_neg (fun z => absurd z.1 (by decide))] at he
  cases he
theorem ok_wordsS (T : Txt P K mg CA CB CP fP) (D : Df K mg "words_of" s_words_of) {n l : Nat} (hl3 : 1 ≤ l) (hn5 : n ≤ 6) (D_words_of : DefOk P w K mg base CX0 l "words_of" ["shape"] (spO (fWd n))) : DefOk P w K mg base CX0 (l + 1) "words_of" ["shape"] (spO (fWd (n + 1))) := by
  refine D.ok sc_words_of (fun _ _ _ _ _ _ us hl => match us, hl with | [_], _ => rfl) (fun vs H Q E h => spO_len h) (fun f cdv A outer s H vs Q E hr h => ?_)
  obtain ⟨G, v, d, e, rfl, s, hd, he, k⟩ := spO_of h
  unfold fWd at he
  split at he
  · rename_i hok
    cases he
    have hok := hok.2
    rw [Nat.add_sub_cancel] at hok
    refine ⟨_, (pss_cons (ps_if (pt_cmpR (op_eqS hr.units0) (pe_ix ix_tup (pv 0) pe_int (fun _ _ => rfl)) (pe_gStr (by rfl) T.g_STORE) (nomark _))
 (pss_one (ps_ret (pe_lst (pa_cons pe_str (pa_star (pe_callD D_words_of (hr.mono (by omega)) pass0 (pa_cons (pe_ix ix_tup (pv 0) pe_int (fun _ _ => rfl)) pa_nil)) pa_nil)))))
 pss_nil)
 (pss_cons (ps_if (pt_cmpR (op_eqS hr.units0) (pe_ix ix_tup (pv 0) pe_int (fun _ _ => rfl)) (pe_gStr (by rfl) T.g_HOLE) (nomark _))
 (pss_one (ps_ret (pe_lst (pa_cons pe_str pa_nil))))
 pss_nil)
 (pss_cons (ps_if (pt_cmpR (op_eqS hr.units0) (pe_ix ix_tup (pv 0) pe_int (fun _ _ => rfl)) (pe_gStr (by rfl) T.g_LOAD) (nomark _))
 (pss_one (ps_ret (pe_lst (pa_cons pe_str pa_nil))))
 pss_nil)
 (pss_one (ps_ret (pe_lst (pa_cons (pe_ix ix_tup (pv 0) pe_int (fun _ _ => rfl)) (pa_cons pe_str (pa_star (pe_lc2 (own := [("one", 1), ("word", 2)]) (vs1 := [2]) (wi1 := iList K _) (by rfl) sc_words_of.nd (pi_tup (pe_slice sl_tupA (pv 0) (po_some pe_int) po_none)) (blkOk_by (own := [("one", 1), ("word", 2)]) (N := ["shape", "one", "word"]) (sc := defScope s_words_of) (by decide +kernel)) (by decide) (fun _ _ _ _ _ => (pg_name (i := 1) sc_words_of.nd rfl (Or.inl rfl))) (fun _ _ _ _ _ => pts_nil) (fun _ _ _ _ _ => (pi_list (pe_callD D_words_of (hr.mono (by omega)) pass0 (pa_cons (pv 1) pa_nil)))) (fun _ _ _ _ _ => (pg_name (i := 2) sc_words_of.nd rfl (Or.inl rfl))) (fun _ _ _ _ _ => pts_nil) (fun _ _ _ _ _ => (pv 2))) (pa_cons pe_str pa_nil)))))))))), ?_⟩
    have below : ∀ t, isTs n t = true → 0 < n ∧ sOk (n - 1) t = true := fun t h => by
      cases n with
      | zero => cases h
      | succ n => exact ⟨Nat.succ_pos _, by unfold sOk; rw [Nat.add_sub_cancel, h]; rfl⟩
    have p6 : 4 ^ n ≤ 4 ^ 6 := Nat.pow_le_pow_right (by decide) hn5
    unfold sOk at hok
    rcases Bool.or_eq_true_iff.mp hok with h | h
    · rcases ts_cases h with (rfl | rfl) | ⟨x, ts, rfl, h3, hts⟩
      · have i0 : EvD (tOp (rIxT K) (tVar 0) (tC (.int 0))) (start ["shape", "one", "word"] [v]) G (.str "hole") := evd_ixT (evd_var rfl hd) ev_c (atI_nat (j := 0) rfl)
        refine q_ifD s (et_is (et_test (ev_eqS i0 ev_c)) (b := false) (by decide)) (fun z => by cases z) (fun _ H1 x1 => ?_)
        refine q_ifD (s.trans x1) (et_is (et_test (ev_eqS i0 ev_c)) (b := true) (by decide)) (fun _ H2 x2 => ?_) (fun z => by cases z)
        exact s_retD ((s.trans x1).trans x2) (evd_lst (evd_cons (evd_str ev_c (by decide)) evd_nil) (by simp)) (fun v' G' H' r => k v' G' H' ((Gr.keep s (x1.trans x2)).trans r))
      · have i0 : EvD (tOp (rIxT K) (tVar 0) (tC (.int 0))) (start ["shape", "one", "word"] [v]) G (.str "load") := evd_ixT (evd_var rfl hd) ev_c (atI_nat (j := 0) rfl)
        refine q_ifD s (et_is (et_test (ev_eqS i0 ev_c)) (b := false) (by decide)) (fun z => by cases z) (fun _ H1 x1 => ?_)
        refine q_ifD (s.trans x1) (et_is (et_test (ev_eqS i0 ev_c)) (b := false) (by decide)) (fun z => by cases z) (fun _ H2 x2 => ?_)
        refine q_ifD ((s.trans x1).trans x2) (et_is (et_test (ev_eqS i0 ev_c)) (b := true) (by decide)) (fun _ H3 x3 => ?_) (fun z => by cases z)
        exact s_retD (((s.trans x1).trans x2).trans x3) (evd_lst (evd_cons (evd_str ev_c (by decide)) evd_nil) (by simp)) (fun v' G' H' r => k v' G' H' ((Gr.keep s ((x1.trans x2).trans x3)).trans r))
      · have i0 : EvD (tOp (rIxT K) (tVar 0) (tC (.int 0))) (start ["shape", "one", "word"] [v]) G (.str "op") := evd_ixT (evd_var rfl hd) ev_c (atI_nat (j := 0) rfl)
        refine q_ifD s (et_is (et_test (ev_eqS i0 ev_c)) (b := false) (by decide)) (fun z => by cases z) (fun _ H1 x1 => ?_)
        refine q_ifD (s.trans x1) (et_is (et_test (ev_eqS i0 ev_c)) (b := false) (by decide)) (fun z => by cases z) (fun _ H2 x2 => ?_)
        refine q_ifD ((s.trans x1).trans x2) (et_is (et_test (ev_eqS i0 ev_c)) (b := false) (by decide)) (fun z => by cases z) (fun _ H3 x3 => ?_)
        have hlen : (ts.flatMap fun t => (wds n t).map PyData.str).length ≤ 20000 := by
          have hb : ∀ (l : List PyData), (∀ t ∈ l, isTs n t = true) → (l.flatMap fun t => (wds n t).map PyData.str).length ≤ l.length * 4 ^ n := fun l => by
            induction l with
            | nil => intro _; exact Nat.zero_le _
            | cons b l ihl =>
              intro hl
              rw [List.flatMap_cons, List.length_append, List.length_cons, Nat.succ_mul, List.length_map]
              have := wds_len n b (below b (hl b (List.mem_cons_self ..))).2
              have := ihl fun t ht => hl t (List.mem_cons_of_mem _ ht)
              omega
          have := hb ts hts
          have h5 : ts.length * 4 ^ n ≤ 3 * 4 ^ 6 := Nat.mul_le_mul h3 p6
          have : (3 : Nat) * 4 ^ 6 = 12288 := by decide
          omega
        refine s_retD (((s.trans x1).trans x2).trans x3) (EvD.is (evd_lst (evd_cons (evd_ixT (evd_var rfl hd) ev_c (atI_nat (j := 1) rfl)) (evd_cons (evd_str ev_c (by decide)) (evd_starL (evd_lc2 (ds := ts) (fun t => (wds n t).map PyData.str) (fun _ e => e) (EvD.is (evd_sl (evd_var rfl hd) (EvO.some_ ev_c) EvO.none_) ?_) (by omega) (fun _ => rfl) (fun d hd' v G1 _ hv => evd_callO (evd_var rfl hv) ?_) (fun _ _ => rfl) (fun d _ e _ v y G1 _ _ hy => evd_var rfl hy)) (evd_cons (evd_str ev_c (by decide)) evd_nil)))) ?_) ?_) (fun v' G' H' r => k v' G' H' ((Gr.keep s ((x1.trans x2).trans x3)).trans r))
        · rw [show (2 : Int) = ((2 : Nat) : Int) from rfl, cutD_from]; rfl
        · unfold fWd
          rw [if_pos (below d (hts d hd'))]
        · simp only [List.length_cons, List.length_append, List.length_nil, List.map_id']
          omega
        · have e : wds (n + 1) (.tuple (.str "op" :: .str x :: ts)) = x :: "(" :: (ts.flatMap (fun t => wds n t) ++ [(")" : Str)]) := rfl
          rw [e, List.map_cons, List.map_cons, List.map_append, List.map_flatMap]
          simp only [List.map_id']
          rfl
    · obtain ⟨x, rfl, hx⟩ := sS_cases h
      have i0 : EvD (tOp (rIxT K) (tVar 0) (tC (.int 0))) (start ["shape", "one", "word"] [v]) G (.str "store") := evd_ixT (evd_var rfl hd) ev_c (atI_nat (j := 0) rfl)
      refine q_ifD s (et_is (et_test (ev_eqS i0 ev_c)) (b := true) (by decide)) (fun _ H1 x1 => ?_) (fun z => by cases z)
      have hl := wds_len n x (below x hx).2
      refine s_retD (s.trans x1) (EvD.is (evd_lst (evd_cons (evd_str ev_c (by decide)) (evd_starL (evd_callO (e := .list ((wds n x).map PyData.str)) (evd_ixT (evd_var rfl hd) ev_c (atI_nat (j := 1) rfl)) ?_) evd_nil)) ?_) ?_) (fun v' G' H' r => k v' G' H' ((Gr.keep s x1).trans r))
      · unfold fWd
        rw [if_pos (below x hx)]
      · simp only [List.length_cons, List.length_append, List.length_nil, List.length_map]
        have : (4 : Nat) ^ 6 = 4096 := by decide
        omega
      · have e : wds (n + 1) (.tuple [.str "store", x]) = ("=" : Str) :: wds n x := rfl
        rw [e, List.map_cons, List.append_nil]
  · cases he
end
end My
set_option maxHeartbeats 4000000
/-! Words read, plain: a stack of lists, the top first -/
namespace Tr
open PySem Lf
def putTop (d : PyData) : List (List PyData) → List (List PyData)
  | c :: cs => (c ++ [d]) :: cs
  | [] => []
def lastS (c : List PyData) : Option Str := match c.getLast? with
  | some (.str x) => some x
  | _ => none
theorem lastS_some {c : List PyData} {x : Str} (h : lastS c = some x) : c = c.dropLast ++ [.str x] := by
  unfold lastS at h
  split at h
  · rename_i y e
    cases h
    cases c with
    | nil => cases e
    | cons a l =>
      have e2 := List.getLast?_eq_some_getLast (l := a :: l) (by simp)
      rw [e2] at e
      have e3 := Option.some.inj e
      have := List.dropLast_concat_getLast (l := a :: l) (by simp)
      rw [e3] at this
      exact this.symm
  · cases h
def rdS (st : List (List PyData)) (w : Str) : Option (List (List PyData)) :=
  if w = "_" then some (putTop (.tuple [.str "hole"]) st)
  else if w = "@" then some (putTop (.tuple [.str "load"]) st)
  else if w = "(" then some ([] :: st)
  else if w = ")" then match st with
    | trees :: under :: rest => match lastS under with
      | some x => some ((under.dropLast ++ [.tuple (.str "op" :: .str x :: trees)]) :: rest)
      | none => none
    | _ => none
  else some (putTop (.str w) st)
def rdR (st : Option (List (List PyData))) (ws : List Str) : Option (List (List PyData)) := ws.foldl (fun st w => st.bind fun st => rdS st w) st
def rdW (ws : List Str) : PyData := match rdR (some [[]]) ws with
  | some [[x]] => x
  | _ => .none
theorem rdR_none (ws : List Str) : rdR none ws = none := by
  induction ws with
  | nil => rfl
  | cons w ws ih => exact ih
theorem rdR_take {ws : List Str} {i : Nat} {w : Str} (h : ws[i]? = some w) : rdR (some [[]]) (ws.take (i + 1)) = (rdR (some [[]]) (ws.take i)).bind fun st => rdS st w := by
  unfold rdR
  rw [take_da h, List.foldl_append]
  rfl
end Tr
set_option maxHeartbeats 4000000
namespace My
open PySem L2 Lf Evl Tr StX
abbrev s_read_words : Stmt := top 41
theorem sc_read_words : FnScope ["words", "stack", "word", "trees", "operator"] ["words"] (defScope s_read_words) := ⟨rfl, rfl, rfl, by decide +kernel, rfl, by decide +kernel, by decide +kernel⟩
/-- the lists of the stack, the top first; H0: the heap before them -/
inductive Stk (H0 G H : Hp) (S : Addr) : List Addr → List (List PyData) → Prop
  | nil : Stk H0 G H S [] []
  | cons {l : Addr} {ls : List Addr} {xs : List V} {c : List PyData} {cs : List (List PyData)} (e : H l = some (.lst xs)) (d : DaAll G xs c) (n : l ∉ ls) (nS : l ≠ S) (g : G l = none) (f : H0 l = none) (t : Stk H0 G H S ls cs) : Stk H0 G H S (l :: ls) (c :: cs)
section
variable {H0 G H : Hp} {S : Addr}
theorem Stk.gr {G2 H2 : Hp} (r : Gr G H G2 H2) {ls : List Addr} {cs : List (List PyData)} (k : Stk H0 G H S ls cs) : Stk H0 G2 H2 S ls cs := by
  induction k with
  | nil => exact .nil
  | cons e d n nS g f t ih => exact .cons (r.h _ _ e) (d.up r.g) n nS (r.n _ (by rw [e]; exact fun z => by cases z) g) f ih
theorem Stk.upd_ {q : Addr} {o : HO} {ls : List Addr} {cs : List (List PyData)} (k : Stk H0 G H S ls cs) (h : q ∉ ls) : Stk H0 G (upd H q o) S ls cs := by
  induction k with
  | nil => exact .nil
  | @cons l ls xs c cs e d n nS g f t ih =>
    refine .cons ?_ d n nS g f (ih fun z => h (List.mem_cons_of_mem _ z))
    rw [upd_ne (fun z => h (by rw [z]; exact List.mem_cons_self ..))]
    exact e
theorem Stk.len {ls : List Addr} {cs : List (List PyData)} (k : Stk H0 G H S ls cs) : ls.length = cs.length := by
  induction k with
  | nil => rfl
  | cons e d n nS g f t ih => rw [List.length_cons, List.length_cons, ih]
theorem Stk.notS {ls : List Addr} {cs : List (List PyData)} (k : Stk H0 G H S ls cs) : S ∉ ls := by
  induction k with
  | nil => exact List.not_mem_nil
  | cons e d n nS g f t ih =>
    intro z
    rcases List.mem_cons.mp z with z | z
    · exact nS z.symm
    · exact ih z
theorem Stk.some_ {ls : List Addr} {cs : List (List PyData)} (k : Stk H0 G H S ls cs) : ∀ l ∈ ls, H l ≠ none := by
  induction k with
  | nil => intro l h; cases h
  | cons e d n nS g f t ih =>
    intro l h
    rcases List.mem_cons.mp h with h | h
    · rw [h, e]; exact fun z => by cases z
    · exact ih l h
end
/-- the whole: the view, the stack's own list, its lists -/
structure RdI (H0 G0 G H : Hp) (S : Addr) (ls : List Addr) (cs : List (List PyData)) : Prop where
  gr : Gr G0 H0 G H
  own : H S = some (.lst (ls.reverse.map V.ref))
  gS : G S = none
  fS : H0 S = none
  stk : Stk H0 G H S ls cs
section
variable {H0 G0 G H : Hp} {S : Addr} {ls : List Addr} {cs : List (List PyData)}
/-- data come into the view -/
theorem RdI.go (I : RdI H0 G0 G H S ls cs) {G2 H2 : Hp} (r : Gr G H G2 H2) : RdI H0 G0 G2 H2 S ls cs :=
  ⟨I.gr.trans r, r.h _ _ I.own, r.n S (by rw [I.own]; exact fun z => by cases z) I.gS, I.fS, I.stk.gr r⟩
/-- the top's list gets another content -/
theorem RdI.top {l : Addr} {xs : List V} {c c' : List PyData} (I : RdI H0 G0 G H S (l :: ls) (c :: cs)) (d : DaAll G xs c') : RdI H0 G0 G (upd H l (.lst xs)) S (l :: ls) (c' :: cs) := by
  cases I.stk with
  | cons e d0 n nS g f t =>
    exact ⟨gr_mut I.gr f g, by rw [upd_ne (Ne.symm nS)]; exact I.own, I.gS, I.fS, .cons upd_same d n nS g f (t.upd_ n)⟩
/-- a new list on top -/
theorem RdI.push {q : Addr} (I : RdI H0 G0 G H S ls cs) (hq : H q = none) : RdI H0 G0 G (upd (upd H q (.lst [])) S (.lst ((q :: ls).reverse.map V.ref))) S (q :: ls) ([] :: cs) := by
  have q0 : H0 q = none := fresh_back I.gr.h hq
  have gq : G q = none := fresh_back I.gr.s hq
  have qS : q ≠ S := fun z => by rw [z, I.own] at hq; cases hq
  have ql : q ∉ ls := fun z => I.stk.some_ q z hq
  refine ⟨gr_mut (I.gr.trans (Gr.keep I.gr.s (Ex.new hq))) I.fS I.gS, upd_same, I.gS, I.fS, .cons ?_ .nil ql qS gq q0 ?_⟩
  · rw [upd_ne qS, upd_same]
  · exact (I.stk.upd_ ql).upd_ I.stk.notS
/-- the top list is taken off -/
theorem RdI.pop {l : Addr} {c : List PyData} (I : RdI H0 G0 G H S (l :: ls) (c :: cs)) : RdI H0 G0 G (upd H S (.lst (ls.reverse.map V.ref))) S ls cs := by
  cases I.stk with
  | cons e d n nS g f t => exact ⟨gr_mut I.gr I.fS I.gS, upd_same, I.gS, I.fS, t.upd_ t.notS⟩
end
theorem Stk.view {H0 G H : Hp} {S q : Addr} {o : HO} {ls : List Addr} {cs : List (List PyData)} (k : Stk H0 G H S ls cs) (h : q ∉ ls) (g : G q = none) : Stk H0 (upd G q o) H S ls cs := by
  induction k with
  | nil => exact .nil
  | @cons l ls xs c cs e d n nS gl f t ih =>
    refine .cons e (d.up (Ex.new g)) n nS ?_ f (ih fun z => h (List.mem_cons_of_mem _ z))
    rw [upd_ne (fun z => h (by rw [z]; exact List.mem_cons_self ..))]
    exact gl
/-- the top list is taken off, and comes into the view -/
theorem RdI.take {H0 G0 G H : Hp} {S l : Addr} {ls : List Addr} {c : List PyData} {cs : List (List PyData)} (I : RdI H0 G0 G H S (l :: ls) (c :: cs)) : ∃ G2, Ex G G2 ∧ Da G2 (.ref l) (.list c) ∧ RdI H0 G0 G2 (upd H S (.lst (ls.reverse.map V.ref))) S ls cs := by
  cases I.stk with
  | @cons _ _ xs _ _ e d n nS g f t =>
    have e2 : upd H S (.lst (ls.reverse.map V.ref)) l = some (.lst xs) := by rw [upd_ne nS]; exact e
    refine ⟨upd G l (.lst xs), Ex.new g, .lst upd_same (d.up (Ex.new g)), ⟨gr_add (gr_mut I.gr I.fS I.gS) f g e2 rfl, upd_same, ?_, I.fS, (t.view n g).upd_ t.notS⟩⟩
    rw [upd_ne (Ne.symm nS)]
    exact I.gS
section
variable {K : PySem.W.Frag} {σ : L2.St} {G : Hp} {ta te : TE} {D : Ends}
theorem evd_ofEv {v : V} {d : PyData} (h : Ev te σ G v) (hd : Da G v d) : EvD te σ G d := fun G1 H1 x s Q q => h H1 (x.trans s) _ fun H2 x2 => q v G1 H2 (Gr.keep s x2) (hd.up x)
theorem ev_eqELv {a : Addr} {xs : List V} (ha : Ev ta σ G (.ref a)) (h : SqL K G a xs) : Ev (tOp (rEqEL K) ta (tLst tNil)) σ G (.bl xs.isEmpty) := fun H1 x Q q => ha H1 x _ fun H2 x2 => ⟨by decide, fun p hp => ⟨a, p, xs, rfl, rfl, ex_l ((x.trans x2).trans (Ex.new hp)) h, SqL.of upd_same, q _ (x2.trans (Ex.new hp))⟩⟩
abbrev tNeg (i : Int) : TE := tUn (rU fun i => .int (-i)) (tC (.int i))
theorem ev_neg {i : Int} : Ev (tNeg i) σ G (.int (-i)) := ev_un ev_c ru_neg
end
/-- stack[-1].append(e) -/
theorem top_append {K : PySem.W.Frag} {σ : L2.St} {D : Ends} {te : TE} {H0 G0 G H : Hp} {S l : Addr} {ls : List Addr} {c : List PyData} {cs : List (List PyData)} {d : PyData} (I : RdI H0 G0 G H S (l :: ls) (c :: cs)) (hσ : σ[1]? = some (some (.ref S))) (he : EvD te σ G d) (hc : c.length ≤ 5000)
    (k : ∀ G2 H2, RdI H0 G0 G2 H2 S (l :: ls) ((c ++ [d]) :: cs) → Ex G G2 → D.nx σ H2) : tDrop (tBM K "list" rAppend (tOp (rIxL K) (tVar 1) (tNeg 1)) (tCons te tNil)) D σ H := by
  cases I.stk with
  | @cons _ _ xs _ _ e d0 n nS g f t =>
    have hat : atI ((l :: ls).reverse.map V.ref) (-1) = some (.ref l) := by rw [List.reverse_cons, List.map_append]; exact atI_last _ _
    refine ⟨_, hσ, 1, rfl, S, _, -1, .ref l, rfl, rfl, SqL.of I.own, hat, .inl ⟨rfl, xs, SqL.of e⟩, ?_⟩
    refine he G H (Ex.refl _) I.gr.s _ fun v G2 H2 r hd => ?_
    refine ⟨l, xs, v, rfl, rfl, r.h _ _ e, ?_, k G2 _ ((I.go r).top ((d0.up r.g).app (.cons hd .nil))) r.g⟩
    rw [d0.len]
    exact Nat.lt_of_le_of_lt hc (by decide)
theorem s_ifD {t : TT} {tu tw : TS} {σ : L2.St} {G H : Hp} {D : Ends} {b : Bool} (s : Ex G H) (h : EvT t σ G b) (h1 : b = true → ∀ H1, Ex H H1 → tu D σ H1) (h2 : b = false → ∀ H1, Ex H H1 → tw D σ H1) : tIfS t tu tw D σ H := h H s _ fun H1 x => by
  cases b with
  | true =>
    show tu D σ H1
    exact h1 rfl H1 x
  | false =>
    show tw D σ H1
    exact h2 rfl H1 x
theorem DaAll.snoc {H : Hp} {c : List PyData} {d : PyData} : ∀ {xs : List V}, DaAll H xs (c ++ [d]) → ∃ ys v, xs = ys ++ [v] ∧ DaAll H ys c ∧ Da H v d := by
  induction c with
  | nil =>
    intro xs h
    cases h with
    | cons h t =>
      cases t
      exact ⟨[], _, rfl, .nil, h⟩
  | cons a c ih =>
    intro xs h
    cases h with
    | cons h t =>
      obtain ⟨ys, v, rfl, h2, h3⟩ := ih t
      exact ⟨_ :: ys, v, rfl, .cons h h2, h3⟩
theorem get_last {α : Type} (xs : List α) (v : α) : (xs ++ [v])[(xs ++ [v]).length - 1]? = some v := by simp
theorem isS_str (z w : Str) : isS z (.str w) = decide (w = z) := rfl
theorem put_ok {ls : List Addr} {l : Addr} {c : List PyData} {cs : List (List PyData)} {i : Nat} {d : PyData} (h : ∀ x ∈ (c :: cs), x.length ≤ i) : ∀ x ∈ ((c ++ [d]) :: cs), x.length ≤ i + 1 := fun x hx => by
  rcases List.mem_cons.mp hx with rfl | hx
  · rw [List.length_append]
    have := h c (List.mem_cons_self ..)
    simp
    omega
  · exact Nat.le_succ_of_le (h x (List.mem_cons_of_mem _ hx))
def spRd : Sp := fun vs H Q _ => ∃ G v ws, vs = [v] ∧ Ex G H ∧ Da G v (.list (ws.map PyData.str)) ∧ ws.length ≤ 1000 ∧ ∀ v' G' H', Gr G H G' H' → Da G' v' (rdW ws) → Q v' H'
theorem atI_neg1 {α : Type} (xs : List α) (v : α) : atI (xs ++ [v]) (-1) = some v := atI_last xs v
theorem atI_neg2 {α : Type} (xs : List α) (u v : α) : atI (xs ++ [u] ++ [v]) (-2) = some u := by
  unfold atI L2.ixN
  rw [if_neg (by decide), if_pos (by simp; omega)]
  show (xs ++ [u] ++ [v])[_]? = _
  have : (-2 + ((xs ++ [u] ++ [v]).length : Int)).toNat = xs.length := by simp; omega
  rw [this]
  simp
section
variable {P : Program} {w : World} {K : PySem.W.Frag} {mg : Str → Option Value} {base : Heap} {CA CB CP fP : Addr}
theorem ok_read_words (T : Txt P K mg CA CB CP fP) (D : Df K mg "read_words" s_read_words) : DefOk P w K mg base CX0 1 "read_words" ["words"] spRd := by
  refine D.ok sc_read_words (fun _ _ _ _ _ _ us hl => match us, hl with | [_], _ => rfl) (fun vs H Q E h => ?_) (fun f cdv A outer s H vs Q E hr h => ?_)
  · obtain ⟨G, v, ws, rfl, _⟩ := h
    rfl
  obtain ⟨G, v, ws, rfl, s, hd, hwl, k⟩ := h
  refine ⟨_, (pss_cons (ps_set (i := 1) sc_read_words.nd rfl (Or.inl rfl) (pe_lst (pa_cons (pe_lst pa_nil) pa_nil)))
 (pss_cons (ps_for PassesOwn.never rfl (pi_list (pv 0)) (pg_name (i := 2) sc_read_words.nd rfl (Or.inl rfl))
 (pss_one (ps_if (pt_cmpR (op_eqS hr.units0) (pv 2) pe_str (nomark _))
 (pss_one (ps_expr (pe_bm PySem.F.plainAttrs_list PySem.F.slot_list_append PySem.F.type_list_append mt_append (pe_ix ix_list (pv 1) (pe_un un_neg pe_int) (fun _ _ => rfl)) (pa_cons (pe_tup (pa_cons (pe_gStr (by rfl) T.g_HOLE) pa_nil)) pa_nil))))
 (pss_one (ps_if (pt_cmpR (op_eqS hr.units0) (pv 2) pe_str (nomark _))
 (pss_one (ps_expr (pe_bm PySem.F.plainAttrs_list PySem.F.slot_list_append PySem.F.type_list_append mt_append (pe_ix ix_list (pv 1) (pe_un un_neg pe_int) (fun _ _ => rfl)) (pa_cons (pe_tup (pa_cons (pe_gStr (by rfl) T.g_LOAD) pa_nil)) pa_nil))))
 (pss_one (ps_if (pt_cmpR (op_eqS hr.units0) (pv 2) pe_str (nomark _))
 (pss_one (ps_expr (pe_bm PySem.F.plainAttrs_list PySem.F.slot_list_append PySem.F.type_list_append mt_append (pv 1) (pa_cons (pe_lst pa_nil) pa_nil))))
 (pss_one (ps_if (pt_cmpR (op_eqS hr.units0) (pv 2) pe_str (nomark _))
 (pss_cons (ps_if (PW.pt (pw_or (pt_cmpR op_lt (pe_callB call_len_seq (by rfl) T.n_len (by decide +kernel) (pa_cons (pv 1) pa_nil)) pe_int (nomark _)) (pw_or (pt_cmpR (op_eqEL hr.units0) (pe_ix ix_list (pv 1) (pe_un un_neg pe_int) (fun _ _ => rfl)) (pe_lst pa_nil) (nomark _)) (pw_or1 (pt_not (pt_val (pe_callB call_isi (by rfl) T.n_isinstance (by decide +kernel) (pa_cons (pe_ix ix_list (pe_ix ix_list (pv 1) (pe_un un_neg pe_int) (fun _ _ => rfl)) (pe_un un_neg pe_int) (fun _ _ => rfl)) (pa_cons (pe_bltn (v := .ty "str") (by rfl) T.n_str (by decide +kernel) rfl) pa_nil)))))))))
 (pss_one (ps_ret pe_non))
 pss_nil)
 (pss_cons (ps_set (i := 3) sc_read_words.nd rfl (Or.inl rfl) (pe_bm0 PySem.F.plainAttrs_list PySem.F.slot_list_pop PySem.F.type_list_pop mt_pop (pv 1)))
 (pss_cons (ps_set (i := 4) sc_read_words.nd rfl (Or.inl rfl) (pe_bm0 PySem.F.plainAttrs_list PySem.F.slot_list_pop PySem.F.type_list_pop mt_pop (pe_ix ix_list (pv 1) (pe_un un_neg pe_int) (fun _ _ => rfl))))
 (pss_one (ps_expr (pe_bm PySem.F.plainAttrs_list PySem.F.slot_list_append PySem.F.type_list_append mt_append (pe_ix ix_list (pv 1) (pe_un un_neg pe_int) (fun _ _ => rfl)) (pa_cons (pe_tup (pa_cons (pe_gStr (by rfl) T.g_OP) (pa_cons (pv 4) (pa_star (pv 3) pa_nil)))) pa_nil)))))))
 (pss_one (ps_expr (pe_bm PySem.F.plainAttrs_list PySem.F.slot_list_append PySem.F.type_list_append mt_append (pe_ix ix_list (pv 1) (pe_un un_neg pe_int) (fun _ _ => rfl)) (pa_cons (pv 2) pa_nil)))))))))))))
 (pss_one (ps_ret (pe_ifExp (PW.pt (pw_and (pt_cmpR op_eq (pe_callB call_len_seq (by rfl) T.n_len (by decide +kernel) (pa_cons (pv 1) pa_nil)) pe_int (nomark _)) (pw_and1 (pt_cmpR op_eq (pe_callB call_len_seq (by rfl) T.n_len (by decide +kernel) (pa_cons (pe_ix ix_list (pv 1) pe_int (fun _ _ => rfl)) pa_nil)) pe_int (nomark _))))) (pe_ix ix_list (pe_ix ix_list (pv 1) pe_int (fun _ _ => rfl)) pe_int (fun _ _ => rfl)) pe_non))))), ?_⟩
  refine ⟨show 0 ≤ sizeLine by decide, fun l0 hl0 => ⟨show 1 ≤ sizeLine by decide, fun S hS => ?_⟩⟩
  obtain ⟨a, xs, rfl, ea, hs⟩ := hd.lst_
  have gl0 : G l0 = none := fresh_back s hl0
  have ne : l0 ≠ S := fun z => by rw [← z, upd_same] at hS; cases hS
  have hS0 : H S = none := fresh_back (Ex.new hl0) hS
  have gS : G S = none := fresh_back s hS0
  have I0 : RdI H G G (upd (upd H l0 (.lst [])) S (.lst [.ref l0])) S [l0] [[]] := by
    refine ⟨Gr.keep s ((Ex.new hl0).trans (Ex.new hS)), upd_same, gS, hS0, .cons ?_ .nil List.not_mem_nil ne gl0 hl0 .nil⟩
    rw [upd_ne ne, upd_same]
  refine ⟨_, rfl, a, rfl, ⟨xs, SqL.of (I0.gr.s _ _ ea)⟩, for_list (K := K) (a := a) (xs := xs) (fun i σ' H' => ∃ G' l ls c cs u2 u3 u4, σ' = [some (.ref a), some (.ref S), u2, u3, u4] ∧ RdI H G G' H' S (l :: ls) (c :: cs) ∧ rdR (some [[]]) (ws.take i) = some (c :: cs) ∧ (∀ x ∈ (c :: cs), x.length ≤ i) ∧ (l :: ls).length ≤ i + 1)
    ⟨G, l0, [], [], [], _, _, _, rfl, I0, rfl, fun x hx => by cases List.mem_singleton.mp hx; exact Nat.le_refl _, Nat.le_refl _⟩ ?_ ?_ ?_⟩
  · rintro i σ' H' _ ⟨G', l, ls, c, cs, u2, u3, u4, rfl, I, _⟩
    exact SqL.of (I.gr.s _ _ (I.gr.g _ _ ea))
  · rintro i x σ' H' hx ⟨G', l, ls, c, cs, u2, u3, u4, rfl, I, hR, hlen, hls⟩
    obtain ⟨dw, hdi, hdv⟩ := hs.at hx
    obtain ⟨w, hw, rfl⟩ : ∃ w, ws[i]? = some w ∧ dw = .str w := by
      rw [List.getElem?_map] at hdi
      cases e : ws[i]? with
      | none => rw [e] at hdi; cases hdi
      | some w => rw [e] at hdi; cases hdi; exact ⟨w, rfl, rfl⟩
    have hi : i < ws.length := (List.getElem?_eq_some_iff.mp hw).1
    obtain ⟨rfl, hwl1⟩ := hdv.str_
    have hstep : rdR (some [[]]) (ws.take (i + 1)) = rdS (c :: cs) w := by rw [rdR_take hw, hR]; rfl
    have hdG := hdv.up I.gr.g
    have hc : c.length ≤ 5000 := by have := hlen c (List.mem_cons_self ..); omega
    unfold rdS at hstep
    refine s_ifD I.gr.s (et_test (ev_eqS (evd_var rfl hdG) ev_c)) (fun hb H1 x1 => ?_) (fun hb H1 x1 => ?_)
    · have hb : w = "_" := of_decide_eq_true hb
      rw [if_pos hb] at hstep
      exact top_append (I.go (Gr.keep I.gr.s x1)) rfl (evd_tup (evd_cons (evd_str ev_c (by decide)) evd_nil) (by simp)) hc fun G2 H2 I2 _ => ⟨G2, l, ls, _, cs, _, _, _, rfl, I2, hstep, put_ok (ls := ls) (l := l) hlen, by omega⟩
    have n1 : ¬ w = "_" := of_decide_eq_false hb
    rw [if_neg n1] at hstep
    have I1 := I.go (Gr.keep I.gr.s x1)
    refine s_ifD I1.gr.s (et_test (ev_eqS (evd_var rfl hdG) ev_c)) (fun hb H2 x2 => ?_) (fun hb H2 x2 => ?_)
    · have hb : w = "@" := of_decide_eq_true hb
      rw [if_pos hb] at hstep
      exact top_append (I1.go (Gr.keep I1.gr.s x2)) rfl (evd_tup (evd_cons (evd_str ev_c (by decide)) evd_nil) (by simp)) hc fun G2 H2 I2 _ => ⟨G2, l, ls, _, cs, _, _, _, rfl, I2, hstep, put_ok (ls := ls) (l := l) hlen, by omega⟩
    have n2 : ¬ w = "@" := of_decide_eq_false hb
    rw [if_neg n2] at hstep
    have I2 := I1.go (Gr.keep I1.gr.s x2)
    refine s_ifD I2.gr.s (et_test (ev_eqS (evd_var rfl hdG) ev_c)) (fun hb H3 x3 => ?_) (fun hb H3 x3 => ?_)
    · have hb : w = "(" := of_decide_eq_true hb
      rw [if_pos hb] at hstep
      have I3 := I2.go (Gr.keep I2.gr.s x3)
      refine ⟨_, rfl, .inl ⟨rfl, _, SqL.of I3.own⟩, show 0 ≤ sizeLine by decide, fun q hq => ?_⟩
      have nq : S ≠ q := fun z => by rw [← z, I3.own] at hq; cases hq
      refine ⟨S, _, .ref q, rfl, rfl, (by rw [upd_ne nq]; exact I3.own), ?_, ?_⟩
      · rw [List.length_map, List.length_reverse]
        exact Nat.lt_of_le_of_lt (by omega : _ ≤ 2000) (by decide)
      · refine ⟨G', q, l :: ls, [], c :: cs, _, _, _, rfl, ?_, hstep, ?_, ?_⟩
        · have e : (l :: ls).reverse.map V.ref ++ [V.ref q] = (q :: l :: ls).reverse.map V.ref := by rw [List.reverse_cons (a := q), List.map_append]; rfl
          rw [e]
          exact I3.push hq
        · intro x hx
          rcases List.mem_cons.mp hx with rfl | hx
          · exact Nat.zero_le _
          · exact Nat.le_succ_of_le (hlen x hx)
        · rw [List.length_cons]
          omega
    have n3 : ¬ w = "(" := of_decide_eq_false hb
    rw [if_neg n3] at hstep
    have I3 := I2.go (Gr.keep I2.gr.s x3)
    refine s_ifD I3.gr.s (et_test (ev_eqS (evd_var rfl hdG) ev_c)) (fun hb H4 x4 => ?_) (fun hb H4 x4 => ?_)
    · have hb : w = ")" := of_decide_eq_true hb
      rw [if_pos hb] at hstep
      have I4 := I3.go (Gr.keep I3.gr.s x4)
      have out : rdR (some [[]]) (ws.take (i + 1)) = none → rdW ws = .none := fun z => by
        have e : rdR (some [[]]) ws = none := by
          have e1 : ws = ws.take (i + 1) ++ ws.drop (i + 1) := (List.take_append_drop _ _).symm
          have e2 : ∀ A B, rdR (some [[]]) (A ++ B) = rdR (rdR (some [[]]) A) B := fun A B => by unfold rdR; rw [List.foldl_append]
          rw [e1, e2, z, rdR_none]
        unfold rdW
        rw [e]
      have fail : ∀ {H5 : Hp}, Ex H4 H5 → rdR (some [[]]) (ws.take (i + 1)) = none → Q .non H5 := fun x5 z => by
        have := out z
        rw [this] at k
        exact k .non G' _ (I4.gr.trans (Gr.keep I4.gr.s x5)) .non
      have evS : ∀ {G : Hp} {u : Option V}, Ev (tVar 1) [some (.ref a), some (.ref S), some (.str w), u3, u4] G (.ref S) := ev_var rfl
      have lenS : Ev (tCB (fun xs H Q => ∃ p ys, xs = [V.ref p] ∧ (SqL K H p ys ∨ SqT K H p ys) ∧ Q (.int ys.length) H) (tCons (tVar 1) tNil)) [some (.ref a), some (.ref S), some (.str w), u3, u4] H4 (.int ((l :: ls).length : Int)) := ev_is (ev_len (K := K) (ev_var rfl) (SqL.of I4.own)) (by rw [List.length_map, List.length_reverse])
      cases I4.stk with
      | @cons _ _ xs1 _ _ e1 d1 nn1 nS1 g1 f1 t1 =>
      cases t1 with
      | nil =>
        refine q_ifD (Ex.refl H4) (et_orT (et_is (et_test (ev_op lenS ev_c rv_I0)) (decide_eq_true (by simp)))) (fun _ H5 x5 => fail x5 hstep) (fun z => by cases z)
      | @cons l2 ls' xs2 c2 cs' e2 d2 nn2 nS2 g2 f2 t2 =>
      have nlt : decide (((l :: l2 :: ls').length : Int) < 2) = false := decide_eq_false (by rw [List.length_cons, List.length_cons]; omega)
      have own : H4 S = some (.lst ((ls'.reverse.map V.ref ++ [V.ref l2]) ++ [V.ref l])) := by
        have := I4.own
        rwa [List.reverse_cons, List.reverse_cons, List.map_append, List.map_append] at this
      have ev2 : Ev (tOp (rIxL K) (tVar 1) (tNeg 2)) [some (.ref a), some (.ref S), some (.str w), u3, u4] H4 (.ref l2) := ev_op (ev_var rfl) ev_neg (rv_ixL (SqL.of own) (atI_neg2 _ _ _))
      have hstep : rdR (some [[]]) (ws.take (i + 1)) = match lastS c2 with
        | some x => some ((c2.dropLast ++ [.tuple (.str "op" :: .str x :: c)]) :: cs')
        | none => none := hstep
      rcases List.eq_nil_or_concat c2 with z | ⟨c2', dl, z⟩
      · subst z
        cases d2
        refine q_ifD (Ex.refl H4) (et_is (et_or (b := true) (et_test (ev_op lenS ev_c rv_I0)) fun _ => et_orT (et_test (ev_eqELv ev2 (SqL.of e2)))) (Bool.or_true _)) (fun _ H5 x5 => fail x5 hstep) (fun z => by cases z)
      rw [List.concat_eq_append] at z
      subst z
      obtain ⟨xs', vl, rfl, dx, dv⟩ := DaAll.snoc d2
      have evl : EvD (tOp (rIxL K) (tOp (rIxL K) (tVar 1) (tNeg 2)) (tNeg 1)) [some (.ref a), some (.ref S), some (.str w), u3, u4] H4 dl := evd_ofEv (ev_op ev2 ev_neg (rv_ixL (SqL.of e2) (atI_last _ _))) (dv.up I4.gr.s)
      have hne : (xs' ++ [vl]).isEmpty = false := by cases xs' <;> rfl
      refine q_ifD (Ex.refl H4) (b := !(kd dl == "str")) (et_is (et_or (et_test (ev_op lenS ev_c rv_I0)) fun _ => et_or (et_test (ev_eqELv ev2 (SqL.of e2))) fun _ => et_not (et_B (ev_isStr evl))) (by rw [nlt, hne]; rfl)) (fun hb5 H5 x5 => ?_) (fun hb5 H5 x5 => ?_)
      · refine fail x5 ?_
        rw [hstep]
        have : lastS (c2' ++ [dl]) = none := by
          unfold lastS
          rw [List.getLast?_append]
          cases dl <;> first | rfl | (simp [kd] at hb5)
        rw [this]
      · have hk : kd dl = "str" := by simpa using hb5
        obtain ⟨x, rfl⟩ := kd_str hk
        obtain ⟨rfl, hxl⟩ := dv.str_
        have hl2 : lastS (c2' ++ [.str x]) = some x := by unfold lastS; rw [List.getLast?_append]; rfl
        rw [hl2] at hstep
        have hstep : rdR (some [[]]) (ws.take (i + 1)) = some (((c2' ++ [PyData.str x]).dropLast ++ [.tuple (.str "op" :: .str x :: c)]) :: cs') := hstep
        rw [List.dropLast_concat] at hstep
        have I5 := I4.go (Gr.keep I4.gr.s x5)
        have own5 : H5 S = some (.lst ((ls'.reverse.map V.ref ++ [V.ref l2]) ++ [V.ref l])) := x5 _ _ own
        refine ⟨_, rfl, .inl ⟨rfl, _, SqL.of own5⟩, S, _, .ref l, rfl, rfl, own5, get_last _ _, ?_⟩
        obtain ⟨G6, xg, hdl, I6⟩ := I5.take
        have er : ((ls'.reverse.map V.ref ++ [V.ref l2]) ++ [V.ref l]).dropLast = (l2 :: ls').reverse.map V.ref := by rw [List.dropLast_concat, List.reverse_cons, List.map_append]; rfl
        rw [er]
        have own6 : upd H5 S (.lst ((l2 :: ls').reverse.map V.ref)) S = some (.lst (ls'.reverse.map V.ref ++ [V.ref l2])) := by rw [upd_same, List.reverse_cons, List.map_append]; rfl
        have e6 : upd H5 S (.lst ((l2 :: ls').reverse.map V.ref)) l2 = some (.lst (xs' ++ [.str x])) := by rw [upd_ne nS2]; exact x5 _ _ e2
        refine ⟨_, rfl, 1, rfl, S, _, -1, .ref l2, rfl, rfl, SqL.of own6, atI_last _ _, .inl ⟨rfl, _, SqL.of e6⟩, l2, _, .str x, rfl, rfl, e6, get_last _ _, ?_⟩
        rw [List.dropLast_concat]
        have I7 := I6.top (dx.up xg)
        have hc2 := hlen (c2' ++ [.str x]) (by simp)
        rw [List.length_append] at hc2
        have hcl := hlen c (List.mem_cons_self ..)
        refine top_append I7 rfl (EvD.is (evd_tup (evd_cons (evd_str ev_c (by decide)) (evd_cons (evd_str (ev_var rfl) hxl) (evd_starL (evd_var rfl hdl) evd_nil))) ?_) (by rw [List.append_nil])) (by simp at hc2; omega) fun G8 H8 I8 _ => ⟨G8, l2, ls', _, cs', _, _, _, rfl, I8, hstep, ?_, ?_⟩
        · simp
          omega
        · intro y hy
          rcases List.mem_cons.mp hy with rfl | hy
          · rw [List.length_append]
            simp at hc2 ⊢
            omega
          · exact Nat.le_succ_of_le (hlen y (by simp [hy]))
        · simp at hls ⊢
          omega
    have n4 : ¬ w = ")" := of_decide_eq_false hb
    rw [if_neg n4] at hstep
    exact top_append (I3.go (Gr.keep I3.gr.s x4)) rfl (evd_var rfl hdG) hc fun G2 H2 I2 _ => ⟨G2, l, ls, _, cs, _, _, _, rfl, I2, hstep, put_ok (ls := ls) (l := l) hlen, by omega⟩
  · rintro σ' H' ⟨G', l, ls, c, cs, u2, u3, u4, rfl, I, hR, hlen, hls⟩
    rw [hs.len, List.length_map, List.take_length] at hR
    have lenS : Ev (tCB (fun xs H Q => ∃ p ys, xs = [V.ref p] ∧ (SqL K H p ys ∨ SqT K H p ys) ∧ Q (.int ys.length) H) (tCons (tVar 1) tNil)) [some (.ref a), some (.ref S), u2, u3, u4] H' (.int ((l :: ls).length : Int)) := ev_is (ev_len (K := K) (ev_var rfl) (SqL.of I.own)) (by rw [List.length_map, List.length_reverse])
    have no : rdW ws = .none → ∀ H'', Ex H' H'' → Q .non H'' := fun z H'' x => by
      rw [z] at k
      exact k .non G' _ (I.gr.trans (Gr.keep I.gr.s x)) .non
    cases I.stk with
    | @cons _ _ xs1 _ _ e1 d1 nn1 nS1 g1 f1 t1 =>
    cases t1 with
    | @cons l2 ls' xs2 c2 cs' e2 d2 nn2 nS2 g2 f2 t2 =>
      refine (et_andF (et_is (et_test (ev_eqI lenS ev_c)) (decide_eq_false (by rw [List.length_cons, List.length_cons]; omega)))) H' (Ex.refl _) _ fun H'' x => ?_
      refine no ?_ H'' x
      unfold rdW
      rw [hR]
      rcases c with _ | ⟨_, _ | _⟩ <;> rfl
    | nil =>
      have ev0 : Ev (tOp (rIxL K) (tVar 1) (tC (.int 0))) [some (.ref a), some (.ref S), u2, u3, u4] H' (.ref l) := ev_op (ev_var rfl) ev_c (rv_ixL (SqL.of I.own) (atI_nat (j := 0) rfl))
      have len0 : Ev (tCB (fun xs H Q => ∃ p ys, xs = [V.ref p] ∧ (SqL K H p ys ∨ SqT K H p ys) ∧ Q (.int ys.length) H) (tCons (tOp (rIxL K) (tVar 1) (tC (.int 0))) tNil)) [some (.ref a), some (.ref S), u2, u3, u4] H' (.int (c.length : Int)) := ev_is (ev_len (K := K) ev0 (SqL.of e1)) (by rw [d1.len])
      refine (et_and (b := decide ((c.length : Int) = 1)) (et_test (ev_eqI lenS ev_c)) fun _ => et_test (ev_eqI len0 ev_c)) H' (Ex.refl _) _ fun H'' x => ?_
      have e3 : decide ((([l] : List Addr).length : Int) = 1) = true := by simp
      rw [e3, Bool.true_and]
      match c, d1, hR with
      | [d], .cons hd1 .nil, hR =>
        refine if_so rfl ?_
        have e4 : rdW ws = d := by unfold rdW; rw [hR]
        rw [e4] at k
        exact (ev_op (ev0.mono x) ev_c (rv_ixL (SqL.of (x _ _ e1)) (atI_nat (j := 0) rfl))) H'' (Ex.refl _) _ fun H3 x3 => k _ G' H3 (I.gr.trans (Gr.keep I.gr.s (x.trans x3))) hd1
      | [], .nil, hR =>
        refine if_no rfl (no ?_ H'' x)
        unfold rdW
        rw [hR]
      | a1 :: b1 :: r1, _, hR =>
        refine if_no (decide_eq_false (by rw [List.length_cons, List.length_cons]; omega)) (no ?_ H'' x)
        unfold rdW
        rw [hR]
end
end My
set_option maxHeartbeats 4000000
/-! bool(x), x an instance whose class has a __bool__ of its own -/
namespace LfB
open PySem PySem.Spec PyProof.Rows
section
variable {prog : Program} {w : World} {A : Around} {E : Value → Shared → Prop} {s : Shared} {K : PySem.W.Frag} {x C D f : Addr} {ox od : Obj} {odd : Option Obj}
theorem truthy_own {Q : Bool → Shared → Prop} (X : K.In s.heap) (I : PySem.W.InstAt s.heap x ox C odd) (hs : PySem.W.findIn K (.ref C) "__bool__" = some (some (.ref f))) (hf : PySem.W.isFn K (.ref f) = true)
    (h : wpAny (model prog w) A (call (.ref f) [.ref x]) (fun r s₁ => ∃ b, r = Value.bool b ∧ Q b s₁) E s) : wpAny (model prog w) A (truthy (.ref x)) Q E s := by
  unfold truthy
  have key : wpAny (model prog w) A (callSpecial? (.ref x) (Str.ofString "__bool__")) (fun r s₁ => ∃ b, r = some (Value.bool b) ∧ Q b s₁) E s :=
    PySem.W.special_fn X I hs (beq_iff_eq.mp hf) (wpAny_mono h (fun r s' ⟨b, e, q⟩ => ⟨b, by rw [e], q⟩) fun _ _ y => y)
  first
    | refine wpAny_bind (wpAny_mono key (fun r s' hr => ?_) fun _ _ y => y)
    | refine wpAny_bind (wpAny_pure (wpAny_bind (wpAny_mono key (fun r s' hr => ?_) fun _ _ y => y)))
  obtain ⟨b, rfl, q⟩ := hr
  first
    | exact wpAny_pure q
    | exact wpAny_bind (wpAny_pure q)
theorem type_bool : isType (.type "bool") = pure true := rfl
theorem bool_own {Q : Value → Shared → Prop} (X : K.In s.heap) (I : PySem.W.InstAt s.heap x ox C odd) (hs : PySem.W.findIn K (.ref C) "__bool__" = some (some (.ref f))) (hf : PySem.W.isFn K (.ref f) = true)
    (h : wpAny (model prog w) A.in1.in1 (call (.ref f) [.ref x]) (fun r s₁ => ∃ b, r = Value.bool b ∧ Q r s₁) E s) : wpAny (model prog w) A (call (.type "bool") [.ref x]) Q E s := by
  refine callType_codes (T := "bool") (Bi := Builtin.«object.__init__») (Q₁ := fun r s₁ => ∃ b, r = Value.bool b ∧ Q r s₁) PySem.F.called_bool (PySem.F.typeCall_bool_1 _) PySem.F.entry_object_init ?_ ?_
  · refine codeAny_of_tree ?_
    show wpAny _ A.in1.in1 (do checkBuiltinCall "bool.__new__" ⟨[.type "bool", .ref x], []⟩; again (.builtin "bool.__new__" ⟨[.type "bool", .ref x], []⟩)) _ _ s
    refine wpAny_bind (wpAny_of_eq (PySem.F.newCall_bool_1 _) (wpAny_pure ⟨plainId_quiet (by decide +kernel) _, codeAny_builtin PySem.F.entry_bool_new ?_⟩))
    rw [Around.under_plainId (by decide +kernel) _]
    unfold Builtin.«bool.__new__»
    refine wpAny_bind (wpAny_of_eq (a := true) type_bool ?_)
    refine PySem.W.KFB.if_not rfl ?_
    refine wpAny_bind (wpAny_of_eq (a := true) PySem.F.conv_sub_bool ?_)
    refine PySem.W.KFB.if_not rfl ?_
    refine wpAny_bind (wpAny_of_eq (a := [.ref x]) rfl ?_)
    refine wpAny_bind (truthy_own X I hs hf (wpAny_mono h (fun r s₁ hr => ?_) fun _ _ y => y))
    obtain ⟨b, rfl, hq⟩ := hr
    refine ⟨b, rfl, ?_⟩
    exact wpAny_pure ⟨b, rfl, hq⟩
  · rintro obj s₁ ⟨b, rfl, hq⟩
    exact ⟨PySem.typeIs_bool _ _, PySem.F.args_object_init_2 _ _, object_init_meets PySem.F.called_bool.init.lookup PySem.F.called_bool.made (by decide) prog w A.in1 _ s₁ ⟨PySem.typeIs_bool _ _, rfl, hq⟩⟩
end
end LfB
namespace L2
open PySem PySem.Spec PyProof.Rows
section
variable {X : Cx} {CX : CXT} {pins : List (Addr × Obj)} {σ : St} {H : Hp} {s : Shared} {C : Addr} {ps : List Str} {m : Str} {n : Nat} {sp : Sp} {E : XK}
theorem run_fnAt {A : Around} {Q : VK} {g : Addr} {fd : FuncData} {us : List Value} {ws : List V} (F : FnOk X.prog X.w X.K X.mg X.base CX n g fd ps sp) (hb : Binds X.K fd ps []) (hr : Room n A) (e0 : Env0 X.prog X.w X.K X.mg X.base A X.stack s H) (hx : Passes CX X E) (I : Inv X pins σ H s) (r : Vals ws us) (h : sp ws H Q E) :
    codeAny (model X.prog X.w) A (.call (.ref g) ⟨us, []⟩) (fun r s' => match r with | .ok (.ret v) => EP X pins σ Q v s' | .ok _ => False | .error e => X.xe e s') s := by
  have hl : us.length = ps.length := by rw [← r.length]; exact F.len _ _ _ _ h
  have b := hb s us I.kIn (by rw [List.append_nil]; exact hl)
  rw [List.append_nil] at b
  refine codeAny_mono (F.run A X.stack s H ⟨us, []⟩ us ws Q E hr e0 b r h) fun r s' hq => ?_
  cases r with
  | error e => exact hx pins σ H s e s' I hq
  | ok fl =>
    cases fl with
    | ret u => exact I.after hq
    | next => exact False.elim hq
    | brk => exact False.elim hq
    | cont => exact False.elim hq
/-- bool(x) of an instance with an own __bool__ -/
def rBoolOwn (C : Addr) (sp : Sp) (E : XK) : List V → Hp → VK → Prop := fun xs H Q => ∃ a dx fs, xs = [V.ref a] ∧ H a = some (.ins C dx fs) ∧ sp [.ref a] H (fun z H' => ∃ b, z = .bl b ∧ Q z H') E
theorem call_boolOwn (D : MethOk X.prog X.w X.K X.mg X.base CX n C "__bool__" ps sp) (hr : Room (n + 2) X.A) (hx : Passes CX X E) : CallR X (.type "bool") (rBoolOwn C sp E) := by
  obtain ⟨f, fd, hm, hb, F⟩ := D
  intro pins s σ H xs us Q I r h
  obtain ⟨a, dx, fs, rfl, hsl, q⟩ := h
  obtain ⟨u, rfl, ru⟩ := r.one
  cases (show u = Value.ref a from ru)
  obtain ⟨mA, O, _⟩ := ins_get I.hok hsl
  obtain ⟨od, J, _⟩ := O.look
  have hr2 : Room n X.A.in1.in1 := (show Room (n + 1) X.A.in1 from Room.in1 hr).in1
  refine LfB.bool_own I.kIn J hm.at_ hm.fn (wpAny_mono (wpAny_call (run_fnAt (us := [.ref a]) (ws := [.ref a]) F hb hr2 I.env0.in1.in1 hx I (.cons rfl .nil) q)) (fun w s' z => ?_) fun _ _ x => x)
  obtain ⟨z', H', I', rz, b, eb, qz⟩ := z
  subst eb
  cases (show w = Value.bool b from rz)
  exact ⟨b, rfl, .bl b, H', I', rfl, qz⟩
end
end L2
set_option maxHeartbeats 4000000
/-! An instance's own __bool__ as a test, its own __contains__ -/
namespace L2
open PySem PySem.Spec PyProof.Rows
section
variable {X : Cx} {CX : CXT} {C : Addr} {ps : List Str} {n : Nat} {sp : Sp} {E : XK}
def rTruOwn (C : Addr) (sp : Sp) (E : XK) : V → Hp → (Bool → Hp → Prop) → Prop := fun x H Q => ∃ a dx fs, x = V.ref a ∧ H a = some (.ins C dx fs) ∧ sp [.ref a] H (fun z H' => ∃ b, z = .bl b ∧ Q b H') E
theorem tru_own (D : MethOk X.prog X.w X.K X.mg X.base CX n C "__bool__" ps sp) (hr : Room n X.A) (hx : Passes CX X E) : TruR X (rTruOwn C sp E) := by
  obtain ⟨f, fd, hm, hb, F⟩ := D
  intro pins s σ H x v Q I r h
  obtain ⟨a, dx, fs, rfl, hsl, q⟩ := h
  cases (show v = Value.ref a from r)
  obtain ⟨mA, O, _⟩ := ins_get I.hok hsl
  obtain ⟨od, J, _⟩ := O.look
  refine LfB.truthy_own I.kIn J hm.at_ hm.fn (wpAny_mono (wpAny_call (run_fnAt (us := [.ref a]) (ws := [.ref a]) F hb hr I.env0 hx I (.cons rfl .nil) q)) (fun w s' z => ?_) fun _ _ x => x)
  obtain ⟨z', H', I', rz, b, eb, qz⟩ := z
  subst eb
  cases (show w = Value.bool b from rz)
  exact ⟨b, rfl, H', I', qz⟩
def tNotR (r : V → Hp → (Bool → Hp → Prop) → Prop) (ta : TE) : TE := fun σ H Q => ta σ H fun x H1 => r x H1 fun k H2 => Q (.bl (!k)) H2
theorem pe_notR {a : Expr} {ta : TE} {pos : Pos} {r : V → Hp → (Bool → Hp → Prop) → Prop} (ha : PE X a ta) (hr : TruR X r) : PE X (.UnaryOp .Not a pos) (tNotR r ta) := by
  refine ⟨fun pins s σ H Q I h => ?_⟩
  refine UnaryOp_ (thn (ha.run pins s σ H _ I h) fun v s1 ⟨x, H1, I1, r1, q1⟩ => ?_)
  exact not_of (thn (hr pins s1 σ H1 x v (fun c H2 => Q (.bl (!c)) H2) I1 r1 q1) fun c s2 ⟨H2, I2, q2⟩ => ⟨.bl (!c), H2, I2, rfl, q2⟩)
/-- x in o, o an instance with a __contains__ of its own -/
def rInOwn (C : Addr) (sp : Sp) (E : XK) : R2 := fun x y H Q => ∃ a dx fs, y = V.ref a ∧ H a = some (.ins C dx fs) ∧ sp [.ref a, x] H (fun z H' => ∃ b, z = .bl b ∧ Q (.bl b) H') E
def rNiOwn (C : Addr) (sp : Sp) (E : XK) : R2 := fun x y H Q => ∃ a dx fs, y = V.ref a ∧ H a = some (.ins C dx fs) ∧ sp [.ref a, x] H (fun z H' => ∃ b, z = .bl b ∧ Q (.bl (!b)) H') E
theorem op_inOwn (D : MethOk X.prog X.w X.K X.mg X.base CX n C "__contains__" ps sp) (hr : Room n X.A) (hx : Passes CX X E) : OpR X (compareOp .In) (rInOwn C sp E) := by
  obtain ⟨f, fd, hm, hb, F⟩ := D
  intro pins s σ H x y v u Q I rx ry h
  obtain ⟨a, dx, fs, rfl, hsl, q⟩ := h
  cases (show u = Value.ref a from ry)
  obtain ⟨mA, O, _⟩ := ins_get I.hok hsl
  obtain ⟨od, J, _⟩ := O.look
  obtain ⟨mf, fr⟩ := I.fr
  refine PySem.W.in_K fr I.ok.mod.kin J hm.at_ hm.fn (wpAny_mono (wpAny_call (run_fnAt (us := [.ref a, v]) (ws := [.ref a, x]) F hb hr I.env0 hx I (.cons rfl (.cons rx .nil)) q)) (fun w s' z => ?_) fun _ _ x => x)
  obtain ⟨z', H', I', rz, b, eb, qz⟩ := z
  subst eb
  cases (show w = Value.bool b from rz)
  exact wpAny_pure ⟨.bl b, H', I', rfl, qz⟩
theorem op_notInOwn (D : MethOk X.prog X.w X.K X.mg X.base CX n C "__contains__" ps sp) (hr : Room n X.A) (hx : Passes CX X E) : OpR X (compareOp .NotIn) (rNiOwn C sp E) := by
  obtain ⟨f, fd, hm, hb, F⟩ := D
  intro pins s σ H x y v u Q I rx ry h
  obtain ⟨a, dx, fs, rfl, hsl, q⟩ := h
  cases (show u = Value.ref a from ry)
  obtain ⟨mA, O, _⟩ := ins_get I.hok hsl
  obtain ⟨od, J, _⟩ := O.look
  obtain ⟨mf, fr⟩ := I.fr
  refine PySem.W.notIn_K fr I.ok.mod.kin J hm.at_ hm.fn (wpAny_mono (wpAny_call (run_fnAt (us := [.ref a, v]) (ws := [.ref a, x]) F hb hr I.env0 hx I (.cons rfl (.cons rx .nil)) q)) (fun w s' z => ?_) fun _ _ x => x)
  obtain ⟨z', H', I', rz, b, eb, qz⟩ := z
  subst eb
  cases (show w = Value.bool b from rz)
  exact wpAny_pure ⟨.bl (!b), H', I', rfl, qz⟩
end
end L2
set_option maxHeartbeats 4000000
/-! x == y, two instances of a class with an own __eq__, any answer -/
namespace L2
open PySem PySem.Spec PyProof.Rows
section
variable {X : Cx} {CX : CXT} {C : Addr} {ps : List Str} {n : Nat} {sp : Sp} {E : XK}
def rEqOwn (C : Addr) (sp : Sp) (E : XK) : R2 := fun x y H Q => ∃ a b dx dy fs gs, x = V.ref a ∧ y = V.ref b ∧ H a = some (.ins C dx fs) ∧ H b = some (.ins C dy gs) ∧ sp [.ref a, .ref b] H (fun z H' => ∃ k, z = .bl k ∧ Q (.bl k) H') E
theorem op_eqOwn (D : MethOk X.prog X.w X.K X.mg X.base CX n C "__eq__" ps sp) (hr : Room n X.A) (hx : Passes CX X E) : OpR X (compareOp .Eq) (rEqOwn C sp E) := by
  obtain ⟨f, fd, hm, hb, F⟩ := D
  intro pins s σ H x y v u Q I rx ry h
  obtain ⟨a, b, dx, dy, fs, gs, rfl, rfl, ha, hb', q⟩ := h
  cases (show v = Value.ref a from rx)
  cases (show u = Value.ref b from ry)
  obtain ⟨mA, J, _⟩ := ins_get I.hok ha
  obtain ⟨mB, J', _⟩ := ins_get I.hok hb'
  obtain ⟨od, J, _⟩ := J.look
  obtain ⟨od', J', _⟩ := J'.look
  obtain ⟨m, hF⟩ := I.fr
  show wpAny (model X.prog X.w) X.A (richCompare .Eq (.ref a) (.ref b)) (EP X pins σ Q) X.xe s
  refine PySem.W.cmp_K (op := .Eq) (tb := .ref C) hr.units0 hF I.ok.mod.kin J J'.type (by simp [PySem.W.notFirst]) hm.at_ hm.fn (wpAny_mono (wpAny_call (run_fnAt (us := [.ref a, .ref b]) (ws := [.ref a, .ref b]) F hb hr I.env0 hx I (.cons rfl (.cons rfl .nil)) q)) (fun w s' z => ?_) fun _ _ x => x)
  obtain ⟨z', H', I', rz, k, ek, qz⟩ := z
  subst ek
  cases (show w = Value.bool k from rz)
  exact ⟨.bl k, H', I', rfl, qz⟩
end
end L2
set_option maxHeartbeats 4000000
/-! Texts of tuples: what a def promises where no repr is under way (A.guards = some []). fn_ofG and law_callG are the library's fn_of and law_call with that one more premise. -/
namespace L2
open PySem PySem.Spec PyProof.Rows
structure FnOkG (P : Program) (w : World) (K : PySem.W.Frag) (mg : Str → Option Value) (base : Heap) (CX : CXT) (k : Nat) (f : Addr) (fd : FuncData) (ps : List Str) (sp : Sp) : Prop where
  len : ∀ vs H Q E, sp vs H Q E → vs.length = ps.length
  run : ∀ (A : Around) (outer : List Env) (s : Shared) (H : Hp) (args : Args) (us : List Value) (vs : List V) (Q : VK) (E : XK), A.guards = some [] → Room k A → Env0 P w K mg base A outer s H → BindsTo s fd args (ps.zip us) → Vals vs us → sp vs H Q E →
    codeAny (model P w) A (.call (.ref f) args) (CR CX outer P w H s Q E) s
theorem deeper_guards {A : Around} {env : Env} (h : A.guards = some []) : (A.deeper env).guards = some [] := h
theorem fn_ofG {CX : CXT} {P : Program} {w : World} {K : PySem.W.Frag} {mg : Str → Option Value} {base : Heap} {k : Nat} {f : Addr} {name qual : Str} {params : Arguments} {body : List Stmt} {scope : Scope} {dV kV doc pm cdv ct oc : Value} {an od : Option Addr}
    {osl : Array (Option Value)} {N ps : List Str} {sp : Sp} (lk : K.lookup f = some ⟨oc, od, .func (PySem.W.fnOf name qual params body scope dV kV doc pm an cdv ct), osl⟩) (hcd : PySem.W.codeIn K cdv qual = true) (S : FnScope N ps scope)
    (len : ∀ vs H Q E, sp vs H Q E → vs.length = ps.length)
    (hbody : ∀ (A : Around) (outer : List Env) (s : Shared) (H : Hp) (vs : List V) (Q : VK) (E : XK), (A.deeper (envOfC qual scope s.heap.objs.size f cdv)).guards = some [] → Room k (A.deeper (envOfC qual scope s.heap.objs.size f cdv)) → sp vs H Q E →
      ∃ t, PSs (cxOf CX P w K mg base N qual scope f cdv A outer s H E) body t ∧ t { nx := fun _ H' => Q .non H', rt := Q } (start N vs) H) :
    FnOkG P w K mg base CX (k + 1) f (PySem.W.fnOf name qual params body scope dV kV doc pm an cdv ct) ps sp := by
  refine ⟨len, fun A outer s H args us vs Q E hg hr e0 hb r hsp => ?_⟩
  have hl := len _ _ _ _ hsp
  have KX : K.In s.heap := e0.mod.kin.keeps fun b o e => (e0.bs b o e).1
  have lim : s.heap.NoLimit := e0.mod.nolimit.keeps fun b o e => (e0.bs b o e).1
  have hkind : ∀ y ∈ ps.zip us, scope.names.lookup y.1 = some .local ∨ (scope.names.lookup y.1 = some .cell ∧ ((cellsFrom (s.heap.objs.size + 1) scope.names []).lookup y.1).isSome = true) := fun ⟨n, v⟩ hy => by
    rcases S.par n (List.of_mem_zip hy).1 with q | q
    · exact .inl q
    · exact .inr ⟨q, PySem.W.cellsFrom_some _ _ _ (.inl q)⟩
  refine codeAny_call_function hr.depth (KX _ _ lk) rfl S.co S.gen rfl (PySem.W.codeRec_of KX hcd) (hb _ _ _ _ ?_)
  refine wpAny_newFunctionEnv_cells S.kind hkind fun env he s1 x => ?_
  subst he
  refine ⟨lim.keeps x.toInCall.keep, codeAny_func ?_⟩
  obtain ⟨t, ht, hq⟩ := hbody A outer s H vs Q E hg (hr.deeper _) hsp
  have I : Inv (cxOf CX P w K mg base N qual scope f cdv A outer s H E) [] (start N vs) H s1 := inv_start S hr.hd e0 hl r x
  refine wpAny_mono (ht.run [] s1 (start N vs) H _ I hq) (fun fl s' hs => ?_) fun e s' hs => hs
  have fin : ∀ {σ' : St} {H' : Hp} {v : V} {u : Value}, Inv (cxOf CX P w K mg base N qual scope f cdv A outer s H E) [] σ' H' s' → RelV v u → Q v H' → CE outer P w H s Q u s' :=
    fun {σ' H' v u} J rv q => ⟨v, H', J.os, J.bare, J.base, J.hok, rv, q⟩
  cases fl with
  | ret u =>
    obtain ⟨v, σ', H', J, rv, q⟩ := hs
    exact fin J rv q
  | next =>
    obtain ⟨σ', H', J, q⟩ := hs
    exact fin (v := V.non) (u := Value.none) J rfl q
  | brk =>
    obtain ⟨_, _, _, q⟩ := hs
    exact False.elim q
  | cont =>
    obtain ⟨_, _, _, q⟩ := hs
    exact False.elim q
theorem law_callG {P : Program} {w : World} {K : PySem.W.Frag} {mg mb : Str → Option Value} {CX : CXT} {k : Nat} {fa a : Addr} {fd : FuncData} {x : Str} {sp : Sp} {s₁ : Shared} {vs : List Value} {ns : List Int}
    (KX : K.In s₁.heap) (hns : s₁.heap.Ns mainGlobals mg) (hb : s₁.heap.Ns builtinsNs mb) (hbb : ∀ x : Str, x ≠ "__name__" → mb x = bootBuiltins x) (hlim : s₁.heap.NoLimit) (hg : s₁.gens = #[])
    (ha : s₁.heap.get? a = some { cls := .type "list", data := .seq vs.toArray }) (hi : IntsAre vs ns) (hl : ns.length ≤ sizeLine) (hr : Room k callerA)
    (F : ∀ base : Heap, K.In base → base.Ns mainGlobals mg → FnOkG P w K mg base CX k fa fd [x] sp) (hbind : ∀ (s : Shared) (u : Value), BindsTo s fd ⟨[u], []⟩ [(x, u)])
    (hsp : ∀ H : Hp, Only H → SqL K H a (ns.map V.int) → sp [.ref a] H (fun v _ => v = .bl true) fun _ _ _ => False)
    (hCX : ∀ H e s', CX [] H s₁ (fun _ _ _ => False) e s' → False) :
    codeAny (model P w) callerA (.call (.ref fa) ⟨[.ref a], []⟩) (fun r s' => r = .ok (.ret (.bool true)) ∧ OldK s₁.heap s'.heap ∧ s'.os = s₁.os ∧ AllBare s'.gens) s₁ := by
  have rv := vals_ints hi
  have lenV := hi.length
  -- from an abstract heap in which nothing but the script may be tracked
  have core : ∀ H : Hp, Only H → SqL K H a (ns.map V.int) → HOk P w H s₁.heap → (∀ b, H b ≠ none → b = a) → (H a ≠ none → K.lookup a = none) →
      codeAny (model P w) callerA (.call (.ref fa) ⟨[.ref a], []⟩) (fun r s' => r = .ok (.ret (.bool true)) ∧ OldK s₁.heap s'.heap ∧ s'.os = s₁.os ∧ AllBare s'.gens) s₁ := by
    intro H hO hS hok hA hK
    have base_of : ∀ {b : Addr} {o : Obj}, s₁.heap.get? b = some o → H b = none → (hidT s₁.heap H).get? b = some o := fun e n => hidT_get e n
    have noA : ∀ {b : Addr} {o : Obj} {es : Array DictEntry} {ep : Nat}, s₁.heap.get? b = some o → o.data = .dict es ep → H b = none := fun {b o es ep} e d => by
      cases q : H b with
      | none => rfl
      | some u =>
        have e' : b = a := hA b (by rw [q]; simp)
        subst e'
        rw [ha] at e; cases e
        have d' : Data.seq vs.toArray _ = Data.dict es ep := d
        cases d'
    have nsK : ∀ {b : Addr} {m : Str → Option Value}, s₁.heap.Ns b m → (hidT s₁.heap H).Ns b m := fun {b m} ⟨o, es, ep, e, d, r⟩ => ⟨o, es, ep, base_of e (noA e d), d, r⟩
    have hKb : K.In (hidT s₁.heap H) := fun b o e => base_of (KX b o e) (by
      cases q : H b with
      | none => rfl
      | some u =>
        have e' : b = a := hA b (by rw [q]; simp)
        subst e'
        rw [hK (by rw [q]; simp)] at e; cases e)
    have hM : Mod K mg (hidT s₁.heap H) := ⟨hKb, nsK hns, ⟨mb, nsK hb, hbb⟩, let ⟨mc, h1, h2⟩ := hlim; ⟨mc, nsK h1, h2⟩⟩
    have e0 : Env0 P w K mg (hidT s₁.heap H) callerA [] s₁ H := ⟨rfl, hM, fun b o e => of_hidT e, Nat.le_of_eq (hidT_size _ _), trivial, fun b hb => absurd (show b ∈ ([] : List Addr) from hb) (by simp), hok, .of_eq hg⟩
    refine codeAny_mono ((F _ hKb (nsK hns)).run callerA [] s₁ H ⟨[.ref a], []⟩ [.ref a] [.ref a] _ _ rfl hr e0 (hbind s₁ (.ref a)) (.cons rfl .nil) (hsp H hO hS)) fun r s' h => ?_
    cases r with
    | error e => exact (hCX H e s' h).elim
    | ok fl =>
      cases fl with
      | next => exact False.elim h
      | brk => exact False.elim h
      | cont => exact False.elim h
      | ret u =>
        obtain ⟨v, H', os, bare, un, hok', r', q⟩ := h
        have q' : v = .bl true := q
        subst q'
        obtain rfl : u = Value.bool true := r'
        refine ⟨rfl, OldK.of_keep fun b o e => ?_, os, bare⟩
        cases q : H b with
        | none => exact un.keep b o e q (by intro z; exact absurd (show b ∈ ([] : List Addr) from z) (by simp)) (by simp)
        | some u =>
          rcases hO b with z | ⟨ob, xs, z⟩
          · rw [q] at z; cases z
          · have z2 := un.frzs b ob _ z
            obtain ⟨e1, _⟩ := hok b _ z
            obtain ⟨e2, _⟩ := hok' b _ z2
            rw [e] at e1; cases e1
            exact e2
  cases hk : K.lookup a with
  | some o =>
    -- the script is one of the module's own objects
    have e := KX a o hk
    rw [ha] at e
    cases e
    refine core (fun _ => none) (fun _ => .inl rfl) (.inr ⟨_, vs.toArray, _, hk, rfl, rfl, rfl, by rw [List.size_toArray, lenV]; exact hl, by simpa using rv⟩) (fun b u z => by have z' : (none : Option HO) = some u := z; cases z') (fun b z => absurd rfl z) fun z => absurd rfl z
  | none =>
    refine core (fun b => if b = a then some (.frz { cls := .type "list", data := .seq vs.toArray } (.lst (ns.map V.int))) else none) (fun b => ?_) (.inl (.inr ⟨{ cls := .type "list", data := .seq vs.toArray }, if_pos rfl⟩)) (fun b u z => ?_) (fun b z => ?_) fun _ => hk
    · by_cases hb : b = a
      · exact .inr ⟨_, _, if_pos hb⟩
      · exact .inl (if_neg hb)
    · by_cases hb : b = a
      · have z' := (if_pos hb).symm.trans z
        cases z'
        subst hb
        exact ⟨ha, by rw [List.length_map]; exact hl, vs, _, rv, ha⟩
      · have z' := (if_neg hb).symm.trans z
        cases z'
    · by_cases hb : b = a
      · exact hb
      · exact absurd (if_neg hb) z
theorem walk_ofKG {l : PySem.W.OpenLaw} {n k : Nat} {q : Program} {loose : List Str} {XP : (Str → Option Value) → Heap → Prop} {YP : World → Heap → Prop} {d : DefRec} {K : Params → PySem.W.Frag} {CX : CXT} {sp : PySem.W.Frag → Sp} {x : Str}
    (hn : l.most = some n) (hn2 : n ≤ sizeLine) (hdf : d.params.defaults = []) (hr : Room k callerA)
    (hY : ∀ (w : World) (h : Heap), YP w h → (K w.params).In h)
    (F : ∀ (w : World) (mg : Str → Option Value) (fa : Addr) (h : Heap), (K w.params).In h → h.Ns mainGlobals mg → mg d.name = some (.ref fa) →
      ∃ fd : FuncData, (∀ (s : Shared) (u : Value), BindsTo s fd ⟨[u], []⟩ [(x, u)]) ∧
        ∀ base : Heap, (K w.params).In base → base.Ns mainGlobals mg → FnOkG l.prog w (K w.params) mg base CX k fa fd [x] (sp (K w.params)))
    (hsp : ∀ (K : PySem.W.Frag) (H : Hp) (a : Addr) (ns : List Int), ns.length ≤ n → Only H → SqL K H a (ns.map V.int) → sp K [.ref a] H (fun v _ => v = .bl true) fun _ _ _ => False)
    (hCX : ∀ (H : Hp) (s : Shared) (e : Value) (s' : Shared), CX [] H s (fun _ _ _ => False) e s' → False) :
    PySem.W.WalkO q loose XP YP l.row.toRowW d [] (fun f vs => PySem.call f vs) := by
  refine Att.attach_call hn hdf fun w s₀ s₁ mg mb fa o pm cd doc a vs ns G Y ho hd hcd hmg hobj hints hlen hg => ?_
  have KX := hY w _ Y
  obtain ⟨fd, hb, hF⟩ := F w mg fa _ KX G.T.g hmg
  exact law_callG KX G.T.g G.T.b G.T.builtins G.T.nolimit hg hobj hints (Nat.le_trans hlen hn2) hr hF hb (fun H hO hS => hsp (K w.params) H a ns hlen hO hS) fun H e s' => hCX H s₁ e s'
def DefOkG (P : Program) (w : World) (K : PySem.W.Frag) (mg : Str → Option Value) (base : Heap) (CX : CXT) (k : Nat) (x : Str) (ps : List Str) (sp : Sp) : Prop :=
  ∃ f fd, mg x = some (.ref f) ∧ PySem.W.keepIn K (.ref f) = true ∧ Binds K fd ps [] ∧ FnOkG P w K mg base CX k f fd ps sp
def MethOkG (P : Program) (w : World) (K : PySem.W.Frag) (mg : Str → Option Value) (base : Heap) (CX : CXT) (k : Nat) (C : Addr) (m : Str) (ps : List Str) (sp : Sp) : Prop :=
  ∃ f fd, Meth K C m f ∧ Binds K fd ps [] ∧ FnOkG P w K mg base CX k f fd ps sp
section
variable {P : Program} {w : World} {K : PySem.W.Frag} {mg : Str → Option Value} {base : Heap}
theorem Fun.okG {x qual : Str} {st : Stmt} {f : Addr} {fd : FuncData} {N ps : List Str} {k : Nat} {sp : Sp} (F : Fun K x qual st f fd) (S : FnScope N ps (defScope st)) (len : ∀ vs H Q E, sp vs H Q E → vs.length = ps.length)
    (hbody : ∀ (cdv : Value) (A : Around) (outer : List Env) (s : Shared) (H : Hp) (vs : List V) (Q : VK) (E : XK), (A.deeper (envOfC qual (defScope st) s.heap.objs.size f cdv)).guards = some [] → Room k (A.deeper (envOfC qual (defScope st) s.heap.objs.size f cdv)) → sp vs H Q E →
      ∃ t, PSs (cxOf CX0 P w K mg base N qual (defScope st) f cdv A outer s H E).nox (defBody st) t ∧ t { nx := fun _ H' => Q .non H', rt := Q } (start N vs) H) : FnOkG P w K mg base CX0 (k + 1) f fd ps sp := by
  obtain ⟨oc, od, kV, doc, pm, an, cdv, ct, osl, rfl, lk, hcd⟩ := F.ex
  refine fn_ofG lk hcd S len fun A outer s H vs Q E hg hr hsp => ?_
  obtain ⟨t, h, q⟩ := hbody cdv A outer s H vs Q E hg hr hsp
  exact ⟨t, h.nox, q⟩
theorem Df.okG {x : Str} {st : Stmt} {N ps : List Str} {k : Nat} {sp : Sp} (D : Df K mg x st) (S : FnScope N ps (defScope st))
    (bd : ∀ (kV doc pm : Value) (an : Option Addr) (cdv ct : Value) (us : List Value), us.length = ps.length → bindArgs (PySem.W.fnOf x x (defArgs st) (defBody st) (defScope st) .none kV doc pm an cdv ct) ⟨us, []⟩ = pure (ps.zip us))
    (len : ∀ vs H Q E, sp vs H Q E → vs.length = ps.length)
    (hbody : ∀ (f : Addr) (cdv : Value) (A : Around) (outer : List Env) (s : Shared) (H : Hp) (vs : List V) (Q : VK) (E : XK), (A.deeper (envOfC x (defScope st) s.heap.objs.size f cdv)).guards = some [] → Room k (A.deeper (envOfC x (defScope st) s.heap.objs.size f cdv)) → sp vs H Q E →
      ∃ t, PSs (cxOf CX0 P w K mg base N x (defScope st) f cdv A outer s H E).nox (defBody st) t ∧ t { nx := fun _ H' => Q .non H', rt := Q } (start N vs) H) : DefOkG P w K mg base CX0 (k + 1) x ps sp := by
  obtain ⟨f, fd, F, hm⟩ := D
  exact ⟨f, fd, hm, F.kp, F.binds bd, F.okG S len (hbody f)⟩
theorem Dm.okG {C : Addr} {x qual : Str} {st : Stmt} {N ps : List Str} {k : Nat} {sp : Sp} (D : Dm K C x qual st) (S : FnScope N ps (defScope st))
    (bd : ∀ (kV doc pm : Value) (an : Option Addr) (cdv ct : Value) (us : List Value), us.length = ps.length → bindArgs (PySem.W.fnOf x qual (defArgs st) (defBody st) (defScope st) .none kV doc pm an cdv ct) ⟨us, []⟩ = pure (ps.zip us))
    (len : ∀ vs H Q E, sp vs H Q E → vs.length = ps.length)
    (hbody : ∀ (f : Addr) (cdv : Value) (A : Around) (outer : List Env) (s : Shared) (H : Hp) (vs : List V) (Q : VK) (E : XK), (A.deeper (envOfC qual (defScope st) s.heap.objs.size f cdv)).guards = some [] → Room k (A.deeper (envOfC qual (defScope st) s.heap.objs.size f cdv)) → sp vs H Q E →
      ∃ t, PSs (cxOf CX0 P w K mg base N qual (defScope st) f cdv A outer s H E).nox (defBody st) t ∧ t { nx := fun _ H' => Q .non H', rt := Q } (start N vs) H) : MethOkG P w K mg base CX0 (k + 1) C x ps sp := by
  obtain ⟨f, fd, F, hm⟩ := D
  exact ⟨f, fd, hm, F.binds bd, F.okG S len (hbody f)⟩
end
section
variable {X : Cx} {CX : CXT} {pins : List (Addr × Obj)} {σ : St} {H : Hp} {s : Shared} {C : Addr} {ps : List Str} {m x : Str} {n k : Nat} {sp : Sp} {E : XK} {p pos : Pos} {e : Expr} {es : List Expr} {t : TA} {te : TE}
theorem run_fnAtG {A : Around} {Q : VK} {g : Addr} {fd : FuncData} {us : List Value} {ws : List V} (F : FnOkG X.prog X.w X.K X.mg X.base CX n g fd ps sp) (hb : Binds X.K fd ps []) (hg : A.guards = some []) (hr : Room n A) (e0 : Env0 X.prog X.w X.K X.mg X.base A X.stack s H) (hx : Passes CX X E) (I : Inv X pins σ H s) (r : Vals ws us) (h : sp ws H Q E) :
    codeAny (model X.prog X.w) A (.call (.ref g) ⟨us, []⟩) (fun r s' => match r with | .ok (.ret v) => EP X pins σ Q v s' | .ok _ => False | .error e => X.xe e s') s := by
  have hl : us.length = ps.length := by rw [← r.length]; exact F.len _ _ _ _ h
  have b := hb s us I.kIn (by rw [List.append_nil]; exact hl)
  rw [List.append_nil] at b
  refine codeAny_mono (F.run A X.stack s H ⟨us, []⟩ us ws Q E hg hr e0 b r h) fun r s' hq => ?_
  cases r with
  | error e => exact hx pins σ H s e s' I hq
  | ok fl =>
    cases fl with
    | ret u => exact I.after hq
    | next => exact False.elim hq
    | brk => exact False.elim hq
    | cont => exact False.elim hq
theorem pe_callDG (D : DefOkG X.prog X.w X.K X.mg X.base CX k x ps sp) (hgd : X.A.guards = some []) (hr : Room k X.A) (hx : Passes CX X E) (ha : PA X (e :: es) t) (hg : Gl X x := by rfl) (hdb : (x == ("__debug__" : Str)) = false := by decide)
    (he : starEach (e :: es) X.env = (false, eval e X.env) :: starEach es X.env := by rfl) (hpl : (backTo pos (starEach es X.env)).any (·.1) = false := by rfl) :
    PE X (.Call (.Name x p) (e :: es) [] pos) (tCallD sp E t) := by
  obtain ⟨f, fd, hm, hk, hb, F⟩ := D
  refine ⟨fun pins s σ H Q I h => ?_⟩
  refine wpAny_Call_Name_kw (ld_glob I hg hm ?_ hdb)
  refine PySem.W.callWith_K (h₀ := X.base) I.ok.mod.kin hk (thn (ha.run pos pins s σ H _ I h) fun us s1 ⟨vs, H1, I1, r, q⟩ => ⟨I1.kIn, ?_⟩) he hpl
  exact wpAny_call (run_fnAtG F hb hgd hr I1.env0 hx I1 r q)
/-- str(x) of an instance with an own __str__ -/
def rStrOwn (C : Addr) (sp : Sp) (E : XK) : List V → Hp → VK → Prop := fun xs H Q => ∃ a dx fs, xs = [V.ref a] ∧ H a = some (.ins C dx fs) ∧ sp [.ref a] H (fun z H' => ∃ b, z = .str b ∧ Q z H') E
theorem call_strOwn (D : MethOkG X.prog X.w X.K X.mg X.base CX n C "__str__" ps sp) (hgd : X.A.guards = some []) (hr : Room (n + 2) X.A) (hx : Passes CX X E) : CallR X (.type "str") (rStrOwn C sp E) := by
  obtain ⟨f, fd, hm, hb, F⟩ := D
  intro pins s σ H xs us Q I r h
  obtain ⟨a, dx, fs, rfl, hsl, q⟩ := h
  obtain ⟨u, rfl, ru⟩ := r.one
  cases (show u = Value.ref a from ru)
  obtain ⟨mA, O, _⟩ := ins_get I.hok hsl
  obtain ⟨od, J, _⟩ := O.look
  have hr2 : Room n X.A.in1.in1 := (show Room (n + 1) X.A.in1 from Room.in1 hr).in1
  have hu : X.A.in1.in1.units < cLine := by have := hr2.un; omega
  refine PySem.W.kso_call hu I.kIn J hm.at_ hm.fn (wpAny_mono (wpAny_call (run_fnAtG (us := [.ref a]) (ws := [.ref a]) F hb hgd hr2 I.env0.in1.in1 hx I (.cons rfl .nil) q)) (fun w s' z => ?_) fun _ _ x => x)
  obtain ⟨z', H', I', rz, b, eb, qz⟩ := z
  subst eb
  obtain ⟨tk, rfl⟩ := (show ∃ tk, w = Value.str b tk from rz)
  exact ⟨.str b, H', I', ⟨tk, rfl⟩, qz⟩
/-- str(t), t read as data -/
def rStrD (K : PySem.W.Frag) : List V → Hp → VK → Prop := fun xs H Q => ∃ (a : Addr) (d : PyData), xs = [V.ref a] ∧ Dp K H (.ref a) d ∧ d.showable = true ∧ d.hasDict = false ∧ d.depth ≤ 32 ∧ d.shown.length ≤ sizeLine ∧ Q (.str d.shown) H
theorem call_strD (hgd : X.A.guards = some []) (hr : Room n X.A) : CallR X (.type "str") (rStrD X.K) := by
  intro pins s σ H xs us Q I r h
  obtain ⟨a, d, rfl, hd, h1, h2, h3, h4, q⟩ := h
  obtain ⟨u, rfl, ru⟩ := r.one
  cases (show u = Value.ref a from ru)
  obtain ⟨as, rd⟩ := Dp.reads I d _ _ hd rfl
  have hu := hr.units
  exact str_of_reads rd h1 (fun z => by rw [h2] at z; cases z) hgd (by omega) (fun b o e => e) (fun h' u tk hk => ⟨.str d.shown, H, I.kept hk, ⟨u, rfl⟩, q⟩) h4
/-- {t} in an f-string, t read as data -/
def tFmtD (K : PySem.W.Frag) (te : TE) : TE := fun σ H Q => te σ H fun x H1 => ∃ (a : Addr) (d : PyData), x = .ref a ∧ Dp K H1 (.ref a) d ∧ d.showable = true ∧ d.hasDict = false ∧ d.depth ≤ 32 ∧ d.shown.length ≤ sizeLine ∧ Q (.str d.shown) H1
theorem pe_fmtD (hgd : X.A.guards = some []) (hr : Room n X.A) (he : PE X e te) : PE X (.FormattedValue e (-1) none pos) (tFmtD X.K te) := by
  refine ⟨fun pins s σ H Q I h => ?_⟩
  refine wpAny_FormattedValue_plain (thn (he.run pins s σ H _ I h) fun v s1 hv => ?_)
  obtain ⟨x, H1, I1, r1, a, d, rfl, hd, h1, h2, h3, h4, q⟩ := hv
  cases r1
  obtain ⟨as, rd⟩ := Dp.reads I1 d _ _ hd rfl
  have hu := hr.units
  exact formatField_of_reads rd h1 (fun z => by rw [h2] at z; cases z) hgd (by omega) (fun b o e => e) (fun h' u tk hk => ⟨.str d.shown, H1, I1.kept hk, ⟨u, rfl⟩, q⟩) h4
end
end L2
set_option maxHeartbeats 4000000
/-! repr(x), x read as data -/
namespace L2
open PySem PySem.Spec PyProof.Rows Lf
section
variable {X : Cx} {n : Nat}
def rReprD (K : PySem.W.Frag) : List V → Hp → VK → Prop := fun xs H Q => ∃ (v : V) (d : PyData), xs = [v] ∧ Dp K H v d ∧ d.showable = true ∧ d.hasDict = false ∧ d.depth ≤ 32 ∧ d.shown.length ≤ sizeLine ∧ Q (.str d.shown) H
theorem call_reprD (hgd : X.A.guards = some []) (hr : Room n X.A) : CallR X (.builtin "repr") (rReprD X.K) := by
  intro pins s σ H xs us Q I r h
  obtain ⟨v, d, rfl, hd, h1, h2, h3, h4, q⟩ := h
  obtain ⟨u, rfl, ru⟩ := r.one
  have hu := hr.units
  cases hd with
  | non =>
    cases ru
    exact PySem.P.repr_of_none ⟨.str _, H, I.tok _, ⟨_, rfl⟩, q⟩
  | bl b =>
    cases ru
    exact PySem.P.repr_of_bool ⟨.str _, H, I.tok _, ⟨_, rfl⟩, q⟩
  | int i =>
    obtain ⟨t, rfl⟩ := ru
    exact PySem.P.repr_of_int (of_decide_eq_true h1) ⟨.str _, H, I.tok _, ⟨_, rfl⟩, q⟩
  | str x =>
    obtain ⟨t, rfl⟩ := ru
    exact PySem.P.repr_of_str ⟨.str _, H, I.tok _, ⟨_, rfl⟩, q⟩ h4
  | lst a b =>
    cases ru
    obtain ⟨as, rd⟩ := Dp.reads I _ _ _ (Dp.lst a b) rfl
    exact repr_of_reads' rd h1 (fun z => by rw [h2] at z; cases z) hgd (by omega) (fun b o e => e) (fun h' u tk hk => ⟨.str _, H, I.kept hk, ⟨u, rfl⟩, q⟩) h4
  | tup a b =>
    cases ru
    obtain ⟨as, rd⟩ := Dp.reads I _ _ _ (Dp.tup a b) rfl
    exact repr_of_reads' rd h1 (fun z => by rw [h2] at z; cases z) hgd (by omega) (fun b o e => e) (fun h' u tk hk => ⟨.str _, H, I.kept hk, ⟨u, rfl⟩, q⟩) h4
end
end L2
namespace Lf
open PySem L2 Evl
/-! data without dicts, as the layer's own reading -/
mutual
def flatD : PyData → Bool
  | .list ds => flatDs ds
  | .tuple ds => flatDs ds
  | .dict _ => false
  | _ => true
def flatDs : List PyData → Bool
  | [] => true
  | d :: ds => flatD d && flatDs ds
end
mutual
theorem Da.dp {K : PySem.W.Frag} {H : Hp} : ∀ (d : PyData) (v : V), Da H v d → flatD d = true → Dp K H v d
  | .none, _, h, _ => by cases h; exact .non
  | .bool b, _, h, _ => by cases h; exact .bl _
  | .int i, _, h, _ => by cases h; exact .int _
  | .str s, _, h, _ => by cases h; exact .str _
  | .list ds, _, h, f => by cases h with | lst e ha => exact .lst (SqL.of e) (DaAll.dp ds _ ha (by rw [flatD] at f; exact f))
  | .tuple ds, _, h, f => by cases h with | tup e ha => exact .tup (SqT.of e) (DaAll.dp ds _ ha (by rw [flatD] at f; exact f))
  | .dict _, _, _, f => by rw [flatD] at f; cases f
theorem DaAll.dp {K : PySem.W.Frag} {H : Hp} : ∀ (ds : List PyData) (vs : List V), DaAll H vs ds → flatDs ds = true → DpAll K H vs ds
  | [], _, h, _ => by cases h; exact .nil
  | d :: ds, _, h, f => by cases h with | cons h t => rw [flatDs, Bool.and_eq_true] at f; exact .cons (Da.dp d _ h f.1) (DaAll.dp ds _ t f.2)
end
section
variable {K : PySem.W.Frag} {σ : L2.St} {G : Hp} {ta tb te : TE} {d e : PyData}
/-- repr(x) -/
theorem ev_repr (h : EvD te σ G d) (f : flatD d = true) (h1 : d.showable = true) (h2 : d.hasDict = false) (h3 : d.depth ≤ 32) (h4 : d.shown.length ≤ sizeLine) : Ev (tCB (rReprD K) (tCons te tNil)) σ G (.str d.shown) := fun H1 x Q q => h G H1 (Ex.refl _) x _ fun v G2 H2 r hd =>
  ⟨v, d, rfl, Da.dp d v (hd.up r.s) f, h1, h2, h3, h4, q H2 r.h⟩
theorem ev_reprB {b : Bool} (h : Ev te σ G (.bl b)) : Ev (tCB (rReprD K) (tCons te tNil)) σ G (.str (if b then "True" else "False")) := by
  cases b with
  | true => exact ev_repr (evd_bl h) rfl rfl rfl (by decide) (by decide)
  | false => exact ev_repr (evd_bl h) rfl rfl rfl (by decide) (by decide)
/-- x == y of data without dicts -/
theorem ev_eqD (ha : EvD ta σ G d) (hb : EvD tb σ G e) (f : flatD d = true) (f2 : flatD e = true) (s1 : SeqAt.shaped d = true) (s2 : SeqAt.shaped e = true) : Ev (tOp (rEqD K) ta tb) σ G (.bl (PyData.eqv d e)) := fun H1 x Q q => ha G H1 (Ex.refl _) x _ fun v G2 H2 r hd => hb G2 H2 r.g r.s _ fun w G3 H3 r3 he =>
  ⟨d, e, Da.dp d v (hd.up (r3.g.trans r3.s)) f, Da.dp e w (he.up r3.s) f2, s1, s2, q H3 (r.h.trans r3.h)⟩
theorem ev_neD (ha : EvD ta σ G d) (hb : EvD tb σ G e) (f : flatD d = true) (f2 : flatD e = true) (s1 : SeqAt.shaped d = true) (s2 : SeqAt.shaped e = true) : Ev (tOp (rNeD K) ta tb) σ G (.bl (!PyData.eqv d e)) := fun H1 x Q q => ha G H1 (Ex.refl _) x _ fun v G2 H2 r hd => hb G2 H2 r.g r.s _ fun w G3 H3 r3 he =>
  ⟨d, e, Da.dp d v (hd.up (r3.g.trans r3.s)) f, Da.dp e w (he.up r3.s) f2, s1, s2, q H3 (r.h.trans r3.h)⟩
end
end Lf
set_option maxHeartbeats 4000000
/-! Lists of texts: equal, fit to be compared; plain -/
namespace Tr
open PySem Lf
theorem eqv_strs : ∀ (A B : List Str), PyData.eqvAll (A.map PyData.str) (B.map PyData.str) = decide (A = B)
  | [], [] => by rw [decide_eq_true rfl]; rfl
  | [], b :: B => by rw [decide_eq_false (by simp)]; rfl
  | a :: A, [] => by rw [decide_eq_false (by simp)]; rfl
  | a :: A, b :: B => by
    rw [List.map_cons, List.map_cons, PyData.eqvAll, PyData.eqv, eqv_strs A B]
    by_cases c : a = b
    · subst c
      rw [beq_self_eq_true, Bool.true_and, decide_eq_decide]
      simp
    · rw [beq_eq_false_iff_ne.mpr c, Bool.false_and, decide_eq_false (fun z => c (by cases z; rfl))]
theorem flat_strs : ∀ (A : List Str), flatDs (A.map PyData.str) = true
  | [] => rfl
  | a :: A => by rw [List.map_cons, flatDs, flat_strs A]; rfl
theorem lay_strs : ∀ (A : List Str), (∀ x ∈ A, PyData.strOk x = true) → PyData.canLayAll0 (A.map PyData.str) = true
  | [], _ => rfl
  | a :: A, h => by
    rw [List.map_cons, PyData.canLayAll0, lay_strs A fun x hx => h x (List.mem_cons_of_mem _ hx), PyData.canLay0, h a (List.mem_cons_self ..)]
    rfl
theorem deep_strs : ∀ (A : List Str), PyData.depthAll (A.map PyData.str) ≤ 1
  | [] => by simp [PyData.depthAll]
  | a :: A => by
    have := deep_strs A
    rw [List.map_cons]
    simp only [PyData.depthAll, PyData.depth]
    omega
theorem shaped_strs {A : List Str} (h : ∀ x ∈ A, PyData.strOk x = true) : SeqAt.shaped (.list (A.map PyData.str)) = true := by
  unfold SeqAt.shaped
  rw [Bool.and_eq_true]
  refine ⟨by rw [PyData.canLay0]; exact lay_strs A h, decide_eq_true ?_⟩
  have := deep_strs A
  simp only [PyData.depth]
  omega
theorem strOk_nm {x : Str} (h : isNm (.str x) = true) : PyData.strOk x = true := by
  have h : (decide (1 ≤ x.length) && decide (x.length ≤ 8) && lets x) = true := h
  rw [Bool.and_eq_true] at h
  have h2 := h.2
  unfold lets at h2
  unfold PyData.strOk
  rw [Array.all_eq_true']
  intro c hc
  rw [List.all_eq_true] at h2
  have := h2 c (by simpa using hc)
  rw [mem_letters] at this
  unfold inz at this
  simp at this
  simp
  omega
theorem ts_name {n : Nat} {x : Str} {ts : List PyData} (h : isTs (n + 1) (.tuple (.str "op" :: .str x :: ts)) = true) : isNm (.str x) = true := by
  rw [isTs_cons, if_neg (by decide), if_pos (by decide)] at h
  simp only [Bool.and_eq_true] at h
  exact h.2.1
theorem wds_ok : ∀ (n : Nat) (d : PyData), sOk (n - 1) d = true → ∀ x ∈ wds n d, PyData.strOk x = true := by
  intro n
  induction n with
  | zero => intro d _ x hx; cases hx
  | succ n ih =>
    intro d h
    rw [Nat.add_sub_cancel] at h
    have below : ∀ t, isTs n t = true → sOk (n - 1) t = true := fun t h => by
      cases n with
      | zero => cases h
      | succ n => unfold sOk; rw [Nat.add_sub_cancel, h]; rfl
    unfold sOk at h
    rcases Bool.or_eq_true_iff.mp h with h | h
    · rcases ts_cases h with (rfl | rfl) | ⟨x, ts, rfl, h3, hts⟩
      · intro y hy; cases List.mem_singleton.mp hy; decide +kernel
      · intro y hy; cases List.mem_singleton.mp hy; decide +kernel
      · intro y hy
        have hy : y ∈ x :: ("(" : Str) :: (ts.flatMap (fun t => wds n t) ++ [(")" : Str)]) := hy
        rcases List.mem_cons.mp hy with rfl | hy
        · exact strOk_nm (ts_name h)
        · rcases List.mem_cons.mp hy with rfl | hy
          · decide +kernel
          · rcases List.mem_append.mp hy with hy | hy
            · obtain ⟨t, ht, hyt⟩ := List.mem_flatMap.mp hy
              exact ih t (below t (hts t ht)) y hyt
            · cases List.mem_singleton.mp hy; decide +kernel
    · obtain ⟨x, rfl, hx⟩ := sS_cases h
      intro y hy
      have hy : y ∈ ("=" : Str) :: wds n x := hy
      rcases List.mem_cons.mp hy with rfl | hy
      · decide +kernel
      · exact ih x (below x hx) y hy
def isEq (ws : List Str) : Bool := decide (ws.head? = some "=")
/-- the shape that words tell, or None -/
def shO (ws : List Str) : PyData :=
  if 60 < ws.length then .none
  else
    let f := rdW (if isEq ws = true then ws.drop 1 else ws)
    let s := if isEq ws = true then .tuple [.str "store", f] else f
    if (isSh s && decide (wds 6 s = ws)) = true then s else .none
end Tr
set_option maxHeartbeats 4000000
namespace My
open PySem L2 Lf Evl Tr StX
abbrev s_shape_of : Stmt := top 42
theorem sc_shape_of : FnScope ["words", "is_store", "found", "shape"] ["words"] (defScope s_shape_of) := ⟨rfl, rfl, rfl, by decide +kernel, rfl, by decide +kernel, by decide +kernel⟩
abbrev s_read_shape : Stmt := top 43
theorem sc_read_shape : FnScope ["text", "found"] ["text"] (defScope s_read_shape) := ⟨rfl, rfl, rfl, by decide +kernel, rfl, by decide +kernel, by decide +kernel⟩
theorem da_strs {H : Hp} {vs : List V} {ws : List Str} (h : DaAll H vs (ws.map PyData.str)) : vs = ws.map V.str ∧ ∀ x ∈ ws, x.length ≤ 1000 := by
  induction ws generalizing vs with
  | nil => cases h; exact ⟨rfl, fun x hx => by cases hx⟩
  | cons b bs ih =>
    cases h with
    | cons h t =>
      obtain ⟨rfl, hl⟩ := h.str_
      obtain ⟨rfl, hb⟩ := ih t
      refine ⟨rfl, fun x hx => ?_⟩
      rcases List.mem_cons.mp hx with rfl | hx
      · exact hl
      · exact hb x hx
theorem sum_lens {ws : List Str} (h : ∀ x ∈ ws, x.length ≤ 1000) : (ws.map (·.length)).sum ≤ ws.length * 1000 := by
  induction ws with
  | nil => exact Nat.zero_le _
  | cons b bs ih =>
    rw [List.map_cons, List.sum_cons, List.length_cons, Nat.succ_mul]
    have := h b (List.mem_cons_self ..)
    have := ih fun x hx => h x (List.mem_cons_of_mem _ hx)
    omega
section
variable {K : PySem.W.Frag} {σ : L2.St} {G : Hp} {to te : TE} {ws : List Str} {z t : Str}
theorem ev_join (ho : Ev to σ G (.str z)) (h : EvD te σ G (.list (ws.map PyData.str))) (hl : ws.length ≤ 5000) (hz : z.length ≤ 10) :
    Ev (tM1 (fun x xs H Q => ∃ a p, ∃ ys : List Str, x = .str a ∧ xs = [.ref p] ∧ (SqL K H p (ys.map V.str) ∨ SqT K H p (ys.map V.str)) ∧ (ys.map (·.length)).sum + ys.length * a.length ≤ 16777216 ∧ Q (.str (Txt.join a ys)) H) to te) σ G (.str (Txt.join z ws)) := fun H1 x Q q => ho H1 x _ fun H2 x2 => ⟨⟨z, rfl⟩, h G H2 (Ex.refl _) (x.trans x2) _ fun v G2 H3 r hd => by
  obtain ⟨a, xs, rfl, e, hs⟩ := hd.lst_
  obtain ⟨rfl, hb⟩ := da_strs hs
  refine ⟨z, a, ws, rfl, rfl, .inl (SqL.of (r.s _ _ e)), ?_, q H3 (x2.trans r.h)⟩
  have h1 := sum_lens hb
  have h2 : ws.length * 1000 ≤ 5000 * 1000 := Nat.mul_le_mul_right _ hl
  have h3 : ws.length * z.length ≤ 5000 * 10 := Nat.mul_le_mul hl hz
  omega⟩
/-- t.split(' ') -/
theorem evd_split (ho : Ev to σ G (.str t)) (h : Ev te σ G (.str z)) (hz : (z.length == 0) = false) (ht : t.length + 2 ≤ sizeLine) (hw : ∀ x ∈ Txt.split t z, x.length ≤ 1000) :
    EvD (tM1 (fun x xs H Q => ∃ a b, x = .str a ∧ xs = [.str b] ∧ (b.length == 0) = false ∧ a.length + 2 ≤ sizeLine ∧ rNewStrs (Txt.split a b) H Q) to te) σ G (.list ((Txt.split t z).map PyData.str)) := fun G1 H1 x s Q q => ho H1 (x.trans s) _ fun H2 x2 => ⟨⟨t, rfl⟩, h H2 ((x.trans s).trans x2) _ fun H3 x3 => ⟨t, z, rfl, rfl, hz, ht, fun p hp => by
  have s3 := s.trans (x2.trans x3)
  have n := Gr.new (o := .lst ((Txt.split t z).map V.str)) s3 hp rfl
  refine q (.ref p) _ _ ((Gr.keep s (x2.trans x3)).trans n) (.lst upd_same ?_)
  have : ∀ l : List Str, (∀ x ∈ l, x.length ≤ 1000) → DaAll (upd G1 p (.lst ((Txt.split t z).map V.str))) (l.map V.str) (l.map PyData.str) := fun l => by
    induction l with
    | nil => intro _; exact .nil
    | cons b l ih => intro hl; exact .cons (.str _ (hl b (List.mem_cons_self ..))) (ih fun x hx => hl x (List.mem_cons_of_mem _ hx))
  exact this _ hw⟩⟩
theorem evd_slL {tl : TE} {tlo thi : TO} {lo hi : Option Int} {ds : List PyData} (h : EvD tl σ G (.list ds)) (h1 : EvO tlo σ G lo) (h2 : EvO thi σ G hi) : EvD (tSl (rSlL K) tl tlo thi) σ G (.list (cutD ds lo hi)) := fun G1 H1 x s Q q =>
  h G1 H1 x s _ fun v G2 H2 r hd => h1 H2 ((x.trans r.g).trans r.s) _ fun H3 x3 => h2 H3 (((x.trans r.g).trans r.s).trans x3) _ fun H4 x4 => by
    obtain ⟨a, xs, rfl, e, hs⟩ := hd.lst_
    have r4 := r.trans (Gr.keep r.s (x3.trans x4))
    refine ⟨a, xs, rfl, SqL.of (r4.s _ _ e), fun p hp => ?_⟩
    have n := Gr.new (o := .lst (cutV xs lo hi)) r4.s hp rfl
    exact q (.ref p) _ _ (r4.trans n) (.lst upd_same ((cut_da hs lo hi).up n.g))
end
theorem sh_sOk {d : PyData} (h : isSh d = true) : sOk 5 d = true := by
  cases d with
  | tuple ds =>
    unfold isSh at h
    dsimp only at h
    unfold sOk
    split at h
    · rename_i c
      rw [Bool.and_eq_true] at h
      match ds, c.1, c.2, h.1 with
      | [a, b], _, c2, h1 =>
        have : stS 5 (.tuple [a, b]) = true := by
          show (isS "store" a && isTs 5 b) = true
          rw [show isS "store" a = true from c2, isTs_succ 4 b h1]
          rfl
        rw [this, Bool.or_true]
    · rw [Bool.and_eq_true] at h
      rw [isTs_succ 5 _ h.1]
      rfl
  | _ => cases h
/-- a text for a shape, or InvalidArgument is let out -/
def spWS (CB : Addr) : Sp := fun vs H Q E => ∃ G v d, vs = [v] ∧ Ex G H ∧ Da G v d ∧ (isSh d = true → ∀ H', Ex H H' → Q (.str (Txt.join " " (wds 6 d))) H') ∧ (isSh d = false → ∀ d' H', Ex H H' → E (.ref CB) d' H')
def spSO : Sp := fun vs H Q _ => ∃ G v ws, vs = [v] ∧ Ex G H ∧ Da G v (.list (ws.map PyData.str)) ∧ ws.length ≤ 1000 ∧ (∀ x ∈ ws, PyData.strOk x = true) ∧ ∀ v' G' H', Gr G H G' H' → Da G' v' (shO ws) → Q v' H'
section
variable {P : Program} {w : World} {K : PySem.W.Frag} {mg : Str → Option Value} {base : Heap} {CA CB CP fP : Addr}
theorem ok_write_shape (T : Txt P K mg CA CB CP fP) (D : Df K mg "write_shape" s_write_shape) (D_require_shape : DefOk P w K mg base (L2.CX P w) 9 "require_shape" ["value"] (spQ CB fun _ => .none)) (D_words_of : DefOk P w K mg base CX0 7 "words_of" ["shape"] (spO (fWd 6))) :
    DefOk P w K mg base (L2.CX P w) 10 "write_shape" ["shape"] (spWS CB) := by
  refine D.okX sc_write_shape (fun _ _ _ _ _ _ us hl => match us, hl with | [_], _ => rfl) (fun vs H Q E h => ?_) (fun f cdv A outer s H vs Q E hr h => ?_)
  · obtain ⟨G, v, d, rfl, _⟩ := h
    rfl
  obtain ⟨G, v, d, rfl, s, hd, k1, k2⟩ := h
  refine ⟨_, (pss_cons (ps_expr (pe_callD D_require_shape (hr.mono (by decide)) (passes_call (takes_of rfl rfl rfl rfl) (fun _ _ _ _ h => h)) (pa_cons (pv 0) pa_nil)))
 (pss_one (ps_ret (pe_join pe_str (pe_callD D_words_of (hr.mono (by decide)) pass0 (pa_cons (pv 0) pa_nil)))))), ?_⟩
  refine ⟨_, rfl, G, v, d, rfl, s, hd, fun c v' G' H' r _ => ?_, k2⟩
  dsimp only
  have hok := sh_sOk c
  refine Ev.ret r.s (ev_join (K := K) ev_c (evd_callO (e := .list ((wds 6 d).map PyData.str)) (evd_var rfl (hd.up r.g)) ?_) ?_ (by decide)) (fun H2 x2 => k1 c H2 (r.h.trans x2))
  · unfold fWd
    rw [if_pos ⟨by decide, hok⟩]
  · exact Nat.le_trans (wds_len 6 d hok) (by decide)
theorem ok_shape_of (T : Txt P K mg CA CB CP fP) (D : Df K mg "shape_of" s_shape_of) (D_read_words : DefOk P w K mg base CX0 1 "read_words" ["words"] spRd) (D_is_shape : DefOk P w K mg base CX0 8 "is_shape" ["value"] (spB isSh)) (D_words_of : DefOk P w K mg base CX0 7 "words_of" ["shape"] (spO (fWd 6))) :
    DefOk P w K mg base CX0 9 "shape_of" ["words"] spSO := by
  refine D.ok sc_shape_of (fun _ _ _ _ _ _ us hl => match us, hl with | [_], _ => rfl) (fun vs H Q E h => ?_) (fun f cdv A outer s H vs Q E hr h => ?_)
  · obtain ⟨G, v, ws, rfl, _⟩ := h
    rfl
  obtain ⟨G, v, ws, rfl, s, hd, hl, hso, k⟩ := h
  refine ⟨_, (pss_cons (ps_set (i := 1) sc_shape_of.nd rfl (Or.inl rfl) (pe_and (pe_cmpR op_gt (pe_callB call_len_seq (by rfl) T.n_len (by decide +kernel) (pa_cons (pv 0) pa_nil)) pe_int (nomark _)) (pe_one (pe_cmpR (op_eqS hr.units0) (pe_ix ix_list (pv 0) pe_int (fun _ _ => rfl)) pe_str (nomark _)))))
 (pss_cons (ps_if (pt_cmpR op_gt (pe_callB call_len_seq (by rfl) T.n_len (by decide +kernel) (pa_cons (pv 0) pa_nil)) (pe_gInt (by rfl) T.g_MAX_WORDS) (nomark _))
 (pss_one (ps_ret pe_non))
 pss_nil)
 (pss_cons (ps_set (i := 2) sc_shape_of.nd rfl (Or.inl rfl) (pe_callD D_read_words (hr.mono (by decide)) pass0 (pa_cons (pe_ifExp (pt_val (pv 1)) (pe_slice sl_list (pv 0) (po_some pe_int) po_none) (pv 0)) pa_nil)))
 (pss_cons (ps_set (i := 3) sc_shape_of.nd rfl (Or.inl rfl) (pe_ifExp (pt_val (pv 1)) (pe_tup (pa_cons (pe_gStr (by rfl) T.g_STORE) (pa_cons (pv 2) pa_nil))) (pv 2)))
 (pss_one (ps_ret (pe_ifExp (PW.pt (pw_and (pt_val (pe_callD D_is_shape (hr.mono (by decide)) pass0 (pa_cons (pv 3) pa_nil))) (pw_and1 (pt_cmpR (op_eqD hr.units) (pe_callD D_words_of (hr.mono (by decide)) pass0 (pa_cons (pv 3) pa_nil)) (pv 0) (nomark _))))) (pv 3) pe_non))))))), ?_⟩
  have len : Ev _ _ G (.int ((ws.map PyData.str).length : Int)) := ev_lenL (K := K) (te := tVar 0) (σ := start ["words", "is_store", "found", "shape"] [v]) (evd_var rfl hd)
  have e0 : isEq ws = (decide ((0 : Int) < ((ws.map PyData.str).length : Int)) && isEq ws) := by
    cases ws with
    | nil => rfl
    | cons a l => rw [decide_eq_true (by simp)]; rfl
  refine q_asgD (d := .bool (isEq ws)) s (EvD.is (evd_bl (ev_andV (ev_op len ev_c rv_I0) fun hb => ?_)) (by rw [← e0])) (fun v1 G1 H1 r1 hd1 => ?_)
  · cases ws with
    | nil => cases hb
    | cons a l =>
      have : isEq (a :: l) = isS "=" (.str a) := by unfold isEq; rw [isS_str, decide_eq_decide]; simp
      rw [this]
      exact ev_eqS (evd_ixL (evd_var rfl hd) ev_c (atI_nat (j := 0) rfl)) ev_c
  cases hd1.bl_
  have hdG := hd.up r1.g
  refine q_ifD r1.s (et_test (ev_op (ev_lenL (evd_var rfl hdG)) ev_c rv_I0)) (fun hb H2 x2 => ?_) (fun hb H2 x2 => ?_)
  · have h60 : 60 < ws.length := by have := of_decide_eq_true hb; rw [List.length_map] at this; omega
    have e1 : shO ws = .none := by unfold shO; rw [if_pos h60]
    rw [e1] at k
    exact k .non G1 H2 (r1.trans (Gr.keep r1.s x2)) .non
  have h60 : ¬ 60 < ws.length := by have := of_decide_eq_false hb; rw [List.length_map] at this; omega
  have e1 : shO ws = (let f := rdW (if isEq ws = true then ws.drop 1 else ws); let s := if isEq ws = true then PyData.tuple [.str "store", f] else f; if (isSh s && decide (wds 6 s = ws)) = true then s else .none) := by unfold shO; rw [if_neg h60]
  rw [e1] at k
  dsimp only [tNext]
  have s2 := r1.s.trans x2
  have r2 := r1.trans (Gr.keep r1.s x2)
  have evB : ∀ {G : Hp} {u3 u4 : Option V}, EvT (tB (tVar 1)) [some v, some (.bl (isEq ws)), u3, u4] G (isEq ws) := et_B (ev_var rfl)
  generalize hst : isEq ws = st at *
  -- found
  have hfound : EvD (tIf (tB (tVar 1)) (tSl (rSlL K) (tVar 0) (tPart (tC (.int 1))) tNoPart) (tVar 0)) [some v, some (.bl st), none, none] G1 (.list ((if st = true then ws.drop 1 else ws).map PyData.str)) :=
    evd_if (b := st) evB (fun c => EvD.is (evd_slL (K := K) (evd_var rfl hdG) (EvO.some_ (n := 1) ev_c) EvO.none_) (by rw [show (1 : Int) = ((1 : Nat) : Int) from rfl, cutD_from, if_pos c, List.map_drop])) (fun c => EvD.is (evd_var rfl hdG) (by rw [c]; rfl))
  refine hfound G1 H2 (Ex.refl _) s2 _ fun vq G3 H3 r3 hd3 => ?_
  refine ⟨G3, vq, _, rfl, r3.s, hd3, ?_, fun v5 G5 H5 r5 hd5 => ?_⟩
  · split
    · rw [List.length_drop]; omega
    · exact hl
  generalize hf : rdW (if st = true then ws.drop 1 else ws) = fd at *
  have r25 := (r2.trans r3).trans r5
  refine q_asgD (d := if st = true then PyData.tuple [.str "store", fd] else fd) r5.s (evd_if (b := st) evB (fun c => EvD.is (evd_tup (evd_cons (evd_str ev_c (by decide)) (evd_cons (evd_var rfl hd5) evd_nil)) (by simp)) (by rw [if_pos c])) (fun c => EvD.is (evd_var rfl hd5) (by rw [c]; rfl))) (fun v6 G6 H6 r6 hd6 => ?_)
  dsimp only at k
  generalize hsd : (if st = true then PyData.tuple [.str "store", fd] else fd) = sd at *
  have r26 := r25.trans r6
  have hdw := hd.up r26.g
  refine s_retD r6.s (evd_if (b := isSh sd && decide (wds 6 sd = ws)) (et_and (et_B (ev_callB (evd_var rfl hd6))) fun c => et_test (ev_is (ev_eqD (K := K) (d := .list ((wds 6 sd).map PyData.str)) (e := .list (ws.map PyData.str)) (evd_callO (evd_var rfl hd6) ?_) (evd_var rfl hdw) ?_ ?_ ?_ ?_) ?_)) (fun c => EvD.is (evd_var rfl hd6) (by rw [if_pos c])) (fun c => EvD.is (evd_non ev_c) (by rw [c]; rfl))) (fun v7 G7 H7 r7 hd7 => k v7 G7 H7 (r26.trans r7) hd7)
  · unfold fWd
    rw [if_pos ⟨by decide, sh_sOk c⟩]
  · rw [flatD]; exact flat_strs _
  · rw [flatD]; exact flat_strs _
  · exact shaped_strs (wds_ok 6 sd (sh_sOk c))
  · exact shaped_strs hso
  · rw [PyData.eqv, eqv_strs]
end
end My
set_option maxHeartbeats 4000000
namespace My
open PySem L2 Lf Evl Tr StX
abbrev s_law_urn : Stmt := top 45
theorem sc_law_urn : FnScope ["_law_script", "_law_at", "_law_cell", "_law_great", "_law_left"] ["_law_script", "_law_at"] (defScope s_law_urn) := ⟨rfl, rfl, rfl, by decide +kernel, rfl, by decide +kernel, by decide +kernel⟩
abbrev s_law_pull : Stmt := top 46
theorem sc_law_pull : FnScope ["_law_urn_here", "_law_total", "_law_found", "_law_one_here", "_law_two"] ["_law_urn_here", "_law_total"] (defScope s_law_pull) := ⟨rfl, rfl, rfl, by decide +kernel, rfl, by decide +kernel, by decide +kernel⟩
abbrev s_law_one : Stmt := top 47
theorem sc_law_one : FnScope ["_law_urn_here", "_law_items"] ["_law_urn_here", "_law_items"] (defScope s_law_one) := ⟨rfl, rfl, rfl, by decide +kernel, rfl, by decide +kernel, by decide +kernel⟩
abbrev s_law_tree : Stmt := top 48
theorem sc_law_tree : FnScope ["_law_urn_here", "_law_level", "_law_sets", "_law_way"] ["_law_urn_here", "_law_level", "_law_sets"] (defScope s_law_tree) := ⟨rfl, rfl, rfl, by decide +kernel, rfl, by decide +kernel, by decide +kernel⟩
/-- the three ints of an urn -/
def Lm (xs : List V) : Prop := ∃ a b c : Int, xs = [.int a, .int b, .int c]
def spUrn (K : PySem.W.Frag) : Sp := fun vs H Q _ => ∃ (a : Addr) (ns : List Int) (i : Nat), vs = [.ref a, .int (i : Int)] ∧ i ≤ 100 ∧ SqL K H a (ns.map V.int) ∧ ∀ p xs, H p = none → Lm xs → Q (.ref p) (upd H p (.lst xs))
def preT (ds : List PyData) : Prop := ∃ m : Int, ds = [.int m] ∧ 0 < m ∧ m < 1073741824
def postT (ds : List PyData) (d : PyData) : Prop := ∃ m r : Int, ds = [.int m] ∧ d = .int r ∧ 0 ≤ r ∧ r < m
def preP (ds : List PyData) : Prop := ∃ xs : List PyData, ds = [.list xs] ∧ 0 < xs.length ∧ xs.length ≤ 1000
def postP (ds : List PyData) (d : PyData) : Prop := ∃ xs : List PyData, ds = [.list xs] ∧ d ∈ xs
section
variable {K : PySem.W.Frag} {L : Addr} {σ : L2.St} {G : Hp} {ta tb te : TE} {tA : TA} {d : PyData} {ds : List PyData} {R : List PyData → Prop}
theorem dr_turn {i : Nat} {E : XK} {m : Int} (hL : σ[i]? = some (some (.ref L))) (h : Ev te σ G (.int m)) (h0 : 0 < m) (h1 : m < 1073741824) : Dr Lm L (tCallD (spDr Lm preT postT) E (tCons (tVar i) (tCons te tNil))) σ G (isI fun r => 0 ≤ r ∧ r < m) :=
  (dr_call hL (drs_of (evd_cons (evd_int h) evd_nil)) (fun ds e => ⟨m, e, h0, h1⟩)).imp fun d ⟨ds, e, m', r, e2, e3, e4, e5⟩ => by
    rw [e] at e2
    cases e2
    exact ⟨r, e3, e4, e5⟩
theorem dr_pick {i : Nat} {E : XK} (hL : σ[i]? = some (some (.ref L))) (h : EvD te σ G (.list ds)) (h0 : 0 < ds.length) (h1 : ds.length ≤ 1000) : Dr Lm L (tCallD (spDr Lm preP postP) E (tCons (tVar i) (tCons te tNil))) σ G (fun d => d ∈ ds) :=
  (dr_call hL (drs_of (evd_cons h evd_nil)) (fun ds' e => ⟨ds, e, h0, h1⟩)).imp fun d ⟨ds', e, xs, e2, e3⟩ => by
    rw [e] at e2
    cases e2
    exact e3
theorem dr_tupleOf (h : Dr Lm L te σ G (fun d => ∃ ds, d = .list ds ∧ R ds)) : Dr Lm L (tCB (fun xs H Q => ∃ p ys, xs = [V.ref p] ∧ ((SqL K H p ys ∧ ∀ l, H l = none → Q (.ref l) (upd H l (.tup ys))) ∨ (SqT K H p ys ∧ Q (.ref p) H))) (tCons te tNil)) σ G (fun d => ∃ ds, d = .tuple ds ∧ R ds) := fun G1 H1 x w Q q => h G1 H1 x w _ fun v d G2 H2 r ⟨ds, e, hR⟩ hd => by
  subst e
  obtain ⟨a, xs, rfl, e, hs⟩ := hd.lst_
  refine ⟨a, xs, rfl, .inl ⟨SqL.of (r.s _ _ e), fun l hl => ?_⟩⟩
  have n := Gr.new (o := .tup xs) r.s hl rfl
  exact q (.ref l) _ _ _ (r.gr n) ⟨ds, rfl, hR⟩ (.tup upd_same (hs.up n.g))
theorem evd_listOf (h : EvD te σ G (.tuple ds)) : EvD (tCB (fun xs H Q => ∃ p ys, xs = [V.ref p] ∧ (SqL K H p ys ∨ SqT K H p ys) ∧ ∀ l, H l = none → Q (.ref l) (upd H l (.lst ys))) (tCons te tNil)) σ G (.list ds) := fun G1 H1 x s Q q => h G1 H1 x s _ fun v G2 H2 r hd => by
  obtain ⟨a, xs, rfl, e, hs⟩ := hd.tup_
  refine ⟨a, xs, rfl, .inr (SqT.of (r.s _ _ e)), fun l hl => ?_⟩
  have n := Gr.new (o := .lst xs) r.s hl rfl
  exact q (.ref l) _ _ (r.trans n) (.lst upd_same (hs.up n.g))
theorem evd_listOfL (h : EvD te σ G (.list ds)) : EvD (tCB (fun xs H Q => ∃ p ys, xs = [V.ref p] ∧ (SqL K H p ys ∨ SqT K H p ys) ∧ ∀ l, H l = none → Q (.ref l) (upd H l (.lst ys))) (tCons te tNil)) σ G (.list ds) := fun G1 H1 x s Q q => h G1 H1 x s _ fun v G2 H2 r hd => by
  obtain ⟨a, xs, rfl, e, hs⟩ := hd.lst_
  refine ⟨a, xs, rfl, .inl (SqL.of (r.s _ _ e)), fun l hl => ?_⟩
  have n := Gr.new (o := .lst xs) r.s hl rfl
  exact q (.ref l) _ _ (r.trans n) (.lst upd_same (hs.up n.g))
end
theorem log_lt {i : Int} {n : Nat} (h0 : 0 ≤ i) (h : i < 2 ^ n) (hn : 0 < n) : i.natAbs.log2 < n := PySem.Flt.log2_lt_of hn (by
  have : ((i.natAbs : Nat) : Int) < ((2 ^ n : Nat) : Int) := by
    rw [Int.natAbs_of_nonneg h0]
    push_cast
    exact h
  exact_mod_cast this)
def rsO : PyData → PyData
  | .str t => shO (Txt.split t " ")
  | _ => .none
/-- a text whose words can be compared -/
def okR : PyData → Prop
  | .str t => (Txt.split t " ").length ≤ 1000 ∧ ∀ x ∈ Txt.split t " ", PyData.strOk x = true ∧ x.length ≤ 1000
  | _ => True
def spRS (CP : Addr) : Sp := fun vs H Q E => ∃ G v d, vs = [v] ∧ Ex G H ∧ Da G v d ∧ okR d ∧ (rsO d ≠ .none → ∀ v' G' H', Gr G H G' H' → Da G' v' (rsO d) → Q v' H') ∧ (rsO d = .none → ∀ x H', Ex H H' → H' x = none → E (.ref CP) (some x) (upd H' x (.xd [("line", .non)])))
section
variable {P : Program} {w : World} {K : PySem.W.Frag} {mg : Str → Option Value} {base : Heap} {CA CB CP fP : Addr}
theorem ok_read_shape (T : Txt P K mg CA CB CP fP) (D : Df K mg "read_shape" s_read_shape) (D_shape_of : DefOk P w K mg base CX0 9 "shape_of" ["words"] spSO) : DefOk P w K mg base (L2.CX P w) 11 "read_shape" ["text"] (spRS CP) := by
  refine D.okX sc_read_shape (fun _ _ _ _ _ _ us hl => match us, hl with | [_], _ => rfl) (fun vs H Q E h => ?_) (fun f cdv A outer s H vs Q E hr h => ?_)
  · obtain ⟨G, v, d, rfl, _⟩ := h
    rfl
  obtain ⟨G, v, d, rfl, s, hd, hok, k1, k2⟩ := h
  refine ⟨_, (pss_cons (ps_set (i := 1) sc_read_shape.nd rfl (Or.inl rfl) (pe_ifExp (pt_val (pe_callB call_isi (by rfl) T.n_isinstance (by decide +kernel) (pa_cons (pv 0) (pa_cons (pe_bltn (v := .ty "str") (by rfl) T.n_str (by decide +kernel) rfl) pa_nil)))) (pe_callD D_shape_of (hr.mono (by decide)) pass0 (pa_cons (pe_split (pv 0) pe_str) pa_nil)) pe_non))
 (pss_cons (ps_if (pt_cmpR op_isN (pv 1) pe_non (nomark _))
 (pss_one (ps_raise rfl (takes_of rfl rfl rfl rfl) (pmk_x T.par PySem.F.excBase_ValueError PySem.W.kxs_ValueError hr (pa_cons pe_non pa_nil))))
 pss_nil)
 (pss_one (ps_ret (pv 1))))), ?_⟩
  have fin : ∀ v1 G1 H1, Gr G H G1 H1 → Da G1 v1 (rsO d) → tSeq (tIfS (tTest (tOp (fun x y H Q => y = V.non ∧ Q (.bl (decide (x = .non))) H) (tVar 1) (tC .non))) (fun _ σ H => tMkX CP "line" (tCons (tC .non) tNil) σ H fun cls d H' => E cls d H') tNext) (tRet (tVar 1)) { nx := fun x H' => Q V.non H', rt := Q } [some v, some v1] H1 := fun v1 G1 H1 r1 hd1 => by
    refine ⟨_, rfl, rfl, _, rfl, ?_⟩
    by_cases c : rsO d = .none
    · rw [c] at hd1
      cases hd1.non_
      refine if_so rfl ⟨_, rfl, fun x hx => k2 c x H1 r1.h hx⟩
    · have : ¬ v1 = .non := fun z => by
        subst z
        cases e : rsO d with
        | none => exact c e
        | _ => rw [e] at hd1; cases hd1
      exact if_no (decide_eq_false this) ⟨_, rfl, k1 c v1 G1 H1 r1 hd1⟩
  by_cases c : kd d = "str"
  · obtain ⟨x, rfl⟩ := kd_str c
    obtain ⟨rfl, hxl⟩ := hd.str_
    refine (et_B (ev_isStr (evd_var rfl hd))) H s _ fun H1 x1 => ?_
    refine if_so rfl ?_
    refine evd_split (ev_var rfl) ev_c (by decide) (Nat.le_trans (Nat.add_le_add_right hxl 2) (by decide)) (fun y hy => (hok.2 y hy).2) G H1 (Ex.refl _) (s.trans x1) _ fun v2 G2 H2 r2 hd2 => ?_
    exact ⟨G2, v2, _, rfl, r2.s, hd2, hok.1, fun y hy => (hok.2 y hy).1, fun v3 G3 H3 r3 hd3 => fin v3 G3 H3 ((Gr.keep s x1).trans (r2.trans r3)) hd3⟩
  · have e : rsO d = .none := by cases d <;> (first | rfl | exact absurd rfl c)
    refine (et_is (et_B (ev_isStr (evd_var rfl hd))) (beq_eq_false_iff_ne.mpr c)) H s _ fun H1 x1 => ?_
    refine if_no rfl ?_
    exact fin .non G H1 (Gr.keep s x1) (by rw [e]; exact .non)
theorem ok_law_pull (T : Txt P K mg CA CB CP fP) (D : Df K mg "_law_pull" s_law_pull) : DefOk P w K mg base CX0 1 "_law_pull" ["_law_urn_here", "_law_total"] (spDr Lm preT postT) := by
  refine D.ok sc_law_pull (fun _ _ _ _ _ _ us hl => match us, hl with | [_, _], _ => rfl) (fun vs H Q E h => spDr_len (n := 1) (fun ds ⟨m, e, _⟩ => by rw [e]; rfl) h) (fun f cdv A outer s H vs Q E hr h => ?_)
  obtain ⟨d, G, us, ds, rfl, w, hds, ⟨m, rfl, m0, m1⟩, q⟩ := h
  cases hds with
  | cons h0 t =>
  cases t
  cases h0.int_
  obtain ⟨_, hd, a, b, c, rfl⟩ := w.l
  refine ⟨_, (pss_cons (ps_if (pt_cmpR op_gt (pe_ix ix_list (pv 0) pe_int (fun _ _ => rfl)) pe_int (nomark _))
 (pss_cons (ps_set (i := 2) sc_law_pull.nd rfl (Or.inl rfl) (pe_op op_mod (pe_callTy call_int1 (by rfl) T.n_int (by decide +kernel) (pa_cons (pe_ix ix_list (pv 0) pe_int (fun _ _ => rfl)) pa_nil)) (pv 1)))
 (pss_cons (ps_asg (pe_op op_fdiv (pe_ix ix_list (pv 0) pe_int (fun _ _ => rfl)) (pv 1)) (pg_sub (pv 0) pe_int set_list))
 (pss_one (ps_ret (pv 2)))))
 pss_nil)
 (pss_cons (ps_asg (pe_op op_add (pe_ix ix_list (pv 0) pe_int (fun _ _ => rfl)) pe_int) (pg_sub (pv 0) pe_int set_list))
 (pss_cons (ps_set (i := 3) sc_law_pull.nd rfl (Or.inl rfl) (pe_op op_mod (pe_callTy call_int1 (by rfl) T.n_int (by decide +kernel) (pa_cons (pe_op op_add (pe_ix ix_list (pv 0) pe_int (fun _ _ => rfl)) (pe_op op_mul pe_int (pe_ix ix_list (pv 0) pe_int (fun _ _ => rfl)))) pa_nil)) pe_int))
 (pss_cons (ps_set (i := 4) sc_law_pull.nd rfl (Or.inl rfl) (pe_op op_mod (pe_callTy call_int1 (by rfl) T.n_int (by decide +kernel) (pa_cons (pe_op op_add (pe_op op_mul (pv 3) (pv 3)) (pe_op op_mul pe_int (pe_ix ix_list (pv 0) pe_int (fun _ _ => rfl)))) pa_nil)) pe_int))
 (pss_one (ps_ret (pe_op op_mod (pe_callTy call_int1 (by rfl) T.n_int (by decide +kernel) (pa_cons (pe_op op_fdiv (pe_callTy call_int1 (by rfl) T.n_int (by decide +kernel) (pa_cons (pe_op op_add (pe_op op_mul (pv 4) pe_int) (pv 3)) pa_nil)) pe_int) pa_nil)) (pv 1)))))))), ?_⟩
  refine ⟨_, rfl, _, _, _, _, rfl, rfl, SqL.of hd, rfl, _, _, rfl, rfl, _, rfl, ?_⟩
  have fin : ∀ {xs : List V} {r : Int}, Lm xs → 0 ≤ r → r < m → Q (.int r) (upd H d (.lst xs)) := fun hx r0 r1 => q _ _ G _ (GrB.turn w hx) ⟨m, _, rfl, rfl, r0, r1⟩ (.int _)
  cases ha : decide (0 < a) with
  | true =>
    refine if_so rfl ?_
    refine ⟨_, rfl, _, _, _, _, rfl, rfl, SqL.of hd, rfl, .inl ⟨_, rfl, _, rfl, _, _, rfl, rfl, m0, ?_⟩⟩
    refine ⟨_, rfl, _, _, _, _, rfl, rfl, SqL.of hd, rfl, _, rfl, _, _, rfl, rfl, ⟨m0, m1⟩, _, rfl, _, _, _, _, rfl, rfl, hd, rfl, ?_⟩
    exact ⟨_, rfl, fin ⟨_, _, _, rfl⟩ (Int.emod_nonneg _ (by omega)) (Int.emod_lt_of_pos _ m0)⟩
  | false =>
    refine if_no rfl ?_
    refine ⟨_, rfl, _, _, _, _, rfl, rfl, SqL.of hd, rfl, _, _, rfl, rfl, _, rfl, _, _, _, _, rfl, rfl, hd, rfl, ?_⟩
    have hd2 : upd H d (.lst ([V.int a, V.int b, V.int c].set 2 (V.int (c + 1)))) d = some (.lst [.int a, .int b, .int (c + 1)]) := upd_same
    refine ⟨_, rfl, _, _, _, _, rfl, rfl, SqL.of hd2, rfl, _, rfl, _, _, _, _, rfl, rfl, SqL.of hd2, rfl, _, _, rfl, rfl, .inl ⟨by decide, by decide⟩, _, _, rfl, rfl, .inl ⟨_, rfl, _, _, rfl, rfl, show (0 : Int) < 2305843009213693951 by decide, ?_⟩⟩
    have e1 := Int.emod_nonneg (b + 6101 * (c + 1)) (show (2305843009213693951 : Int) ≠ 0 by decide)
    have e2 := Int.emod_lt_of_pos (b + 6101 * (c + 1)) (show (0 : Int) < 2305843009213693951 by decide)
    refine ⟨_, rfl, _, rfl, _, _, rfl, rfl, .inl ⟨by omega, by omega⟩, _, rfl, _, _, _, _, rfl, rfl, SqL.of hd2, rfl, _, _, rfl, rfl, .inl ⟨by decide, by decide⟩, _, _, rfl, rfl, .inl ⟨_, rfl, _, _, rfl, rfl, show (0 : Int) < 2305843009213693921 by decide, ?_⟩⟩
    refine ⟨_, rfl, _, _, rfl, rfl, .inr ⟨by decide, by decide⟩, _, rfl, _, _, rfl, rfl, .inl ⟨_, rfl, _, _, rfl, rfl, ⟨by decide, by decide⟩, .inl ⟨_, rfl, _, rfl, _, _, rfl, rfl, m0, ?_⟩⟩⟩
    exact fin ⟨_, _, _, rfl⟩ (Int.emod_nonneg _ (by omega)) (Int.emod_lt_of_pos _ m0)
theorem ok_law_one (T : Txt P K mg CA CB CP fP) (D : Df K mg "_law_one" s_law_one) (D_law_pull : DefOk P w K mg base CX0 1 "_law_pull" ["_law_urn_here", "_law_total"] (spDr Lm preT postT)) : DefOk P w K mg base CX0 2 "_law_one" ["_law_urn_here", "_law_items"] (spDr Lm preP postP) := by
  refine D.ok sc_law_one (fun _ _ _ _ _ _ us hl => match us, hl with | [_, _], _ => rfl) (fun vs H Q E h => spDr_len (n := 1) (fun ds ⟨m, e, _⟩ => by rw [e]; rfl) h) (fun f cdv A outer s H vs Q E hr h => ?_)
  obtain ⟨L, G, us, ds, rfl, w, hds, ⟨xs, rfl, h0, h1⟩, q⟩ := h
  cases hds with
  | cons hv t =>
  cases t
  refine ⟨_, (pss_one (ps_ret (pe_ix ix_list (pv 1) (pe_callD D_law_pull (hr.mono (by decide)) pass0 (pa_cons (pv 0) (pa_cons (pe_callB call_len_seq (by rfl) T.n_len (by decide +kernel) (pa_cons (pv 1) pa_nil)) pa_nil))) (fun _ _ => rfl)))), ?_⟩
  exact s_retR w (dr_ixL (dr_of (evd_var rfl hv)) (dr_turn rfl (ev_lenL (evd_var rfl hv)) (by omega) (by omega)) (fun i h => h)) (fun v d G1 H1 r p hd => q v d G1 H1 r ⟨xs, rfl, p⟩ hd)
end
end My
set_option maxHeartbeats 4000000
namespace My
open PySem L2 Lf Evl Tr StX
theorem cpow (i j : Nat) (h : (j : Int) ≤ 1000000) (hi : i < 2 ^ 64) : CPow (i : Int) (j : Int) := ⟨by omega, h, by rw [Int.natAbs_natCast]; exact hi⟩
theorem mulW {i j : Int} (hi : i.natAbs.log2 < 5000) (hj : j.natAbs.log2 < 5000) : CMulW i j := by unfold CMulW; omega
theorem log_small {i : Int} (h0 : 0 ≤ i) (h : i < 4294967296) : i.natAbs.log2 < 5000 := by
  by_cases z : i.natAbs = 0
  · rw [z]; decide
  · have h2 : i.natAbs < 2 ^ 5000 := Nat.lt_of_lt_of_le (show i.natAbs < 2 ^ 32 by rw [show (2:Nat) ^ 32 = 4294967296 from rfl]; omega) (Nat.pow_le_pow_right (by decide) (by decide))
    exact (Nat.log2_lt z).mpr h2
def dP : PyData := .list [.str "p"]
def preTr (n : Nat) (ds : List PyData) : Prop := ∃ m : Int, ds = [.int m, dP] ∧ 1 ≤ m ∧ m ≤ n
def postTr (n : Nat) (ds : List PyData) (d : PyData) : Prop := isTr n d = true
theorem tr_op {n : Nat} {x : Str} {ts : List PyData} (hx : isNm (.str x) = true) (h3 : ts.length ≤ 3) (h : ∀ t ∈ ts, isTr n t = true) : isTr (n + 1) (.tuple (.str "op" :: .str x :: ts)) = true := by
  rw [isTr_core, hx, core_op, decide_eq_true h3, Bool.true_and, Bool.true_and, List.all_eq_true]
  exact h
theorem tr_at {n : Nat} {x : Str} {i : Int} (hx : isNm (.str x) = true) (h0 : 0 ≤ i) (h1 : i ≤ 3) : isTr (n + 1) (.tuple [.str "at", .str x, .int i]) = true := by
  rw [isTr_core, hx, core_at]
  have : within 0 3 (.int i) = true := by
    show ((decide (-lim < i) && decide (i < lim)) && (decide (0 ≤ i) && decide (i ≤ 3))) = true
    have : lim = 1000000000000000000000000000000 := rfl
    rw [decide_eq_true h0, decide_eq_true h1, decide_eq_true (by rw [this]; omega), decide_eq_true (by rw [this]; omega)]
    rfl
  show (true && (true && within 0 3 (.int i))) = true
  rw [this]
  rfl
theorem tr_load {n : Nat} {x : Str} {i j : Int} (hx : isNm (.str x) = true) (h0 : -100 ≤ i ∧ i ≤ 100) (h1 : -100 ≤ j ∧ j ≤ 100) : isTr (n + 1) (.tuple [.str "load", .str x, .int i, .int j]) = true := by
  have : lim = 1000000000000000000000000000000 := rfl
  have e : ∀ k : Int, -100 ≤ k ∧ k ≤ 100 → isIn (.int k) = true := fun k hk => by
    show (decide (-lim < k) && decide (k < lim)) = true
    rw [decide_eq_true (by rw [this]; omega), decide_eq_true (by rw [this]; omega)]
    rfl
  rw [isTr_core, hx, core_load]
  show (true && (true && (isIn (.int i) && isIn (.int j)))) = true
  rw [e i h0, e j h1]
  rfl
section
variable {P : Program} {w : World} {K : PySem.W.Frag} {mg : Str → Option Value} {base : Heap} {CA CB CP fP : Addr}
theorem ok_law_urn (T : Txt P K mg CA CB CP fP) (D : Df K mg "_law_urn" s_law_urn) : DefOk P w K mg base CX0 1 "_law_urn" ["_law_script", "_law_at"] (spUrn K) := by
  refine D.ok sc_law_urn (fun _ _ _ _ _ _ us hl => match us, hl with | [_, _], _ => rfl) (fun vs H Q E h => ?_) (fun f cdv A outer s H vs Q E hr h => ?_)
  · obtain ⟨_, _, _, rfl, _⟩ := h
    rfl
  obtain ⟨a, ns, i, rfl, hi, hs, q⟩ := h
  refine ⟨_, (pss_cons (ps_set (i := 2) sc_law_urn.nd rfl (Or.inl rfl) (pe_ifExp (pt_cmpR op_lt (pv 1) (pe_callB call_len_seq (by rfl) T.n_len (by decide +kernel) (pa_cons (pv 0) pa_nil)) (nomark _)) (pe_callTy call_int1 (by rfl) T.n_int (by decide +kernel) (pa_cons (pe_ix ix_list (pv 0) (pv 1) (fun _ _ => rfl)) pa_nil)) (pe_op op_add (pe_op op_mulW pe_int (pv 1)) pe_int)))
 (pss_cons (ps_set (i := 3) sc_law_urn.nd rfl (Or.inl rfl) (pe_op op_mod (pe_callB call_abs (by rfl) T.n_abs (by decide +kernel) (pa_cons (pv 2) pa_nil)) (pe_op op_pow pe_int pe_int)))
 (pss_cons (ps_set (i := 4) sc_law_urn.nd rfl (Or.inl rfl) (pe_callB (call_max2 rfl) (by rfl) T.n_max (by decide +kernel) (pa_cons pe_int (pa_cons (pe_op op_sub (pe_callB call_abs (by rfl) T.n_abs (by decide +kernel) (pa_cons (pv 2) pa_nil)) (pe_op op_pow pe_int pe_int)) pa_nil))))
 (pss_one (ps_ret (pe_lst (pa_cons (pe_op op_mod (pv 4) (pe_op op_mulW (pe_op op_pow pe_int pe_int) (pe_op op_pow pe_int pe_int))) (pa_cons (pe_op op_add (pe_op op_add (pe_op op_add (pe_op op_mulW (pe_op op_mod (pv 3) pe_int) pe_int) (pe_op op_mulW pe_int (pv 1))) (pe_op op_mulW pe_int (pe_callTy call_int1 (by rfl) T.n_int (by decide +kernel) (pa_cons (pe_cmpR op_lt (pv 2) pe_int (nomark _)) pa_nil)))) pe_int) (pa_cons pe_int pa_nil))))))))), ?_⟩
  have hil : ((i : Int)).natAbs.log2 < 5000 := log_small (by omega) (by omega)
  have cell : ∃ c : Int, ∀ Q' : VK, Q' (.int c) H → (tIf (tTest (tOp (rI0 fun i j => .bl (decide (i < j))) (tVar 1) (tCB (fun xs H Q => ∃ p ys, xs = [V.ref p] ∧ (SqL K H p ys ∨ SqT K H p ys) ∧ Q (.int ys.length) H) (tCons (tVar 0) tNil)))) (tCB (fun xs H Q => (∃ i, xs = [V.int i] ∧ Q (.int i) H) ∨ ∃ k, xs = [V.bl k] ∧ Q (.int (if k then 1 else 0)) H) (tCons (tOp (rIxL K) (tVar 0) (tVar 1)) tNil)) (tOp (rI0 fun i j => .int (i + j)) (tOp (rI CMulW fun i j => .int (i * j)) (tC (.int 61)) (tVar 1)) (tC (.int 5)))) (start ["_law_script", "_law_at", "_law_cell", "_law_great", "_law_left"] [.ref a, .int (i : Int)]) H Q' := by
    by_cases c : i < ns.length
    · refine ⟨ns[i], fun Q' q' => ?_⟩
      refine ⟨_, rfl, _, rfl, _, _, rfl, .inl hs, _, _, rfl, rfl, _, rfl, if_so (decide_eq_true (by rw [List.length_map]; omega)) ?_⟩
      refine ⟨_, rfl, _, rfl, _, _, _, _, rfl, rfl, hs, ?_, .inl ⟨_, rfl, q'⟩⟩
      exact atI_nat (by rw [List.getElem?_map, List.getElem?_eq_getElem c]; rfl)
    · refine ⟨61 * (i : Int) + 5, fun Q' q' => ?_⟩
      refine ⟨_, rfl, _, rfl, _, _, rfl, .inl hs, _, _, rfl, rfl, _, rfl, if_no (decide_eq_false (by rw [List.length_map]; omega)) ?_⟩
      exact ⟨_, rfl, _, _, rfl, rfl, mulW (by decide) hil, _, _, rfl, rfl, q'⟩
  obtain ⟨c, hc⟩ := cell
  refine hc _ ?_
  have p59 : CPow 10 59 := cpow 10 59 (by decide) (by decide)
  have p17 : CPow 10 17 := cpow 10 17 (by decide) (by decide)
  have p60 : CPow 10 60 := cpow 10 60 (by decide) (by decide)
  have q60 : ((10 : Int) ^ Int.toNat 60).natAbs.log2 < 5000 := by decide +kernel
  have z59 : 0 < (10 : Int) ^ Int.toNat 59 := by decide +kernel
  have z60 : 0 < (10 : Int) ^ Int.toNat 60 * (10 : Int) ^ Int.toNat 60 := by decide +kernel
  refine ⟨_, rfl, _, rfl, _, _, rfl, rfl, p59, _, _, rfl, rfl, z59, ?_⟩
  refine ⟨_, rfl, _, rfl, _, _, rfl, rfl, p17, _, _, rfl, rfl, _, _, rfl, ?_⟩
  refine ⟨_, rfl, _, _, rfl, rfl, p60, _, _, rfl, rfl, p60, _, _, rfl, rfl, mulW q60 q60, _, _, rfl, rfl, z60, ?_⟩
  have g : ∀ x : Int, (x % 2147483629).natAbs.log2 < 5000 := fun x => log_small (Int.emod_nonneg _ (by decide)) (Int.lt_trans (Int.emod_lt_of_pos _ (by decide)) (by decide))
  refine ⟨_, rfl, _, _, rfl, rfl, show (0 : Int) < 2147483629 by decide, _, _, rfl, rfl, mulW (g _) (by decide), _, rfl, _, _, rfl, rfl, mulW (by decide) hil, _, _, rfl, rfl, _, rfl, _, _, rfl, rfl, .inr ⟨_, rfl, _, _, rfl, rfl, mulW (by decide) ?_, _, _, rfl, rfl, _, _, rfl, rfl, ?_⟩⟩
  · split <;> decide
  · exact ⟨show 3 ≤ sizeLine by decide, fun p hp => q p _ hp ⟨_, _, _, rfl⟩⟩
theorem ok_law_tr0 (D : Df K mg "_law_tree" s_law_tree) : DefOk P w K mg base CX0 2 "_law_tree" ["_law_urn_here", "_law_level", "_law_sets"] (spDr Lm (preTr 0) (postTr 0)) := by
  refine D.ok sc_law_tree (fun _ _ _ _ _ _ us hl => match us, hl with | [_, _, _], _ => rfl) (fun vs H Q E h => spDr_len (n := 2) (fun ds ⟨m, e, _⟩ => by rw [e]; rfl) h) (fun f cdv A outer s H vs Q E hr h => ?_)
  obtain ⟨L, G, us, ds, rfl, w, hds, ⟨m, rfl, m0, m1⟩, q⟩ := h
  exact absurd m0 (by omega)
theorem ok_law_trS (T : Txt P K mg CA CB CP fP) (D : Df K mg "_law_tree" s_law_tree) {n l : Nat} (hl3 : 2 ≤ l) (D_law_tree : DefOk P w K mg base CX0 l "_law_tree" ["_law_urn_here", "_law_level", "_law_sets"] (spDr Lm (preTr n) (postTr n))) (D_law_pull : DefOk P w K mg base CX0 1 "_law_pull" ["_law_urn_here", "_law_total"] (spDr Lm preT postT)) (D_law_one : DefOk P w K mg base CX0 2 "_law_one" ["_law_urn_here", "_law_items"] (spDr Lm preP postP)) :
    DefOk P w K mg base CX0 (l + 1) "_law_tree" ["_law_urn_here", "_law_level", "_law_sets"] (spDr Lm (preTr (n + 1)) (postTr (n + 1))) := by
  refine D.ok sc_law_tree (fun _ _ _ _ _ _ us hl => match us, hl with | [_, _, _], _ => rfl) (fun vs H Q E h => spDr_len (n := 2) (fun ds ⟨m, e, _⟩ => by rw [e]; rfl) h) (fun f cdv A outer s H vs Q E hr h => ?_)
  obtain ⟨L, G, us, ds, rfl, w, hds, ⟨m, rfl, m0, m1⟩, q⟩ := h
  cases hds with
  | cons hm t =>
  cases t with
  | @cons vse _ _ _ hse t =>
  cases t
  cases hm.int_
  have hse : Da G vse (.list [.str "p"]) := hse
  refine ⟨_, (pss_cons (ps_set (i := 3) sc_law_tree.nd rfl (Or.inl rfl) (pe_ifExp (pt_cmpR op_gt (pv 1) pe_int (nomark _)) (pe_callD D_law_pull (hr.mono (by omega)) pass0 (pa_cons (pv 0) (pa_cons pe_int pa_nil))) (pe_op op_add pe_int (pe_callD D_law_pull (hr.mono (by omega)) pass0 (pa_cons (pv 0) (pa_cons pe_int pa_nil))))))
 (pss_cons (ps_if (pt_cmpR op_eq (pv 3) pe_int (nomark _))
 (pss_one (ps_ret (pe_tup (pa_cons pe_str (pa_cons pe_str (pa_cons (pe_callD D_law_tree (hr.mono (by omega)) pass0 (pa_cons (pv 0) (pa_cons (pe_op op_sub (pv 1) pe_int) (pa_cons (pv 2) pa_nil)))) pa_nil))))))
 pss_nil)
 (pss_cons (ps_if (pt_cmpR op_eq (pv 3) pe_int (nomark _))
 (pss_one (ps_ret (pe_tup (pa_cons pe_str (pa_cons pe_str pa_nil)))))
 pss_nil)
 (pss_cons (ps_if (pt_cmpR op_lt (pv 3) pe_int (nomark _))
 (pss_one (ps_ret (pe_tup (pa_cons pe_str (pa_cons (pe_callD D_law_one (hr.mono (by omega)) pass0 (pa_cons (pv 0) (pa_cons (pe_lst (pa_cons pe_str (pa_cons pe_str pa_nil))) pa_nil))) (pa_cons (pe_callD D_law_tree (hr.mono (by omega)) pass0 (pa_cons (pv 0) (pa_cons (pe_op op_sub (pv 1) pe_int) (pa_cons (pv 2) pa_nil)))) (pa_cons (pe_callD D_law_tree (hr.mono (by omega)) pass0 (pa_cons (pv 0) (pa_cons (pe_op op_sub (pv 1) pe_int) (pa_cons (pv 2) pa_nil)))) pa_nil)))))))
 pss_nil)
 (pss_cons (ps_if (PW.pt (pw_and (pt_cmpR op_eq (pv 3) pe_int (nomark _)) (pw_and1 (pt_cmpR (op_neEL hr.units0) (pv 2) (pe_lst pa_nil) (nomark _)))))
 (pss_one (ps_ret (pe_tup (pa_cons pe_str (pa_cons (pe_callD D_law_one (hr.mono (by omega)) pass0 (pa_cons (pv 0) (pa_cons (pv 2) pa_nil))) (pa_cons (pe_op op_add pe_int (pe_callD D_law_pull (hr.mono (by omega)) pass0 (pa_cons (pv 0) (pa_cons pe_int pa_nil)))) pa_nil))))))
 pss_nil)
 (pss_one (ps_ret (pe_tup (pa_cons pe_str (pa_cons (pe_callD D_law_one (hr.mono (by omega)) pass0 (pa_cons (pv 0) (pa_cons (pe_lst (pa_cons pe_str (pa_cons pe_str pa_nil))) pa_nil))) (pa_cons (pe_op op_sub (pe_callD D_law_pull (hr.mono (by omega)) pass0 (pa_cons (pv 0) (pa_cons pe_int pa_nil))) pe_int) (pa_cons (pe_op op_sub (pe_callD D_law_pull (hr.mono (by omega)) pass0 (pa_cons (pv 0) (pa_cons pe_int pa_nil))) pe_int) pa_nil)))))))))))), ?_⟩
  refine q_asgR w (dr_if (P := isI fun z => 0 ≤ z ∧ z < 7 ∧ (¬ 1 < m → 5 ≤ z)) (drt_of (et_test (ev_op (ev_var rfl) ev_c rv_I0))) (fun c => (dr_turn rfl ev_c (by decide) (by decide)).imp fun d ⟨z, e, z0, z1⟩ => ⟨z, e, z0, z1, fun h => absurd (of_decide_eq_true c.symm) h⟩) (fun c => (dr_opI (dr_int ev_c) (dr_turn rfl ev_c (by decide) (by decide))).imp fun d ⟨z, e, i, j, hi, ⟨h0, h1⟩, hz⟩ => ⟨z, e, by omega, by omega, fun _ => by omega⟩)) (fun v3 d3 G1 H1 r1 ⟨way, e3, w0, w1, w2⟩ hd3 => ?_)
  subst e3
  cases hd3.int_
  have hse1 := hse.up r1.g
  have sub : ∀ {G2 : Hp} {v5 : Option V}, Ex G1 G2 → ¬ 5 ≤ way → Dr Lm L (tCallD (spDr Lm (preTr n) (postTr n)) E0 (tCons (tVar 0) (tCons (tOp (rI0 fun i j => .int (i - j)) (tVar 1) (tC (.int 1))) (tCons (tVar 2) tNil)))) [some (.ref L), some (.int m), some vse, some (.int way)] G2 (fun d => isTr n d = true) := fun x h5 =>
    (dr_call (Post := postTr n) (Pre := preTr n) rfl (drs_of (evd_cons (evd_int (ev_op (ev_var rfl) ev_c rv_I0)) (evd_cons (evd_var rfl (hse1.up x)) evd_nil))) (fun ds e => ⟨m - 1, e, by
      by_cases h : 1 < m
      · omega
      · exact absurd (w2 h) h5, by omega⟩)).imp fun d ⟨_, _, p⟩ => p
  have fin : ∀ {G2 H2 : Hp} {te : TE} {R : List PyData → Prop}, GrB Lm L G H G2 H2 → Dr Lm L te [some (.ref L), some (.int m), some vse, some (.int way)] G2 (fun d => ∃ ds, d = .tuple ds ∧ R ds) → (∀ ds, R ds → isTr (n + 1) (.tuple ds) = true) → tRet te { nx := fun x H' => Q V.non H', rt := Q } [some (.ref L), some (.int m), some vse, some (.int way)] H2 := fun r h hR => s_retR r.w h fun v d G3 H3 r3 p hd => q v d G3 H3 (r.trans r3) (by obtain ⟨ds, rfl, hr⟩ := p; exact hR ds hr) hd
  refine q_ifR r1.w (drt_of (et_test (ev_eqI (ev_var rfl) ev_c))) (fun c G2 H2 r2 => ?_) (fun c G2 H2 r2 => ?_)
  · have hw : way = 0 := of_decide_eq_true c.symm
    refine fin (r1.trans r2) (dr_tup (drs_cons (dr_of (evd_str ev_c (by decide))) (drs_cons (dr_of (evd_str ev_c (by decide))) (drs_cons (sub (v5 := none) r2.g (by omega)) drs_nil))) ?_) ?_
    · rintro ds ⟨_, _, rfl, _, _, _, rfl, _, _, _, rfl, _, rfl⟩
      simp
    · rintro ds ⟨_, _, rfl, rfl, _, _, rfl, rfl, t, _, rfl, ht, rfl⟩
      exact tr_op (by decide +kernel) (by simp) (fun t' h => by cases List.mem_singleton.mp h; exact ht)
  refine q_ifR r2.w (drt_of (et_test (ev_eqI (ev_var rfl) ev_c))) (fun c G3 H3 r3 => ?_) (fun c G3 H3 r3 => ?_)
  · refine fin ((r1.trans r2).trans r3) (dr_tup (drs_cons (dr_of (evd_str ev_c (by decide))) (drs_cons (dr_of (evd_str ev_c (by decide))) drs_nil)) ?_) ?_
    · rintro ds ⟨_, _, rfl, _, _, _, rfl, _, rfl⟩
      simp
    · rintro ds ⟨_, _, rfl, rfl, _, _, rfl, rfl, rfl⟩
      exact tr_op (by decide +kernel) (by simp) (fun t' h => by cases h)
  have r13 := (r1.trans r2).trans r3
  have g13 := r2.g.trans r3.g
  refine q_ifR r3.w (drt_of (et_test (ev_op (ev_var rfl) ev_c rv_I0))) (fun c G4 H4 r4 => ?_) (fun c G4 H4 r4 => ?_)
  · have hw : way < 5 := of_decide_eq_true c.symm
    refine fin (r13.trans r4) (dr_tup (drs_cons (dr_of (evd_str ev_c (by decide))) (drs_cons ((dr_pick rfl (evd_lst (evd_cons (evd_str ev_c (by decide)) (evd_cons (evd_str ev_c (by decide)) evd_nil)) (by simp)) (by simp) (by simp)).imp (P' := fun d => ∃ x, d = .str x ∧ isNm (.str x) = true) (fun d hd => ?_)) (drs_cons (sub (v5 := none) (g13.trans r4.g) (by omega)) (drs_cons (sub (v5 := none) (g13.trans r4.g) (by omega)) drs_nil)))) ?_) ?_
    · simp only [List.mem_cons, List.not_mem_nil, or_false] at hd
      rcases hd with rfl | rfl <;> exact ⟨_, rfl, by decide +kernel⟩
    · rintro ds ⟨_, _, rfl, _, _, _, rfl, _, _, _, rfl, _, _, _, rfl, _, rfl⟩
      simp
    · rintro ds ⟨_, _, rfl, rfl, _, _, rfl, ⟨x, rfl, hx⟩, t, _, rfl, ht, t2, _, rfl, ht2, rfl⟩
      exact tr_op hx (by simp) (fun t' h => by
        simp only [List.mem_cons, List.not_mem_nil, or_false] at h
        rcases h with rfl | rfl
        · exact ht
        · exact ht2)
  have r14 := r13.trans r4
  have g14 := g13.trans r4.g
  refine q_ifR r4.w (drt_of (et_and (et_test (ev_eqI (ev_var rfl) ev_c)) fun _ => et_test (ev_neEL (evd_var rfl (hse1.up g14))))) (fun c G5 H5 r5 => ?_) (fun c G5 H5 r5 => ?_)
  · refine fin (r14.trans r5) (dr_tup (drs_cons (dr_of (evd_str ev_c (by decide))) (drs_cons ((dr_pick rfl (evd_var rfl (hse1.up (g14.trans r5.g))) (by simp) (by simp)).imp (P' := fun d => d = .str "p") (fun d hd => List.mem_singleton.mp hd)) (drs_cons (dr_opI (dr_int ev_c) (dr_turn rfl ev_c (by decide) (by decide))) drs_nil))) ?_) ?_
    · rintro ds ⟨_, _, rfl, _, _, _, rfl, _, _, _, rfl, _, rfl⟩
      simp
    · rintro ds ⟨_, _, rfl, rfl, _, _, rfl, rfl, _, _, rfl, ⟨z, rfl, i, j, hi, ⟨h0, h1⟩, hz⟩, rfl⟩
      exact tr_at (by decide +kernel) (by omega) (by omega)
  · refine fin (r14.trans r5) (dr_tup (drs_cons (dr_of (evd_str ev_c (by decide))) (drs_cons ((dr_pick rfl (evd_lst (evd_cons (evd_str ev_c (by decide)) (evd_cons (evd_str ev_c (by decide)) evd_nil)) (by simp)) (by simp) (by simp)).imp (P' := fun d => ∃ x, d = .str x ∧ isNm (.str x) = true) (fun d hd => ?_)) (drs_cons (dr_opI (dr_turn rfl ev_c (by decide) (by decide)) (dr_int ev_c)) (drs_cons (dr_opI (dr_turn rfl ev_c (by decide) (by decide)) (dr_int ev_c)) drs_nil)))) ?_) ?_
    · simp only [List.mem_cons, List.not_mem_nil, or_false] at hd
      rcases hd with rfl | rfl <;> exact ⟨_, rfl, by decide +kernel⟩
    · rintro ds ⟨_, _, rfl, _, _, _, rfl, _, _, _, rfl, _, _, _, rfl, _, rfl⟩
      simp
    · rintro ds ⟨_, _, rfl, rfl, _, _, rfl, ⟨x, rfl, hx⟩, _, _, rfl, ⟨z, rfl, i, j, ⟨h0, h1⟩, hj, hz⟩, _, _, rfl, ⟨z2, rfl, i2, j2, ⟨h02, h12⟩, hj2, hz2⟩, rfl⟩
      exact tr_load hx (by omega) (by omega)
end
end My
set_option maxHeartbeats 4000000
namespace My
open PySem L2 Lf Evl Tr StX
abbrev s_law_menu : Stmt := top 49
theorem sc_law_menu : FnScope ["_law_hole", "_law_load", "_law_found"] [] (defScope s_law_menu) := ⟨rfl, rfl, rfl, by decide +kernel, rfl, by decide +kernel, by decide +kernel⟩
abbrev s_law_below : Stmt := top 50
theorem sc_law_below : FnScope ["_law_tree_here"] ["_law_tree_here"] (defScope s_law_below) := ⟨rfl, rfl, rfl, by decide +kernel, rfl, by decide +kernel, by decide +kernel⟩
abbrev s_law_holes : Stmt := top 51
theorem sc_law_holes : FnScope ["_law_shape", "_law_tree_here", "_law_text_here", "_law_found", "_law_inner", "_law_at", "_law_one_here", "_law_told_here"] ["_law_shape", "_law_tree_here", "_law_text_here"] (defScope s_law_holes) := ⟨rfl, rfl, rfl, by decide +kernel, rfl, by decide +kernel, by decide +kernel⟩
abbrev s_law_paths : Stmt := top 53
theorem sc_law_paths : FnScope ["_law_shape", "_law_word", "_law_inner", "_law_found", "_law_at", "_law_one_here", "_law_path"] ["_law_shape", "_law_word"] (defScope s_law_paths) := ⟨rfl, rfl, rfl, by decide +kernel, rfl, by decide +kernel, by decide +kernel⟩
abbrev s_law_text : Stmt := top 54
theorem sc_law_text : FnScope ["_law_shape", "_law_one_here"] ["_law_shape"] (defScope s_law_text) := ⟨rfl, rfl, rfl, by decide +kernel, rfl, by decide +kernel, by decide +kernel⟩
theorem q_unpD {K : PySem.W.Frag} {σ : L2.St} {G H : Hp} {te : TE} {d1 d2 : PyData} {tz : TS} {D : Ends} {i j : Nat} (s : Ex G H) (h : EvD te σ G (.tuple [d1, d2])) (k : ∀ v1 v2 G1 H1, Gr G H G1 H1 → Da G1 v1 d1 → Da G1 v2 d2 → tz D ((σ.set i (some v1)).set j (some v2)) H1) :
    tSeq (tAsg te (gTup K 2 (gCons (gName i) (gCons (gName j) gNil)))) tz D σ H := h.go s fun v G1 H1 r hd => by
  obtain ⟨a, xs, rfl, e, hs⟩ := hd.tup_
  match xs, hs with
  | [v1, v2], .cons h1 (.cons h2 .nil) => exact ⟨a, [v1, v2], rfl, SqT.of (r.s _ _ e), rfl, v1, [v2], rfl, v2, [], rfl, rfl, k v1 v2 G1 H1 r h1 h2⟩
section
variable {P : Program} {w : World} {K : PySem.W.Frag} {mg : Str → Option Value} {base : Heap} {CA CB CP fP : Addr}
def sHo : PyData := .tuple [.str "hole"]
def sLo : PyData := .tuple [.str "load"]
abbrev mu1 : List PyData := [.tuple [.str "op", .str "add", sHo, sHo], .tuple [.str "op", .str "mul", sHo, sHo], sLo, .tuple [.str "store", sHo], .tuple [.str "op", .str "neg", sHo]]
abbrev mu2 : List PyData := [.tuple [.str "op", .str "one"], .tuple [.str "op", .str "add", .tuple [.str "op", .str "mul", sHo, sHo], sHo], .tuple [.str "op", .str "mul", sLo, sHo]]
abbrev mu3 : List PyData := [.tuple [.str "op", .str "add", sHo, sLo], .tuple [.str "store", .tuple [.str "op", .str "add", sHo, sHo]], .tuple [.str "store", sLo]]
abbrev mu4 : List PyData := [.tuple [.str "op", .str "neg", .tuple [.str "op", .str "neg", sHo]], .tuple [.str "op", .str "add", sLo, sLo], .tuple [.str "store", .tuple [.str "op", .str "neg", sHo]]]
abbrev mu5 : List PyData := [.tuple [.str "op", .str "mul", .tuple [.str "op", .str "one"], sHo], .tuple [.str "op", .str "add", sHo, .tuple [.str "op", .str "add", sHo, sHo]]]
abbrev mu6 : List PyData := [.tuple [.str "op", .str "neg", sLo], .tuple [.str "op", .str "add", sHo, sHo]]
def menu : List PyData := ((((mu1 ++ mu2) ++ mu3) ++ mu4) ++ mu5) ++ mu6
def spMenu : Sp := spF fun ds => match ds with | [] => some (.list menu) | _ => none
theorem ok_law_menu (T : Txt P K mg CA CB CP fP) (D : Df K mg "_law_menu" s_law_menu) : DefOk P w K mg base CX0 1 "_law_menu" [] spMenu := by
  refine D.ok sc_law_menu (fun _ _ _ _ _ _ us hl => match us, hl with | [], _ => rfl) (fun vs H Q E h => ?_) (fun f cdv A outer s H vs Q E hr h => ?_)
  · refine spF_len (fun ds d e => ?_) h
    split at e
    · rfl
    · cases e
  obtain ⟨G, ds, d, s, h2, h3, k⟩ := h
  dsimp only at h3
  split at h3
  · cases h3
    cases h2
    refine ⟨_, (pss_cons (ps_asg (pe_tup (pa_cons (pe_tup (pa_cons pe_str pa_nil)) (pa_cons (pe_tup (pa_cons pe_str pa_nil)) pa_nil))) (pg_tup (by rfl) (pgs_cons (pg_name (i := 0) sc_law_menu.nd rfl (Or.inl rfl)) (pgs_cons (pg_name (i := 1) sc_law_menu.nd rfl (Or.inl rfl)) pgs_nil))))
 (pss_cons (ps_set (i := 2) sc_law_menu.nd rfl (Or.inl rfl) (pe_lst (pa_cons (pe_tup (pa_cons pe_str (pa_cons pe_str (pa_cons (pv 0) (pa_cons (pv 0) pa_nil))))) (pa_cons (pe_tup (pa_cons pe_str (pa_cons pe_str (pa_cons (pv 0) (pa_cons (pv 0) pa_nil))))) (pa_cons (pv 1) (pa_cons (pe_tup (pa_cons pe_str (pa_cons (pv 0) pa_nil))) (pa_cons (pe_tup (pa_cons pe_str (pa_cons pe_str (pa_cons (pv 0) pa_nil)))) pa_nil)))))))
 (pss_cons (ps_set (i := 2) sc_law_menu.nd rfl (Or.inl rfl) (pe_op op_cat (pv 2) (pe_lst (pa_cons (pe_tup (pa_cons pe_str (pa_cons pe_str pa_nil))) (pa_cons (pe_tup (pa_cons pe_str (pa_cons pe_str (pa_cons (pe_tup (pa_cons pe_str (pa_cons pe_str (pa_cons (pv 0) (pa_cons (pv 0) pa_nil))))) (pa_cons (pv 0) pa_nil))))) (pa_cons (pe_tup (pa_cons pe_str (pa_cons pe_str (pa_cons (pv 1) (pa_cons (pv 0) pa_nil))))) pa_nil))))))
 (pss_cons (ps_set (i := 2) sc_law_menu.nd rfl (Or.inl rfl) (pe_op op_cat (pv 2) (pe_lst (pa_cons (pe_tup (pa_cons pe_str (pa_cons pe_str (pa_cons (pv 0) (pa_cons (pv 1) pa_nil))))) (pa_cons (pe_tup (pa_cons pe_str (pa_cons (pe_tup (pa_cons pe_str (pa_cons pe_str (pa_cons (pv 0) (pa_cons (pv 0) pa_nil))))) pa_nil))) (pa_cons (pe_tup (pa_cons pe_str (pa_cons (pv 1) pa_nil))) pa_nil))))))
 (pss_cons (ps_set (i := 2) sc_law_menu.nd rfl (Or.inl rfl) (pe_op op_cat (pv 2) (pe_lst (pa_cons (pe_tup (pa_cons pe_str (pa_cons pe_str (pa_cons (pe_tup (pa_cons pe_str (pa_cons pe_str (pa_cons (pv 0) pa_nil)))) pa_nil)))) (pa_cons (pe_tup (pa_cons pe_str (pa_cons pe_str (pa_cons (pv 1) (pa_cons (pv 1) pa_nil))))) (pa_cons (pe_tup (pa_cons pe_str (pa_cons (pe_tup (pa_cons pe_str (pa_cons pe_str (pa_cons (pv 0) pa_nil)))) pa_nil))) pa_nil))))))
 (pss_cons (ps_set (i := 2) sc_law_menu.nd rfl (Or.inl rfl) (pe_op op_cat (pv 2) (pe_lst (pa_cons (pe_tup (pa_cons pe_str (pa_cons pe_str (pa_cons (pe_tup (pa_cons pe_str (pa_cons pe_str pa_nil))) (pa_cons (pv 0) pa_nil))))) (pa_cons (pe_tup (pa_cons pe_str (pa_cons pe_str (pa_cons (pv 0) (pa_cons (pe_tup (pa_cons pe_str (pa_cons pe_str (pa_cons (pv 0) (pa_cons (pv 0) pa_nil))))) pa_nil))))) pa_nil)))))
 (pss_one (ps_ret (pe_op op_cat (pv 2) (pe_lst (pa_cons (pe_tup (pa_cons pe_str (pa_cons pe_str (pa_cons (pv 1) pa_nil)))) (pa_cons (pe_tup (pa_cons pe_str (pa_cons pe_str (pa_cons (pv 0) (pa_cons (pv 0) pa_nil))))) pa_nil)))))))))))), ?_⟩
    refine q_unpD s (d1 := sHo) (d2 := sLo) (evd_tup (evd_cons (evd_tup (ds := [.str "hole"]) (evd_cons (evd_str ev_c (by decide)) evd_nil) (by simp)) (evd_cons (evd_tup (ds := [.str "load"]) (evd_cons (evd_str ev_c (by decide)) evd_nil) (by simp)) evd_nil)) (by simp)) (fun v1 v2 G1 H1 r1 h1 h2 => ?_)
    refine q_asgD r1.s (d := .list mu1) (by repeat (first | exact evd_nil | exact evd_var rfl h1 | exact evd_var rfl h2 | exact evd_str ev_c (by decide) | refine evd_cons ?_ ?_ | refine evd_tup ?_ (by simp) | refine evd_lst ?_ (by simp))) fun v3 G2 H2 r2 hd3 => ?_
    have r12 := r1.trans r2
    have h1 := h1.up r2.g
    have h2 := h2.up r2.g
    refine q_asgD r12.s (d := .list (mu1 ++ mu2)) (evd_catL (evd_var rfl hd3) (by repeat (first | exact evd_nil | exact evd_var rfl h1 | exact evd_var rfl h2 | exact evd_str ev_c (by decide) | refine evd_cons ?_ ?_ | refine evd_tup ?_ (by simp) | refine evd_lst ?_ (by simp))) (by simp)) fun v4 G3 H3 r3 hd4 => ?_
    have r13 := r12.trans r3
    have h1 := h1.up r3.g
    have h2 := h2.up r3.g
    refine q_asgD r13.s (d := .list ((mu1 ++ mu2) ++ mu3)) (evd_catL (evd_var rfl hd4) (by repeat (first | exact evd_nil | exact evd_var rfl h1 | exact evd_var rfl h2 | exact evd_str ev_c (by decide) | refine evd_cons ?_ ?_ | refine evd_tup ?_ (by simp) | refine evd_lst ?_ (by simp))) (by simp)) fun v5 G4 H4 r4 hd5 => ?_
    have r14 := r13.trans r4
    have h1 := h1.up r4.g
    have h2 := h2.up r4.g
    refine q_asgD r14.s (d := .list (((mu1 ++ mu2) ++ mu3) ++ mu4)) (evd_catL (evd_var rfl hd5) (by repeat (first | exact evd_nil | exact evd_var rfl h1 | exact evd_var rfl h2 | exact evd_str ev_c (by decide) | refine evd_cons ?_ ?_ | refine evd_tup ?_ (by simp) | refine evd_lst ?_ (by simp))) (by simp)) fun v6 G5 H5 r5 hd6 => ?_
    have r15 := r14.trans r5
    have h1 := h1.up r5.g
    have h2 := h2.up r5.g
    refine q_asgD r15.s (d := .list ((((mu1 ++ mu2) ++ mu3) ++ mu4) ++ mu5)) (evd_catL (evd_var rfl hd6) (by repeat (first | exact evd_nil | exact evd_var rfl h1 | exact evd_var rfl h2 | exact evd_str ev_c (by decide) | refine evd_cons ?_ ?_ | refine evd_tup ?_ (by simp) | refine evd_lst ?_ (by simp))) (by simp)) fun v7 G6 H6 r6 hd7 => ?_
    have r16 := r15.trans r6
    have h1 := h1.up r6.g
    have h2 := h2.up r6.g
    exact s_retD r16.s (d := .list menu) (evd_catL (evd_var rfl hd7) (by repeat (first | exact evd_nil | exact evd_var rfl h1 | exact evd_var rfl h2 | exact evd_str ev_c (by decide) | refine evd_cons ?_ ?_ | refine evd_tup ?_ (by simp) | refine evd_lst ?_ (by simp))) (by simp)) fun v8 G7 H7 r7 hd8 => k v8 G7 H7 (r16.trans r7) hd8
  · cases h3
def belT : List PyData → List PyData
  | w :: r => if isS "store" w = true then [r.getD 4 .none] else if isS "op" w = true then r.drop 1 else []
  | [] => []
def fLB : PyData → Option PyData
  | .tuple (w :: r) => if isS "store" w = true ∧ r.length ≠ 5 then none else some (.list (belT (w :: r)))
  | _ => none
theorem ok_law_below (T : Txt P K mg CA CB CP fP) (D : Df K mg "_law_below" s_law_below) : DefOk P w K mg base CX0 1 "_law_below" ["_law_tree_here"] (spO fLB) := by
  refine D.ok sc_law_below (fun _ _ _ _ _ _ us hl => match us, hl with | [_], _ => rfl) (fun vs H Q E h => spO_len h) (fun f cdv A outer s H vs Q E hr h => ?_)
  obtain ⟨G, v, d, e, rfl, s, hd, he, k⟩ := spO_of h
  refine ⟨_, (pss_cons (ps_if (pt_cmpR (op_eqS hr.units0) (pe_ix ix_tup (pv 0) pe_int (fun _ _ => rfl)) pe_str (nomark _))
 (pss_one (ps_ret (pe_lst (pa_cons (pe_ix ix_tup (pv 0) pe_int (fun _ _ => rfl)) pa_nil))))
 pss_nil)
 (pss_one (ps_ret (pe_ifExp (pt_cmpR (op_eqS hr.units0) (pe_ix ix_tup (pv 0) pe_int (fun _ _ => rfl)) pe_str (nomark _)) (pe_callTy call_list_of (by rfl) T.n_list (by decide +kernel) (pa_cons (pe_slice sl_tupA (pv 0) (po_some pe_int) po_none) pa_nil)) (pe_lst pa_nil))))), ?_⟩
  unfold fLB at he
  split at he
  · rename_i w r
    split at he
    · cases he
    rename_i hc
    cases he
    have i0 : EvD (tOp (rIxT K) (tVar 0) (tC (.int 0))) (start ["_law_tree_here"] [v]) G w := evd_ixT (evd_var rfl hd) ev_c (atI_nat (j := 0) rfl)
    refine q_ifD s (et_test (ev_eqS i0 ev_c)) (fun c H1 x1 => ?_) (fun c H1 x1 => ?_)
    · have hr5 : r.length = 5 := by
        by_cases z : r.length = 5
        · exact z
        · exact absurd ⟨c, z⟩ hc
      match r, hr5 with
      | [a, b, c', d', x], _ =>
      refine s_retD (s.trans x1) (EvD.is (evd_lst (evd_cons (evd_ixT (evd_var rfl hd) ev_c (atI_nat (j := 5) rfl)) evd_nil) (by simp)) ?_) (fun v' G' H' r => k v' G' H' ((Gr.keep s x1).trans r))
      rw [belT, if_pos c]
      rfl
    · refine s_retD (s.trans x1) (evd_if (b := isS "op" w) (et_test (ev_eqS i0 ev_c)) (fun c2 => EvD.is (evd_listOf (ds := r.drop 1) (EvD.is (evd_sl (evd_var rfl hd) (EvO.some_ ev_c) EvO.none_) ?_)) ?_) (fun c2 => EvD.is (evd_lst evd_nil (by decide)) ?_)) (fun v' G' H' r => k v' G' H' ((Gr.keep s x1).trans r))
      · rw [show (2 : Int) = ((2 : Nat) : Int) from rfl, cutD_from]
        rfl
      · rw [belT, c, if_neg Bool.false_ne_true, if_pos c2]
      · rw [belT, c, if_neg Bool.false_ne_true, c2, if_neg Bool.false_ne_true]
  · cases he
end
end My
set_option maxHeartbeats 4000000
namespace My
open PySem L2 Lf Evl Tr StX
section
variable {P : Program} {w : World} {K : PySem.W.Frag} {mg : Str → Option Value} {base : Heap} {CA CB CP fP : Addr}
/-- a tuple with a number ahead -/
def preI (i : Nat) : PyData → PyData
  | .tuple p => .tuple (.int (i : Nat) :: p)
  | d => d
def lpa : Nat → PyData → Str → List PyData
  | n + 1, .tuple ds, w => (if isS w (ds.getD 0 .none) = true then [.tuple []] else []) ++ (List.range (bel ds).length).flatMap fun j => (lpa n ((bel ds).getD j .none) w).map (preI j)
  | _, _, _ => []
def lpaTo (n : Nat) (bs : List PyData) (w : Str) (i : Nat) : List PyData := (List.range i).flatMap fun j => (lpa n (bs.getD j .none) w).map (preI j)
theorem bel_ts {n : Nat} {w0 : PyData} {r : List PyData} (h : sOk n (.tuple (w0 :: r)) = true) : ∀ t ∈ bel (w0 :: r), isTs n t = true := by
  unfold sOk at h
  rcases Bool.or_eq_true_iff.mp h with h | h
  · rcases ts_cases h with (e | e) | ⟨x, ts, e, h3, hts⟩
    · cases e; intro t ht; cases ht
    · cases e; intro t ht; cases ht
    · cases e; exact hts
  · obtain ⟨x, e, hx⟩ := sS_cases h
    cases e
    intro t ht
    cases List.mem_singleton.mp ht
    exact hx
theorem store_one {n : Nat} {w0 : PyData} {r : List PyData} (h : sOk n (.tuple (w0 :: r)) = true) (c : isS "store" w0 = true) : ∃ x, r = [x] := by
  unfold sOk at h
  rcases Bool.or_eq_true_iff.mp h with h | h
  · rcases ts_cases h with (e | e) | ⟨x, ts, e, h3, hts⟩
    · cases e; cases c
    · cases e; cases c
    · cases e; cases c
  · obtain ⟨x, e, hx⟩ := sS_cases h
    cases e
    exact ⟨x, rfl⟩
theorem wks_sOk {n : Nat} {d : PyData} (h : sOk n d = true) : wks (n + 1) d = true := by
  unfold sOk at h
  rcases Bool.or_eq_true_iff.mp h with h | h
  · exact wks_ts _ _ h
  · obtain ⟨x, rfl, hx⟩ := sS_cases h
    have e2 : bel [.str "store", x] = [x] := rfl
    rw [wks]
    show (decide ((bel [.str "store", x]).length ≤ 4) && (bel [.str "store", x]).all fun t => wks n t) = true
    rw [e2]
    simp [wks_ts n x hx]
theorem sOk_ts {n : Nat} {t : PyData} (h : isTs n t = true) : 0 < n ∧ sOk (n - 1) t = true := by
  cases n with
  | zero => cases h
  | succ n => exact ⟨Nat.succ_pos _, by unfold sOk; rw [Nat.add_sub_cancel, h]; rfl⟩
theorem lpaTo_succ (n : Nat) (bs : List PyData) (w : Str) (i : Nat) : lpaTo n bs w (i + 1) = lpaTo n bs w i ++ (lpa n (bs.getD i .none) w).map (preI i) := by
  unfold lpaTo
  rw [List.range_succ, List.flatMap_append]
  simp
def spLP (n : Nat) : Sp := spF fun ds => match ds with
  | [d, .str w] => if (0 < n ∧ sOk (n - 1) d = true) ∧ n ≤ 6 then some (.list (lpa n d w)) else none
  | _ => none
theorem spLP_len {n : Nat} {vs : List V} {H : Hp} {Q : VK} {E : XK} (h : spLP n vs H Q E) : vs.length = 2 := by
  refine spF_len (fun ds d e => ?_) h
  split at e
  · rfl
  · cases e
theorem lpa_len : ∀ (n : Nat) (d : PyData) (w : Str), wks n d = true → (lpa n d w).length ≤ 5 ^ n ∧ ∀ e ∈ lpa n d w, ∃ q, e = .tuple q ∧ q.length ≤ n := by
  intro n
  induction n with
  | zero => intro d w h; cases d <;> cases h
  | succ n ih =>
    intro d w h
    obtain ⟨w0, r, rfl⟩ := wks_tup h
    obtain ⟨h4, hall⟩ := wks_cons h
    rw [lpa]
    have hm : ∀ i, i < (bel (w0 :: r)).length → (bel (w0 :: r)).getD i .none ∈ bel (w0 :: r) := fun i hi => by rw [List.getD_eq_getElem?_getD, List.getElem?_eq_getElem hi]; exact List.getElem_mem _
    refine ⟨?_, fun e he => ?_⟩
    · rw [List.length_append]
      have hb : ∀ i, i ≤ (bel (w0 :: r)).length → (lpaTo n (bel (w0 :: r)) w i).length ≤ i * 5 ^ n := fun i => by
        induction i with
        | zero => intro _; exact Nat.zero_le _
        | succ i ihi =>
          intro hi
          rw [lpaTo_succ, List.length_append, Nat.succ_mul, List.length_map]
          have := (ih _ w (hall _ (hm i (by omega)))).1
          have := ihi (by omega)
          omega
      have h5 : ((List.range (bel (w0 :: r)).length).flatMap fun j => (lpa n ((bel (w0 :: r)).getD j .none) w).map (preI j)).length ≤ (bel (w0 :: r)).length * 5 ^ n := hb _ (Nat.le_refl _)
      have h6 : (bel (w0 :: r)).length * 5 ^ n ≤ 4 * 5 ^ n := Nat.mul_le_mul_right _ h4
      have p1 : 1 ≤ 5 ^ n := Nat.one_le_pow _ _ (by decide)
      have p2 : 5 ^ (n + 1) = 5 * 5 ^ n := by rw [Nat.pow_succ]; omega
      have h7 : (if isS w ((w0 :: r).getD 0 .none) = true then [PyData.tuple []] else []).length ≤ 1 := by split <;> simp
      omega
    · rcases List.mem_append.mp he with he | he
      · split at he
        · cases List.mem_singleton.mp he
          exact ⟨[], rfl, Nat.zero_le _⟩
        · cases he
      · obtain ⟨j, hj, he⟩ := List.mem_flatMap.mp he
        obtain ⟨e', he', rfl⟩ := List.mem_map.mp he
        obtain ⟨q, rfl, hq⟩ := (ih _ w (hall _ (hm j (List.mem_range.mp hj)))).2 e' he'
        exact ⟨_, rfl, by rw [List.length_cons]; omega⟩
theorem lpaTo_len {n : Nat} {bs : List PyData} (hall : ∀ t ∈ bs, wks n t = true) (w : Str) : ∀ i, i ≤ bs.length → (lpaTo n bs w i).length ≤ i * 5 ^ n := by
  intro i
  induction i with
  | zero => intro _; exact Nat.zero_le _
  | succ i ihi =>
    intro hi
    rw [lpaTo_succ, List.length_append, Nat.succ_mul, List.length_map]
    have hm : bs.getD i .none ∈ bs := by rw [List.getD_eq_getElem?_getD, List.getElem?_eq_getElem (by omega)]; exact List.getElem_mem _
    have := (lpa_len n _ w (hall _ hm)).1
    have := ihi (by omega)
    omega
theorem spLP_of {n : Nat} {vs : List V} {H : Hp} {Q : VK} {E : XK} (h : spLP n vs H Q E) : ∃ G v d w, vs = [v, .str w] ∧ Ex G H ∧ Da G v d ∧ w.length ≤ 1000 ∧ (0 < n ∧ sOk (n - 1) d = true) ∧ n ≤ 6 ∧ ∀ v' G' H', Gr G H G' H' → Da G' v' (.list (lpa n d w)) → Q v' H' := by
  obtain ⟨G, ds, d, s, h2, h3, k⟩ := h
  dsimp only at h3
  split at h3
  · rename_i d' w
    split at h3
    · rename_i hm
      cases h3
      cases h2 with
      | cons h t =>
        cases t with
        | cons h' t =>
          cases t
          obtain ⟨rfl, hl⟩ := h'.str_
          exact ⟨G, _, d', w, rfl, s, h, hl, hm.1, hm.2, k⟩
    · cases h3
  · cases h3
theorem ok_lpa0 (D : Df K mg "_law_paths" s_law_paths) : DefOk P w K mg base CX0 1 "_law_paths" ["_law_shape", "_law_word"] (spLP 0) := by
  refine D.ok sc_law_paths (fun _ _ _ _ _ _ us hl => match us, hl with | [_, _], _ => rfl) (fun vs H Q E h => spLP_len h) (fun f cdv A outer s H vs Q E hr h => ?_)
  obtain ⟨G, v, d, w, rfl, s, hd, hwl, hw, _⟩ := spLP_of h
  exact absurd hw.1 (by decide)
theorem ok_lpaS (T : Txt P K mg CA CB CP fP) (D : Df K mg "_law_paths" s_law_paths) {n l : Nat} (hl3 : 1 ≤ l) (D_law_paths : DefOk P w K mg base CX0 l "_law_paths" ["_law_shape", "_law_word"] (spLP n)) :
    DefOk P w K mg base CX0 (l + 1) "_law_paths" ["_law_shape", "_law_word"] (spLP (n + 1)) := by
  refine D.ok sc_law_paths (fun _ _ _ _ _ _ us hl => match us, hl with | [_, _], _ => rfl) (fun vs H Q E h => spLP_len h) (fun f cdv A outer s H vs Q E hr h => ?_)
  obtain ⟨G, v, d, w, rfl, s, hd, hwl, hw, hn6, k⟩ := spLP_of h
  have hok : sOk n d = true := hw.2
  have hw := wks_sOk hok
  obtain ⟨w0, r, rfl⟩ := wks_tup hw
  obtain ⟨h4, hall⟩ := wks_cons hw
  have hts := bel_ts hok
  refine ⟨_, (pss_cons (ps_set (i := 2) sc_law_paths.nd rfl (Or.inl rfl) (pe_ifExp (pt_cmpR (op_eqS hr.units0) (pe_ix ix_tup (pv 0) pe_int (fun _ _ => rfl)) pe_str (nomark _)) (pe_lst (pa_cons (pe_ix ix_tup (pv 0) pe_int (fun _ _ => rfl)) pa_nil)) (pe_ifExp (pt_cmpR (op_eqS hr.units0) (pe_ix ix_tup (pv 0) pe_int (fun _ _ => rfl)) pe_str (nomark _)) (pe_callTy call_list_of (by rfl) T.n_list (by decide +kernel) (pa_cons (pe_slice sl_tupA (pv 0) (po_some pe_int) po_none) pa_nil)) (pe_lst pa_nil))))
 (pss_cons (ps_set (i := 3) sc_law_paths.nd rfl (Or.inl rfl) (pe_ifExp (pt_cmpR (op_eqS hr.units0) (pe_ix ix_tup (pv 0) pe_int (fun _ _ => rfl)) (pv 1) (nomark _)) (pe_lst (pa_cons (pe_tup pa_nil) pa_nil)) (pe_lst pa_nil)))
 (pss_cons (ps_for PassesOwn.never rfl (pi_enum (by rfl) T.n_enumerate (pa_cons (pv 2) pa_nil)) (pg_tup (by rfl) (pgs_cons (pg_name (i := 4) sc_law_paths.nd rfl (Or.inr rfl)) (pgs_cons (pg_name (i := 5) sc_law_paths.nd rfl (Or.inl rfl)) pgs_nil)))
 (pss_one (ps_set (i := 3) sc_law_paths.nd rfl (Or.inl rfl) (pe_op op_cat (pv 3) (pe_lc (own := [("_law_path", 6)]) (by rfl) sc_law_paths.nd (pi_list (pe_callD D_law_paths (hr.mono (by omega)) pass0 (pa_cons (pv 5) (pa_cons (pv 1) pa_nil)))) (blkOk_by (own := [("_law_path", 6)]) (N := ["_law_shape", "_law_word", "_law_inner", "_law_found", "_law_at", "_law_one_here", "_law_path"]) (sc := defScope s_law_paths) (by decide +kernel)) (fun _ _ _ _ _ => (pg_name (i := 6) sc_law_paths.nd rfl (Or.inl rfl))) (fun _ _ _ _ _ => pts_nil) (fun _ _ _ _ _ => (pe_op (show OpR _ _ (rCatA K) from op_catA) (pe_tup (pa_cons (pv 4) pa_nil)) (pv 6))))))))
 (pss_one (ps_ret (pv 3)))))), ?_⟩
  have i0 : ∀ σ : L2.St, σ[0]? = some (some v) → ∀ G', Ex G G' → EvD (tOp (rIxT K) (tVar 0) (tC (.int 0))) σ G' w0 := fun σ e G' x => evd_ixT (evd_var e (hd.up x)) ev_c (atI_nat (j := 0) rfl)
  refine q_asgD s (d := .list (bel (w0 :: r))) (evd_if (b := isS "store" w0) (et_test (ev_eqS (i0 _ rfl G (Ex.refl _)) ev_c)) (fun c => ?_) (fun c => evd_if (b := isS "op" w0) (et_test (ev_eqS (i0 _ rfl G (Ex.refl _)) ev_c)) (fun c2 => EvD.is (evd_listOf (ds := r.drop 1) (EvD.is (evd_sl (evd_var rfl hd) (EvO.some_ ev_c) EvO.none_) ?_)) ?_) (fun c2 => EvD.is (evd_lst evd_nil (by decide)) ?_))) (fun vi G1 H1 r1 hd1 => ?_)
  · obtain ⟨x, rfl⟩ := store_one hok c
    exact EvD.is (evd_lst (evd_cons (evd_ixT (evd_var rfl hd) ev_c (atI_nat (j := 1) rfl)) evd_nil) (by simp)) (by rw [bel, if_pos c])
  · rw [show (2 : Int) = ((2 : Nat) : Int) from rfl, cutD_from]
    rfl
  · rw [bel, c, if_neg Bool.false_ne_true, if_pos c2]
  · rw [bel, c, if_neg Bool.false_ne_true, c2, if_neg Bool.false_ne_true]
  obtain ⟨a, xs, rfl, ea, hs⟩ := hd1.lst_
  refine q_asgD r1.s (d := .list (if isS w w0 = true then [.tuple []] else [])) (evd_if (b := isS w w0) (et_test (ev_eqS (i0 _ rfl G1 r1.g) (ev_var rfl))) (fun c => EvD.is (evd_lst (evd_cons (evd_tup evd_nil (by simp)) evd_nil) (by simp)) (by rw [if_pos c])) (fun c => EvD.is (evd_lst evd_nil (by simp)) (by rw [c, if_neg Bool.false_ne_true]))) (fun vf G2 H2 r2 hd2 => ?_)
  have r12 := r1.trans r2
  refine ⟨_, rfl, a, xs, rfl, SqL.of (r2.h _ _ (r1.s _ _ ea)), for_it (walk_enum (K := K) (a := a) (xs := xs)) (fun i σ' H' => ∃ G' vf v4 v5, σ' = [some v, some (.str w), some (.ref a), some vf, v4, v5, none] ∧ Gr G2 H2 G' H' ∧ Da G' vf (.list ((if isS w w0 = true then [.tuple []] else []) ++ lpaTo n (bel (w0 :: r)) w i))) ?_ ?_ ?_ ?_⟩
  · exact ⟨G2, vf, _, _, rfl, Gr.refl r2.s, by simpa [lpaTo] using hd2⟩
  · rintro i σ' H' _ ⟨G', vf, v4, v5, rfl, y1, y2⟩
    exact SqL.of (y1.s _ _ ((r2.g.trans y1.g) _ _ ea))
  · rintro i x σ' H' H'' hi ⟨G', vf, v4, v5, rfl, y1, y2⟩ ⟨T0, u1, u2, rfl, hT, rfl, e1, e2⟩
    obtain rfl : V.int (i : Nat) = u1 := Option.some.inj e1
    have e2 : xs[i]? = some u2 := e2
    obtain ⟨t, eti, hdt⟩ := hs.at e2
    have hil : i < (bel (w0 :: r)).length := by rw [← hs.len]; exact hi
    have eg : (bel (w0 :: r)).getD i .none = t := by rw [List.getD_eq_getElem?_getD, eti]; rfl
    have htt : wks n t = true := hall t (List.mem_of_getElem? eti)
    have y1' := y1.trans (Gr.keep y1.s (Ex.new (o := .tup [.int (i : Nat), u2]) hT))
    refine ⟨T0, _, rfl, SqT.of upd_same, rfl, _, _, rfl, _, _, rfl, rfl, ?_⟩
    have b1 := lpa_len n t w htt
    have b2 := lpaTo_len hall w i (by omega)
    have p5 : 5 ^ n ≤ 5 ^ 6 := Nat.pow_le_pow_right (by decide) (by omega)
    have b3 : i * 5 ^ n ≤ 4 * 5 ^ 6 := Nat.mul_le_mul (by omega) p5
    have e56 : (5 : Nat) ^ 6 = 15625 := by decide
    have lc : EvD (tLc (iList K (tCallD (spLP n) E0 (tCons (tVar 5) (tCons (tVar 1) tNil)))) (gName 6) tYes (tOp (rCatA K) (tTup (tCons (tVar 4) tNil)) (tVar 6)) [6]) [some v, some (.str w), some (.ref a), some vf, some (.int (i : Nat)), some u2, none] G' (.list ((lpa n t w).map (preI i))) := by
      refine EvD.is (evd_lcL (K := K) (ds := lpa n t w) (fun _ => true) (preI i) (evd_call (evd_cons (evd_var rfl (hdt.up (r2.g.trans y1.g))) (evd_cons (evd_str (ev_var rfl) hwl) evd_nil)) ?_) (by omega) (fun _ => rfl) (fun _ _ _ _ _ _ => et_yes (b := true)) (fun d hd' _ v G1 _ hv => ?_)) ?_
      · dsimp only
        rw [if_pos ⟨sOk_ts (hts t (List.mem_of_getElem? eti)), by omega⟩]
      · obtain ⟨q, rfl, hq⟩ := b1.2 d hd'
        exact evd_cat (ds := [.int (i : Nat)]) (evd_tup (evd_cons (evd_int (ev_var rfl)) evd_nil) (by simp)) (evd_var rfl hv) (by simp; omega)
      · rw [List.filter_eq_self.mpr (fun _ _ => rfl)]
    have cat := evd_catL (evd_var (i := 3) (σ := [some v, some (.str w), some (.ref a), some vf, some (.int (i : Nat)), some u2, none]) rfl y2) lc (by
      rw [List.length_append, List.length_map]
      have : (if isS w w0 = true then [PyData.tuple []] else []).length ≤ 1 := by split <;> simp
      omega)
    refine cat.go y1'.s fun v3 G3 H3 r3 hd3 => ?_
    refine ⟨G3, v3, _, _, rfl, y1'.trans r3, ?_⟩
    rw [lpaTo_succ, ← List.append_assoc, eg]
    exact hd3
  · rintro σ' H' ⟨G', vf, v4, v5, rfl, y1, y2⟩
    refine ⟨_, rfl, k vf G' H' (r12.trans y1) ?_⟩
    have e : lpa (n + 1) (.tuple (w0 :: r)) w = (if isS w w0 = true then [.tuple []] else []) ++ lpaTo n (bel (w0 :: r)) w (bel (w0 :: r)).length := by rw [lpa]; rfl
    rw [e, ← hs.len]
    exact y2
end
end My
set_option maxHeartbeats 4000000
namespace My
open PySem L2 Lf Evl Tr StX PyProof
section
variable {P : Program} {w : World} {K : PySem.W.Frag} {mg : Str → Option Value} {base : Heap} {CA CB CP fP : Addr}
def tx : Nat → PyData → Str
  | 0, _ => Str.empty
  | n + 1, d => if isS "store" (ixD d 0) = true then "= " ++ tx n (ixD d 1) else if isS "hole" (ixD d 0) = true then "_" else if isS "load" (ixD d 0) = true then "@"
    else Txt.join " " (strOf (ixD d 1) :: "(" :: ((restD d).map (fun t => tx n t) ++ [(")" : Str)]))
def fTx (n : Nat) (d : PyData) : Option PyData := if 0 < n ∧ sOk (n - 1) d = true ∧ n ≤ 4 then some (.str (tx n d)) else none
theorem nm_len {x : Str} (h : isNm (.str x) = true) : x.length ≤ 8 := by
  have h : (decide (1 ≤ x.length) && decide (x.length ≤ 8) && lets x) = true := h
  simp only [Bool.and_eq_true, decide_eq_true_eq] at h
  exact h.1.2
theorem tx_len : ∀ (n : Nat) (d : PyData), sOk (n - 1) d = true → 2 * (tx n d).length + 15 ≤ 13 * 3 ^ n + 4 ∧ (isTs n d = true → 2 * (tx n d).length + 15 ≤ 13 * 3 ^ n) := by
  intro n
  induction n with
  | zero => intro d h; exact ⟨by show 2 * 0 + 15 ≤ _; decide, fun h => by cases h⟩
  | succ n ih =>
    intro d h
    rw [Nat.add_sub_cancel] at h
    have p1 : 1 ≤ 3 ^ n := Nat.one_le_pow _ _ (by decide)
    have p2 : 3 ^ (n + 1) = 3 * 3 ^ n := by rw [Nat.pow_succ]; omega
    have main : isTs (n + 1) d = true → 2 * (tx (n + 1) d).length + 15 ≤ 13 * 3 ^ (n + 1) := fun h => by
      rcases ts_cases h with (rfl | rfl) | ⟨x, ts, rfl, h3, hts⟩
      · show 2 * 1 + 15 ≤ _; omega
      · show 2 * 1 + 15 ≤ _; omega
      · have hx := nm_len (ts_name h)
        show 2 * (Txt.join " " (x :: ("(" : Str) :: (ts.map (fun t => tx n t) ++ [(")" : Str)]))).length + 15 ≤ _
        rw [show Txt.join (" " : Str) (x :: ("(" : Str) :: (ts.map (fun t => tx n t) ++ [(")" : Str)])) = PySem.Builtin.Str.glued (" " : Str) (x :: ("(" : Str) :: (ts.map (fun t => tx n t) ++ [(")" : Str)])) from rfl, size_glued]
        have hb : ∀ (l : List PyData), (∀ t ∈ l, isTs n t = true) → 2 * ((l.map fun t => tx n t).map (·.length)).sum + 15 * l.length ≤ l.length * (13 * 3 ^ n) := fun l => by
          induction l with
          | nil => intro _; exact Nat.zero_le _
          | cons b l ihl =>
            intro hl
            have hb := hl b (List.mem_cons_self ..)
            have := (ih b (sOk_ts hb).2).2 hb
            have := ihl fun t ht => hl t (List.mem_cons_of_mem _ ht)
            rw [List.map_cons, List.map_cons, List.sum_cons, List.length_cons, show (l.length + 1) * (13 * 3 ^ n) = l.length * (13 * 3 ^ n) + 13 * 3 ^ n from Nat.succ_mul _ _]
            omega
        have h4 := hb ts hts
        have e1 : ((" " : String) : Str).length = 1 := rfl
        have e2 : (("(" : String) : Str).length = 1 := rfl
        have e3 : ((")" : String) : Str).length = 1 := rfl
        simp only [List.map_cons, List.map_append, List.sum_cons, List.sum_append, List.length_cons, List.length_append, List.length_map, List.map_nil, List.sum_nil, List.length_nil, e1, e2, e3]
        have h5 : ts.length = 0 ∨ ts.length = 1 ∨ ts.length = 2 ∨ ts.length = 3 := by omega
        rcases h5 with h5 | h5 | h5 | h5 <;> rw [h5] at h4 ⊢ <;> omega
    refine ⟨?_, main⟩
    unfold sOk at h
    rcases Bool.or_eq_true_iff.mp h with h | h
    · have := main h; omega
    · obtain ⟨x, rfl, hx⟩ := sS_cases h
      show 2 * (("= " : Str) ++ tx n x).length + 15 ≤ _
      rw [strLen_append]
      have e1 : (("= " : String) : Str).length = 2 := rfl
      have := (ih x (sOk_ts hx).2).2 hx
      rw [e1]
      omega
theorem tx_le {n : Nat} {d : PyData} (h : sOk (n - 1) d = true) (hn : n ≤ 4) : (tx n d).length ≤ 1000 := by
  have h1 := (tx_len n d h).1
  have p6 : 3 ^ n ≤ 3 ^ 4 := Nat.pow_le_pow_right (by decide) hn
  have : (3 : Nat) ^ 4 = 81 := by decide
  omega
theorem ev_in2 {K : PySem.W.Frag} {σ : L2.St} {G : Hp} {te : TE} {x a b : Str} (h : Ev te σ G (.str x)) : Ev (tOp (rIn K false) te (tTup (tCons (tC (.str a)) (tCons (tC (.str b)) tNil)))) σ G (.bl (inV (.str x) [.str a, .str b])) := fun H1 e Q q => h H1 e _ fun H2 x2 =>
  ⟨show 2 ≤ sizeLine by decide, fun p hp => ⟨p, [.str a, .str b], rfl, .inr (SqT.of upd_same), rfl, rfl, q _ (x2.trans (Ex.new hp))⟩⟩
theorem ev_cat2 {σ : L2.St} {G : Hp} {ta tb : TE} {x y : Str} (ha : Ev ta σ G (.str x)) (hb : Ev tb σ G (.str y)) (hl : x.length + y.length ≤ sizeLine) : Ev (tOp (fun x y H Q => ∃ i j, x = V.str i ∧ y = V.str j ∧ i.length + j.length ≤ sizeLine ∧ Q (V.str (i ++ j)) H) ta tb) σ G (.str (x ++ y)) := fun H1 e Q q => ha H1 e _ fun H2 x2 => hb H2 (e.trans x2) _ fun H3 x3 => ⟨x, y, rfl, rfl, hl, q H3 (x2.trans x3)⟩
theorem ok_tx0 (D : Df K mg "_law_text" s_law_text) : DefOk P w K mg base CX0 1 "_law_text" ["_law_shape"] (spO (fTx 0)) := by
  refine D.ok sc_law_text (fun _ _ _ _ _ _ us hl => match us, hl with | [_], _ => rfl) (fun vs H Q E h => spO_len h) (fun f cdv A outer s H vs Q E hr h => ?_)
  obtain ⟨G, v, d, e, rfl, s, hd, he, k⟩ := spO_of h
  unfold fTx at he
  rw [if_neg (fun z => absurd z.1 (by decide))] at he
  cases he
theorem ok_txS (T : Txt P K mg CA CB CP fP) (D : Df K mg "_law_text" s_law_text) {n l : Nat} (hl3 : 1 ≤ l) (D_law_text : DefOk P w K mg base CX0 l "_law_text" ["_law_shape"] (spO (fTx n))) : DefOk P w K mg base CX0 (l + 1) "_law_text" ["_law_shape"] (spO (fTx (n + 1))) := by
  refine D.ok sc_law_text (fun _ _ _ _ _ _ us hl => match us, hl with | [_], _ => rfl) (fun vs H Q E h => spO_len h) (fun f cdv A outer s H vs Q E hr h => ?_)
  obtain ⟨G, v, d, e, rfl, s, hd, he, k⟩ := spO_of h
  refine ⟨_, (pss_cons (ps_if (pt_cmpR op_in_seq (pe_ix ix_tup (pv 0) pe_int (fun _ _ => rfl)) (pe_tup (pa_cons pe_str (pa_cons pe_str pa_nil))) (by rfl))
 (pss_one (ps_ret (pe_ifExp (pt_cmpR (op_eqS hr.units0) (pe_ix ix_tup (pv 0) pe_int (fun _ _ => rfl)) pe_str (nomark _)) pe_str pe_str)))
 pss_nil)
 (pss_cons (ps_if (pt_cmpR (op_eqS hr.units0) (pe_ix ix_tup (pv 0) pe_int (fun _ _ => rfl)) pe_str (nomark _))
 (pss_one (ps_ret (pe_op op_add_str pe_str (pe_callD D_law_text (hr.mono (by omega)) pass0 (pa_cons (pe_ix ix_tup (pv 0) pe_int (fun _ _ => rfl)) pa_nil)))))
 pss_nil)
 (pss_one (ps_ret (pe_join pe_str (pe_op op_cat (pe_op op_cat (pe_lst (pa_cons (pe_ix ix_tup (pv 0) pe_int (fun _ _ => rfl)) (pa_cons pe_str pa_nil))) (pe_lc (own := [("_law_one_here", 1)]) (by rfl) sc_law_text.nd (pi_tup (pe_slice sl_tupA (pv 0) (po_some pe_int) po_none)) (blkOk_by (own := [("_law_one_here", 1)]) (N := ["_law_shape", "_law_one_here"]) (sc := defScope s_law_text) (by decide +kernel)) (fun _ _ _ _ _ => (pg_name (i := 1) sc_law_text.nd rfl (Or.inl rfl))) (fun _ _ _ _ _ => pts_nil) (fun _ _ _ _ _ => (pe_callD D_law_text (hr.mono (by omega)) pass0 (pa_cons (pv 1) pa_nil))))) (pe_lst (pa_cons pe_str pa_nil)))))))), ?_⟩
  unfold fTx at he
  split at he
  · rename_i hok
    cases he
    obtain ⟨_, hok, hn⟩ := hok
    have hlen := tx_le hok hn
    rw [Nat.add_sub_cancel] at hok
    have sub : ∀ t, isTs n t = true → fTx n t = some (.str (tx n t)) := fun t ht => by
      unfold fTx
      rw [if_pos ⟨(sOk_ts ht).1, (sOk_ts ht).2, by omega⟩]
    have i0 : ∀ {x : Str} {r : List PyData}, d = .tuple (.str x :: r) → EvD (tOp (rIxT K) (tVar 0) (tC (.int 0))) (start ["_law_shape", "_law_one_here"] [v]) G (.str x) := fun e => by
      subst e
      exact evd_ixT (evd_var rfl hd) ev_c (atI_nat (j := 0) rfl)
    unfold sOk at hok
    rcases Bool.or_eq_true_iff.mp hok with h | h
    · rcases ts_cases h with (rfl | rfl) | ⟨x, ts, rfl, h3, hts⟩
      · refine q_ifD s (et_is (et_test (ev_in2 (i0 rfl).str_)) (b := true) (by decide)) (fun _ H1 x1 => ?_) (fun z => by cases z)
        exact s_retD (s.trans x1) (evd_if (b := true) (et_is (et_test (ev_eqS (i0 rfl) ev_c)) (by decide)) (fun _ => evd_str ev_c (by decide)) (fun z => by cases z)) (fun v' G' H' r => k v' G' H' ((Gr.keep s x1).trans r))
      · refine q_ifD s (et_is (et_test (ev_in2 (i0 rfl).str_)) (b := true) (by decide)) (fun _ H1 x1 => ?_) (fun z => by cases z)
        exact s_retD (s.trans x1) (evd_if (b := false) (et_is (et_test (ev_eqS (i0 rfl) ev_c)) (by decide)) (fun z => by cases z) (fun _ => evd_str ev_c (by decide))) (fun v' G' H' r => k v' G' H' ((Gr.keep s x1).trans r))
      · refine q_ifD s (et_is (et_test (ev_in2 (i0 rfl).str_)) (b := false) (by decide)) (fun z => by cases z) (fun _ H1 x1 => ?_)
        refine q_ifD (s.trans x1) (et_is (et_test (ev_eqS (i0 rfl) ev_c)) (b := false) (by decide)) (fun z => by cases z) (fun _ H2 x2 => ?_)
        have hx12 := x1.trans x2
        refine s_retD (s.trans hx12) (evd_str (s := tx (n + 1) (.tuple (.str "op" :: .str x :: ts))) (ev_join (ws := x :: "(" :: (ts.map (fun t => tx n t) ++ [(")" : Str)])) ev_c (EvD.is (evd_catL (ds := .str x :: .str "(" :: ts.map (fun t => .str (tx n t))) (EvD.is (evd_catL (ds := [.str x, .str "("]) (es := ts.map (fun t => .str (tx n t))) (evd_lst (evd_cons (evd_ixT (evd_var rfl hd) ev_c (atI_nat (j := 1) rfl)) (evd_cons (evd_str ev_c (by decide)) evd_nil)) (by simp)) (EvD.is (evd_lcT (ds := ts) (fun _ => true) (fun t => .str (tx n t)) (EvD.is (evd_sl (evd_var rfl hd) (EvO.some_ ev_c) EvO.none_) ?_) (by omega) (fun _ => rfl) (fun _ _ _ _ _ _ => et_yes (b := true)) (fun t ht _ v G1 _ hv => evd_callO (evd_var rfl hv) (sub t (hts t ht)))) ?_) (by simp; omega)) rfl) (evd_lst (evd_cons (evd_str (s := ")") ev_c (by decide)) evd_nil) (by simp)) (by simp; omega)) ?_) (by simp; omega) (by decide)) hlen) (fun v' G' H' r => k v' G' H' ((Gr.keep s hx12).trans r))
        · rw [show (2 : Int) = ((2 : Nat) : Int) from rfl, cutD_from]; rfl
        · rw [List.filter_eq_self.mpr (fun _ _ => rfl)]
        · simp
    · obtain ⟨x, rfl, hx⟩ := sS_cases h
      refine q_ifD s (et_is (et_test (ev_in2 (i0 rfl).str_)) (b := false) (by decide)) (fun z => by cases z) (fun _ H1 x1 => ?_)
      refine q_ifD (s.trans x1) (et_is (et_test (ev_eqS (i0 rfl) ev_c)) (b := true) (by decide)) (fun _ H2 x2 => ?_) (fun z => by cases z)
      have hx12 := x1.trans x2
      refine s_retD (s.trans hx12) (evd_str (s := tx (n + 1) (.tuple [.str "store", x])) (ev_cat2 ev_c (EvD.str_ (evd_callO (evd_ixT (evd_var rfl hd) ev_c (atI_nat (j := 1) rfl)) (sub x hx))) ?_) hlen) (fun v' G' H' r => k v' G' H' ((Gr.keep s hx12).trans r))
      have := tx_le (sOk_ts hx).2 (show n ≤ 4 by omega)
      have e1 : (("= " : String) : Str).length = 2 := rfl
      have h9 : 2000 ≤ sizeLine := by decide
      show (("= " : String) : Str).length + (tx n x).length ≤ sizeLine
      omega
  · cases he
end
end My
set_option maxHeartbeats 4000000
namespace My
open PySem L2 Lf Evl Tr StX PyProof
section
variable {P : Program} {w : World} {K : PySem.W.Frag} {mg : Str → Option Value} {base : Heap} {CA CB CP fP : Addr}
/-- None where the shape does not fit, else a list of texts -/
def spH (n : Nat) : Sp := fun vs H Q _ => ∃ G v1 v2 d1 d2, ∃ x : Str, vs = [v1, v2, .str x] ∧ Ex G H ∧ Da G v1 d1 ∧ Da G v2 d2 ∧ (0 < n ∧ fOk (n - 1) d1 d2 = true) ∧ n ≤ 6 ∧ x.length + 2 * n ≤ 1000 ∧ (fit n d1 d2 = false → ∀ G' H', Gr G H G' H' → Q .non H') ∧ (fit n d1 d2 = true → ∀ v ds G' H', Gr G H G' H' → Da G' v (.list ds) → ds.length ≤ 4 ^ n → Q v H')
theorem zipAll {f : PyData → PyData → Bool} : ∀ {l m : List PyData}, l.length = m.length → (∀ j, j < l.length → f (l.getD j .none) (m.getD j .none) = true) → ((l.zip m).all fun p => f p.1 p.2) = true
  | [], m, _, _ => by cases m <;> rfl
  | a :: l, [], e, _ => by cases e
  | a :: l, b :: m, e, h => by
    have h0 : f a b = true := h 0 (Nat.succ_pos _)
    rw [List.zip_cons_cons, List.all_cons, h0, zipAll (l := l) (m := m) (by simpa using e) (fun j hj => h (j + 1) (Nat.succ_lt_succ hj))]
    rfl
theorem zipNot {f : PyData → PyData → Bool} : ∀ {l m : List PyData} {j : Nat}, l.length = m.length → j < l.length → f (l.getD j .none) (m.getD j .none) = false → ((l.zip m).all fun p => f p.1 p.2) = false
  | [], m, j, _, hj, _ => absurd hj (Nat.not_lt_zero _)
  | a :: l, [], _, e, _, _ => by cases e
  | a :: l, b :: m, 0, e, _, h => by
    have h0 : f a b = false := h
    rw [List.zip_cons_cons, List.all_cons, h0]
    rfl
  | a :: l, b :: m, j + 1, e, hj, h => by
    rw [List.zip_cons_cons, List.all_cons, zipNot (l := l) (m := m) (j := j) (by simpa using e) (Nat.lt_of_succ_lt_succ hj) h, Bool.and_false]
abbrev teIn (K : PySem.W.Frag) : TE := tIf (tTest (tOp rEqS (tOp (rIxT K) (tVar 0) (tC (.int 0))) (tC (.str "store")))) (tLst (tCons (tOp (rIxT K) (tVar 0) (tC (.int 1))) tNil)) (tCB (fun xs H Q => ∃ p ys, xs = [V.ref p] ∧ (SqL K H p ys ∨ SqT K H p ys) ∧ ∀ l, H l = none → Q (.ref l) (upd H l (.lst ys))) (tCons (tSl (rSlA K) (tVar 0) (tPart (tC (.int 2))) tNoPart) tNil))
abbrev rCat2 : R2 := fun x y H Q => ∃ i j, x = V.str i ∧ y = V.str j ∧ i.length + j.length ≤ sizeLine ∧ Q (V.str (i ++ j)) H
abbrev tsLoop (K : PySem.W.Frag) (sp : Sp) : TS := tFor (iEnum K (tCons (tVar 4) tNil)) (gTup K 2 (gCons (gName 5) (gCons (gName 6) gNil))) (tSeq (tAsg (tCallD sp E0 (tCons (tVar 6) (tCons (tOp (rIxL K) (tCallD (spO fLB) E0 (tCons (tVar 1) tNil)) (tVar 5)) (tCons (tOp rCat2 (tOp rCat2 (tVar 2) (tC (.str "."))) (tCB (fun xs H Q => ∃ i, xs = [V.int i] ∧ i.natAbs.log2 < 1920 ∧ Q (V.str (Str.ofString (toString i))) H) (tCons (tVar 5) tNil))) tNil)))) (gName 7)) (tSeq (tIfS (tTest (tOp (fun x y H Q => y = V.non ∧ Q (V.bl (decide (x = V.non))) H) (tVar 7) (tC V.non))) (tRet (tC V.non)) tNext) (tAsg (tOp rCat (tVar 3) (tVar 7)) (gName 3))))
theorem ev_strI {σ : L2.St} {G : Hp} {te : TE} {i : Int} (h : Ev te σ G (.int i)) (hl : i.natAbs.log2 < 1920) : Ev (tCB (fun xs H Q => ∃ i, xs = [V.int i] ∧ i.natAbs.log2 < 1920 ∧ Q (V.str (Str.ofString (toString i))) H) (tCons te tNil)) σ G (.str (Str.ofString (toString i))) := fun H1 e Q q => h H1 e _ fun H2 x2 => ⟨i, rfl, hl, q H2 x2⟩
theorem str_i {i : Nat} (h : i < 3) : (Str.ofString (toString ((i : Nat) : Int))).length = 1 ∧ ((i : Nat) : Int).natAbs.log2 < 1920 := by
  have : i = 0 ∨ i = 1 ∨ i = 2 := by omega
  rcases this with rfl | rfl | rfl <;> exact ⟨by decide +kernel, by decide +kernel⟩
theorem q_asgC {sp : Sp} {E : XK} {tA : TA} {σ : L2.St} {G H : Hp} {ds : List PyData} {tz : TS} {D : Ends} {i : Nat} (s : Ex G H) (h : EvDs tA σ G ds) (k : ∀ vs G1 H1, Gr G H G1 H1 → DaAll G1 vs ds → sp vs H1 (fun v H2 => tz D (σ.set i (some v)) H2) E) : tSeq (tAsg (tCallD sp E tA) (gName i)) tz D σ H := h G H (Ex.refl _) s _ k
/-- the walk over the inner shapes -/
theorem hol_loop {n : Nat} {G H : Hp} {v1 v2 : V} {d1 d2 : PyData} {x : Str} {Q : VK} {in1 bs : List PyData} (s : Ex G H) (hd2 : Da G v2 d2) (hn : n + 1 ≤ 6) (hx : x.length + 2 * (n + 1) ≤ 1000)
    (kN : fit (n + 1) d1 d2 = false → ∀ G' H', Gr G H G' H' → Q .non H') (kS : fit (n + 1) d1 d2 = true → ∀ v ds G' H', Gr G H G' H' → Da G' v (.list ds) → ds.length ≤ 4 ^ (n + 1) → Q v H')
    (hin : ∀ vf G', Ex G G' → EvD (teIn K) [some v1, some v2, some (.str x), some vf, none, none, none, none] G' (.list in1)) (hb : fLB d2 = some (.list bs)) (e : in1.length = bs.length) (h3 : in1.length ≤ 3) (hf : ∀ j, j < in1.length → 0 < n ∧ fOk (n - 1) (in1.getD j .none) (bs.getD j .none) = true)
    (hfit : fit (n + 1) d1 d2 = ((in1.zip bs).all fun p => fit n p.1 p.2)) :
    tSeq (tAsg (tLst tNil) (gName 3)) (tSeq (tAsg (teIn K) (gName 4)) (tSeq (tsLoop K (spH n)) (tRet (tVar 3)))) { nx := fun x H' => Q V.non H', rt := Q } [some v1, some v2, some (.str x), none, none, none, none, none] H := by
  refine q_asgD s (d := .list []) (evd_lst evd_nil (by simp)) fun vf G1 H1 r1 hd3 => ?_
  refine q_asgD r1.s (hin vf G1 r1.g) fun vi G2 H2 r2 hd4 => ?_
  obtain ⟨a, xs, rfl, ea, hs⟩ := hd4.lst_
  have r12 := r1.trans r2
  refine ⟨_, rfl, a, xs, rfl, SqL.of (r2.s _ _ ea), for_it (walk_enum (K := K) (a := a) (xs := xs)) (fun i σ' H' => ∃ G' vf v5 v6 v7 acc, σ' = [some v1, some v2, some (.str x), some vf, some (.ref a), v5, v6, v7] ∧ Gr G H G' H' ∧ Ex G2 G' ∧ Da G' vf (.list acc) ∧ acc.length ≤ i * 4 ^ n ∧ ∀ j, j < i → fit n (in1.getD j .none) (bs.getD j .none) = true) ?_ ?_ ?_ ?_⟩
  · exact ⟨G2, vf, _, _, _, [], rfl, r12, Ex.refl _, hd3.up r2.g, Nat.zero_le _, fun j hj => absurd hj (Nat.not_lt_zero _)⟩
  · rintro i σ' H' _ ⟨G', vf, v5, v6, v7, acc, rfl, y1, y2, y3, y4, y5⟩
    exact SqL.of (y1.s _ _ (y2 _ _ ea))
  · rintro i x0 σ' H' H'' hi ⟨G', vf, v5, v6, v7, acc, rfl, y1, y2, y3, y4, y5⟩ ⟨T0, u1, u2, rfl, hT, rfl, e1, e2⟩
    obtain rfl : V.int (i : Nat) = u1 := Option.some.inj e1
    have e2 : xs[i]? = some u2 := e2
    obtain ⟨t, eti, hdt⟩ := hs.at e2
    have hil : i < in1.length := by rw [← hs.len]; exact hi
    have eg : in1.getD i .none = t := by rw [List.getD_eq_getElem?_getD, eti]; rfl
    have y1' := y1.trans (Gr.keep y1.s (Ex.new (o := .tup [.int (i : Nat), u2]) hT))
    obtain ⟨l1, l2⟩ := str_i (i := i) (by omega)
    have hs5 : (20000 : Nat) ≤ sizeLine := by decide
    have el : (("." : String) : Str).length = 1 := rfl
    refine ⟨T0, _, rfl, SqT.of upd_same, rfl, _, _, rfl, _, _, rfl, rfl, ?_⟩
    have args : EvDs (tCons (tVar 6) (tCons (tOp (rIxL K) (tCallD (spO fLB) E0 (tCons (tVar 1) tNil)) (tVar 5)) (tCons (tOp rCat2 (tOp rCat2 (tVar 2) (tC (.str "."))) (tCB (fun xs H Q => ∃ i, xs = [V.int i] ∧ i.natAbs.log2 < 1920 ∧ Q (V.str (Str.ofString (toString i))) H) (tCons (tVar 5) tNil))) tNil))) [some v1, some v2, some (.str x), some vf, some (.ref a), some (.int (i : Nat)), some u2, v7] G' [t, bs.getD i .none, .str (x ++ "." ++ Str.ofString (toString ((i : Nat) : Int)))] :=
      evd_cons (evd_var rfl (hdt.up y2)) (evd_cons (evd_ixL (evd_callO (evd_var rfl (hd2.up y1.g)) hb) (ev_var rfl) (atI_get (by omega))) (evd_cons (evd_str (ev_cat2 (ev_cat2 (ev_var rfl) ev_c (by rw [el]; omega)) (ev_strI (ev_var rfl) l2) (by rw [strLen_append, el, l1]; omega)) (by rw [strLen_append, strLen_append, el, l1]; omega)) evd_nil))
    refine q_asgC y1'.s args fun vs G3 H3 r3 hds => ?_
    cases hds with
    | cons q1 hds =>
    cases hds with
    | cons q2 hds =>
    cases hds with
    | cons q3 hds =>
    cases hds
    obtain ⟨rfl, _⟩ := q3.str_
    have r13 := y1'.trans r3
    have hfi := hf i hil
    rw [eg] at hfi
    refine ⟨G3, _, _, t, bs.getD i .none, _, rfl, r3.s, q1, q2, hfi, by omega, by rw [strLen_append, strLen_append, el, l1]; omega, fun c G4 H4 r4 => ?_, fun c v ds G4 H4 r4 hv hl => ?_⟩
    · refine ⟨_, rfl, rfl, _, rfl, if_so rfl ?_⟩
      refine kN ?_ G4 H4 (r13.trans r4)
      rw [hfit]
      exact zipNot e hil (by rw [eg]; exact c)
    · have : ¬ v = .non := fun z => by subst z; cases hv
      refine ⟨_, rfl, rfl, _, rfl, if_no (decide_eq_false this) ?_⟩
      have r14 := r13.trans r4
      have p4 : 4 ^ n ≤ 4 ^ 6 := Nat.pow_le_pow_right (by decide) (by omega)
      have e46 : (4 : Nat) ^ 6 = 4096 := by decide
      have b3 : i * 4 ^ n ≤ 3 * 4 ^ n := Nat.mul_le_mul_right _ (by omega)
      have cat := evd_catL (evd_var (i := 3) (σ := [some v1, some v2, some (.str x), some vf, some (.ref a), some (.int (i : Nat)), some u2, some v]) rfl (y3.up (r3.g.trans r4.g))) (evd_var (i := 7) rfl hv) (by omega)
      refine cat.go r14.s fun v8 G5 H5 r5 hd8 => ?_
      refine ⟨G5, v8, _, _, _, _, rfl, r14.trans r5, y2.trans (r3.g.trans (r4.g.trans r5.g)), hd8, ?_, fun j hj => ?_⟩
      · rw [List.length_append, Nat.succ_mul]; omega
      · by_cases c2 : j = i
        · subst c2; rw [eg]; exact c
        · exact y5 j (by omega)
  · rintro σ' H' ⟨G', vf, v5, v6, v7, acc, rfl, y1, y2, y3, y4, y5⟩
    refine ⟨_, rfl, kS ?_ vf acc G' H' y1 y3 ?_⟩
    · rw [hfit]
      exact zipAll e fun j hj => y5 j (by rw [hs.len]; exact hj)
    · have : xs.length * 4 ^ n ≤ 3 * 4 ^ n := Nat.mul_le_mul_right _ (by rw [hs.len]; exact h3)
      have p2 : 4 ^ (n + 1) = 4 * 4 ^ n := by rw [Nat.pow_succ]; omega
      omega
theorem spH_len {n : Nat} {vs : List V} {H : Hp} {Q : VK} {E : XK} (h : spH n vs H Q E) : vs.length = 3 := by
  obtain ⟨_, _, _, _, _, _, rfl, _⟩ := h
  rfl
theorem ok_hol0 (D : Df K mg "_law_holes" s_law_holes) : DefOk P w K mg base CX0 2 "_law_holes" ["_law_shape", "_law_tree_here", "_law_text_here"] (spH 0) := by
  refine D.ok sc_law_holes (fun _ _ _ _ _ _ us hl => match us, hl with | [_, _, _], _ => rfl) (fun vs H Q E h => spH_len h) (fun f cdv A outer s H vs Q E hr h => ?_)
  obtain ⟨G, v1, v2, d1, d2, x, rfl, s, hd1, hd2, ⟨h0, _⟩, _⟩ := h
  exact absurd h0 (by decide)
theorem ok_holS (T : Txt P K mg CA CB CP fP) (D : Df K mg "_law_holes" s_law_holes) {n l : Nat} (hl3 : 2 ≤ l) (D_law_holes : DefOk P w K mg base CX0 l "_law_holes" ["_law_shape", "_law_tree_here", "_law_text_here"] (spH n)) (D_law_below : DefOk P w K mg base CX0 1 "_law_below" ["_law_tree_here"] (spO fLB)) :
    DefOk P w K mg base CX0 (l + 1) "_law_holes" ["_law_shape", "_law_tree_here", "_law_text_here"] (spH (n + 1)) := by
  refine D.ok sc_law_holes (fun _ _ _ _ _ _ us hl => match us, hl with | [_, _, _], _ => rfl) (fun vs H Q E h => spH_len h) (fun f cdv A outer s H vs Q E hr h => ?_)
  obtain ⟨G, v1, v2, d1, d2, x, rfl, s, hd1, hd2, ⟨h0, hok⟩, hn, hx, kN, kS⟩ := h
  rw [Nat.add_sub_cancel] at hok
  unfold fOk at hok
  rw [Bool.and_eq_true, Bool.or_eq_true_iff, Bool.or_eq_true_iff] at hok
  obtain ⟨hS, hT⟩ := hok
  obtain ⟨w1, r1, rfl, c1⟩ : ∃ (w1 : Str) (r1 : List PyData), d1 = .tuple (.str w1 :: r1) ∧ ((w1 = "store" ∧ ∃ x, r1 = [x] ∧ isTs n x = true) ∨ (w1 = "hole" ∧ r1 = []) ∨ (w1 = "load" ∧ r1 = []) ∨ (w1 = "op" ∧ ∃ (y : Str) (ts : List PyData), r1 = .str y :: ts ∧ ts.length ≤ 3 ∧ ∀ t ∈ ts, isTs n t = true)) := by
    rcases hS with h | h
    · rcases ts_cases h with (rfl | rfl) | ⟨x, ts, rfl, a, b⟩
      · exact ⟨_, _, rfl, .inr (.inl ⟨rfl, rfl⟩)⟩
      · exact ⟨_, _, rfl, .inr (.inr (.inl ⟨rfl, rfl⟩))⟩
      · exact ⟨_, _, rfl, .inr (.inr (.inr ⟨rfl, x, ts, rfl, a, b⟩))⟩
    · obtain ⟨x, rfl, hx⟩ := sS_cases h
      exact ⟨_, _, rfl, .inl ⟨rfl, x, rfl, hx⟩⟩
  obtain ⟨w2, r2, rfl, c2⟩ : ∃ (w2 : Str) (r2 : List PyData), d2 = .tuple (.str w2 :: r2) ∧ ((w2 = "store" ∧ ∃ a b c d x, r2 = [a, b, c, d, x] ∧ isTr n x = true) ∨ (w2 ≠ "store" ∧ ∃ (y : Str) (us : List PyData), r2 = .str y :: us ∧ (w2 = "op" → us.length ≤ 3 ∧ ∀ t ∈ us, isTr n t = true))) := by
    rcases hT with h | h
    · obtain ⟨w, x, ts, rfl, n1, _, n3⟩ := tr_cases h
      exact ⟨_, _, rfl, .inr ⟨n1, x, ts, rfl, n3⟩⟩
    · obtain ⟨a, b, c, d, x, rfl, hx⟩ := sT_cases h
      exact ⟨_, _, rfl, .inl ⟨rfl, a, b, c, d, x, rfl, hx⟩⟩
  refine ⟨_, (pss_cons (ps_if (pt_cmpR (op_eqS hr.units0) (pe_ix ix_tup (pv 0) pe_int (fun _ _ => rfl)) pe_str (nomark _))
 (pss_one (ps_ret (pe_ifExp (pt_cmpR (op_eqS hr.units0) (pe_ix ix_tup (pv 1) pe_int (fun _ _ => rfl)) pe_str (nomark _)) pe_non (pe_op op_rep (pe_lst (pa_cons (pv 2) pa_nil)) (pe_callTy call_int1 (by rfl) T.n_int (by decide +kernel) (pa_cons (pe_cmpR (op_neS hr.units0) (pe_ix ix_tup (pv 1) pe_int (fun _ _ => rfl)) pe_str (nomark _)) pa_nil))))))
 pss_nil)
 (pss_cons (ps_if (PW.pt (pw_or (pt_cmpR op_ne (pe_ix ix_tup (pv 0) pe_int (fun _ _ => rfl)) (pe_ix ix_tup (pv 1) pe_int (fun _ _ => rfl)) (nomark _)) (pw_or1 (PW.pt (pw_and (pt_cmpR (op_eqS hr.units0) (pe_ix ix_tup (pv 0) pe_int (fun _ _ => rfl)) pe_str (nomark _)) (pw_and1 (PW.pt (pw_or (pt_cmpR op_ne (pe_ix ix_tup (pv 0) pe_int (fun _ _ => rfl)) (pe_ix ix_tup (pv 1) pe_int (fun _ _ => rfl)) (nomark _)) (pw_or1 (pt_cmpR op_ne (pe_callB call_len_seq (by rfl) T.n_len (by decide +kernel) (pa_cons (pv 0) pa_nil)) (pe_callB call_len_seq (by rfl) T.n_len (by decide +kernel) (pa_cons (pv 1) pa_nil)) (nomark _)))))))))))
 (pss_one (ps_ret pe_non))
 pss_nil)
 (pss_cons (ps_set (i := 3) sc_law_holes.nd rfl (Or.inl rfl) (pe_lst pa_nil))
 (pss_cons (ps_set (i := 4) sc_law_holes.nd rfl (Or.inl rfl) (pe_ifExp (pt_cmpR (op_eqS hr.units0) (pe_ix ix_tup (pv 0) pe_int (fun _ _ => rfl)) pe_str (nomark _)) (pe_lst (pa_cons (pe_ix ix_tup (pv 0) pe_int (fun _ _ => rfl)) pa_nil)) (pe_callTy call_list_of (by rfl) T.n_list (by decide +kernel) (pa_cons (pe_slice sl_tupA (pv 0) (po_some pe_int) po_none) pa_nil))))
 (pss_cons (ps_for PassesOwn.never rfl (pi_enum (by rfl) T.n_enumerate (pa_cons (pv 4) pa_nil)) (pg_tup (by rfl) (pgs_cons (pg_name (i := 5) sc_law_holes.nd rfl (Or.inl rfl)) (pgs_cons (pg_name (i := 6) sc_law_holes.nd rfl (Or.inl rfl)) pgs_nil)))
 (pss_cons (ps_set (i := 7) sc_law_holes.nd rfl (Or.inl rfl) (pe_callD D_law_holes (hr.mono (by omega)) pass0 (pa_cons (pv 6) (pa_cons (pe_ix ix_list (pe_callD D_law_below (hr.mono (by omega)) pass0 (pa_cons (pv 1) pa_nil)) (pv 5) (fun _ _ => rfl)) (pa_cons (pe_op op_add_str (pe_op op_add_str (pv 2) pe_str) (pe_callTy call_str_int (by rfl) T.n_str (by decide +kernel) (pa_cons (pv 5) pa_nil))) pa_nil)))))
 (pss_cons (ps_if (pt_cmpR op_isN (pv 7) pe_non (nomark _))
 (pss_one (ps_ret pe_non))
 pss_nil)
 (pss_one (ps_set (i := 3) sc_law_holes.nd rfl (Or.inl rfl) (pe_op op_cat (pv 3) (pv 7)))))))
 (pss_one (ps_ret (pv 3)))))))), ?_⟩
  have i0 : EvD (tOp (rIxT K) (tVar 0) (tC (.int 0))) (start ["_law_shape", "_law_tree_here", "_law_text_here", "_law_found", "_law_inner", "_law_at", "_law_one_here", "_law_told_here"] [v1, v2, .str x]) G (.str w1) := evd_ixT (evd_var rfl hd1) ev_c (atI_nat (j := 0) rfl)
  have j0 : EvD (tOp (rIxT K) (tVar 1) (tC (.int 0))) (start ["_law_shape", "_law_tree_here", "_law_text_here", "_law_found", "_law_inner", "_law_at", "_law_one_here", "_law_told_here"] [v1, v2, .str x]) G (.str w2) := evd_ixT (evd_var rfl hd2) ev_c (atI_nat (j := 0) rfl)
  have e0 : ixD (.tuple (.str w1 :: r1)) 0 = .str w1 := rfl
  have e0' : ixD (.tuple (.str w2 :: r2)) 0 = .str w2 := rfl
  refine q_ifD s (et_test (ev_eqS i0 ev_c)) (fun hb H1 x1 => ?_) (fun hb H1 x1 => ?_)
  · -- a hole
    have hw : w1 = "hole" := by cases isS_eq hb; rfl
    subst hw
    have hf : fit (n + 1) (.tuple (.str "hole" :: r1)) (.tuple (.str w2 :: r2)) = !isS "store" (.str w2) := by
      rw [fit, e0, e0']
      cases c : isS "store" (.str w2) with
      | true =>
        rw [if_pos (by simp)]
        cases isS_eq c
        rw [decide_eq_false (by decide)]
        rfl
      | false => rw [if_neg (by decide), if_pos (by decide)]; rfl
    cases c : isS "store" (.str w2) with
    | true =>
      rw [c] at hf
      refine s_retD (d := .none) (s.trans x1) (evd_if (b := true) (et_is (et_test (ev_eqS j0 ev_c)) c) (fun _ => evd_non ev_c) (fun z => by cases z)) (fun v' G' H' r hd => ?_)
      cases hd.non_
      exact kN hf G' H' ((Gr.keep s x1).trans r)
    | false =>
      rw [c] at hf
      have rep : EvD (tIf (tTest (tOp rEqS (tOp (rIxT K) (tVar 1) (tC (.int 0))) (tC (.str "store")))) (tC V.non) (tOp rRep (tLst (tCons (tVar 2) tNil)) (tCB (fun xs H Q => (∃ i, xs = [V.int i] ∧ Q (.int i) H) ∨ ∃ k, xs = [V.bl k] ∧ Q (.int (if k then 1 else 0)) H) (tCons (tOp rNeS (tOp (rIxT K) (tVar 1) (tC (.int 0))) (tC (.str "at"))) tNil)))) (start ["_law_shape", "_law_tree_here", "_law_text_here", "_law_found", "_law_inner", "_law_at", "_law_one_here", "_law_told_here"] [v1, v2, .str x]) G (.list (List.replicate (Int.toNat (if (!isS "at" (.str w2)) then 1 else 0)) [.str x]).flatten) :=
        evd_if (b := false) (et_is (et_test (ev_eqS j0 ev_c)) c) (fun z => by cases z) (fun _ => evd_repL (evd_lst (evd_cons (evd_str (ev_var rfl) (by omega)) evd_nil) (by simp)) (ev_intB (ev_neS j0 ev_c)) (by split <;> decide) (by split <;> decide) (by simp))
      refine s_retD (s.trans x1) rep (fun v' G' H' r hd => kS hf v' _ G' H' ((Gr.keep s x1).trans r) hd ?_)
      have p1 : 1 ≤ 4 ^ (n + 1) := Nat.one_le_pow _ _ (by decide)
      refine Nat.le_trans ?_ p1
      split <;> simp
  have hb : w1 ≠ "hole" := fun z => by subst z; cases hb
  have s1 := s.trans x1
  dsimp only [tNext]
  by_cases hw : w1 = w2
  · subst hw
    rcases c1 with ⟨rfl, y, rfl, hy⟩ | ⟨rfl, _⟩ | ⟨rfl, rfl⟩ | ⟨rfl, y, ts, rfl, l3, hts⟩
    · -- a store
      rcases c2 with ⟨_, a, b, c, d, z, rfl, hz⟩ | ⟨c, _⟩
      · refine q_ifD s1 (et_is (et_or (et_is (et_test (ev_neSS (EvD.str_ i0) (EvD.str_ j0))) (b := false) (by decide)) fun _ => et_andF (et_is (et_test (ev_eqS i0 ev_c)) (b := false) (by decide))) (b := false) rfl) (fun z => by cases z) (fun _ H2 x2 => ?_)
        have kk := Gr.keep s (x1.trans x2)
        refine hol_loop (in1 := [y]) (bs := [z]) (s1.trans x2) hd2 hn hx (fun c G' H' r => kN c G' H' (kk.trans r)) (fun c v ds G' H' r => kS c v ds G' H' (kk.trans r)) (fun vf G' xg => evd_if (b := true) (et_is (et_test (ev_eqS (evd_ixT (evd_var rfl (hd1.up xg)) ev_c (atI_nat (j := 0) rfl)) ev_c)) (by decide)) (fun _ => evd_lst (evd_cons (evd_ixT (evd_var rfl (hd1.up xg)) ev_c (atI_nat (j := 1) rfl)) evd_nil) (by simp)) (fun z => by cases z)) rfl rfl (by simp) (fun j hj => ?_) ?_
        · have : j = 0 := by simp at hj; omega
          subst this
          cases n with
          | zero => cases hy
          | succ n => exact ⟨Nat.succ_pos _, by show fOk n y z = true; unfold fOk; rw [hy, hz]; rfl⟩
        · rw [fit, e0, e0', if_pos (by decide)]
          simp [ixD]
      · exact absurd rfl c
    · exact absurd rfl hb
    · -- a load
      refine q_ifD s1 (et_is (et_or (et_is (et_test (ev_neSS (EvD.str_ i0) (EvD.str_ j0))) (b := false) (by decide)) fun _ => et_andF (et_is (et_test (ev_eqS i0 ev_c)) (b := false) (by decide))) (b := false) rfl) (fun z => by cases z) (fun _ H2 x2 => ?_)
      have kk := Gr.keep s (x1.trans x2)
      refine hol_loop (in1 := []) (bs := []) (s1.trans x2) hd2 hn hx (fun c G' H' r => kN c G' H' (kk.trans r)) (fun c v ds G' H' r => kS c v ds G' H' (kk.trans r)) (fun vf G' xg => evd_if (b := false) (et_is (et_test (ev_eqS (evd_ixT (evd_var rfl (hd1.up xg)) ev_c (atI_nat (j := 0) rfl)) ev_c)) (by decide)) (fun z => by cases z) (fun _ => evd_listOf (EvD.is (evd_sl (evd_var rfl (hd1.up xg)) (EvO.some_ ev_c) EvO.none_) ?_))) rfl rfl (by simp) (fun j hj => absurd hj (by simp)) ?_
      · rw [show (2 : Int) = ((2 : Nat) : Int) from rfl, cutD_from]; rfl
      · rw [fit, e0, e0', if_neg (by decide), if_neg (by decide), if_neg (fun z => z rfl), if_pos (by decide)]
        rfl
    · -- an operator
      rcases c2 with ⟨z, _⟩ | ⟨_, y2, us, rfl, hus⟩
      · exact absurd z (by decide)
      obtain ⟨m3, hus⟩ := hus rfl
      have i1 : EvD (tOp (rIxT K) (tVar 0) (tC (.int 1))) (start ["_law_shape", "_law_tree_here", "_law_text_here", "_law_found", "_law_inner", "_law_at", "_law_one_here", "_law_told_here"] [v1, v2, .str x]) G (.str y) := evd_ixT (evd_var rfl hd1) ev_c (atI_nat (j := 1) rfl)
      have j1 : EvD (tOp (rIxT K) (tVar 1) (tC (.int 1))) (start ["_law_shape", "_law_tree_here", "_law_text_here", "_law_found", "_law_inner", "_law_at", "_law_one_here", "_law_told_here"] [v1, v2, .str x]) G (.str y2) := evd_ixT (evd_var rfl hd2) ev_c (atI_nat (j := 1) rfl)
      have hfit : fit (n + 1) (.tuple (.str "op" :: .str y :: ts)) (.tuple (.str "op" :: .str y2 :: us)) = if y ≠ y2 ∨ ts.length ≠ us.length then false else ((ts.zip us).all fun p => fit n p.1 p.2) := by
        rw [fit, e0, e0', if_neg (by decide), if_neg (by decide), if_neg (fun z => z rfl), if_neg (by decide)]
        have a1 : (strOf (ixD (.tuple (.str "op" :: .str y :: ts)) 1) ≠ strOf (ixD (.tuple (.str "op" :: .str y2 :: us)) 1) ∨ lenD (.tuple (.str "op" :: .str y :: ts)) ≠ lenD (.tuple (.str "op" :: .str y2 :: us))) ↔ (y ≠ y2 ∨ ts.length ≠ us.length) := by
          show (y ≠ y2 ∨ ts.length + 1 + 1 ≠ us.length + 1 + 1) ↔ _
          constructor <;> (rintro (z | z); exact .inl z; exact .inr (by omega))
        by_cases z : y ≠ y2 ∨ ts.length ≠ us.length
        · rw [if_pos z, if_pos (a1.mpr z)]
        · rw [if_neg z, if_neg (fun q => z (a1.mp q))]
          rfl
      refine q_ifD s1 (et_is (et_or (et_is (et_test (ev_neSS (EvD.str_ i0) (EvD.str_ j0))) (b := false) (by decide)) fun _ => et_and (et_is (et_test (ev_eqS i0 ev_c)) (b := true) (by decide)) fun _ => et_or (et_test (ev_neSS (EvD.str_ i1) (EvD.str_ j1))) fun _ => et_test (ev_neI (ev_lenT (evd_var rfl hd1)) (ev_lenT (evd_var rfl hd2)))) (b := decide (y ≠ y2 ∨ ts.length ≠ us.length)) ?_) (fun c H2 x2 => ?_) (fun c H2 x2 => ?_)
      · by_cases z1 : y = y2 <;> by_cases z2 : ts.length = us.length <;> simp [z1, z2] <;> omega
      · have c := of_decide_eq_true c
        rw [if_pos c] at hfit
        exact kN hfit G _ (Gr.keep s (x1.trans x2))
      · have c := of_decide_eq_false c
        rw [if_neg c] at hfit
        have hlen : ts.length = us.length := by
          by_cases z : ts.length = us.length
          · exact z
          · exact absurd (.inr z) c
        have kk := Gr.keep s (x1.trans x2)
        refine hol_loop (in1 := ts) (bs := us) (s1.trans x2) hd2 hn hx (fun c G' H' r => kN c G' H' (kk.trans r)) (fun c v ds G' H' r => kS c v ds G' H' (kk.trans r)) (fun vf G' xg => evd_if (b := false) (et_is (et_test (ev_eqS (evd_ixT (evd_var rfl (hd1.up xg)) ev_c (atI_nat (j := 0) rfl)) ev_c)) (by decide)) (fun z => by cases z) (fun _ => evd_listOf (EvD.is (evd_sl (evd_var rfl (hd1.up xg)) (EvO.some_ ev_c) EvO.none_) ?_))) rfl hlen l3 (fun j hj => ?_) hfit
        · rw [show (2 : Int) = ((2 : Nat) : Int) from rfl, cutD_from]; rfl
        · have g1 := hts (ts.getD j .none) (by rw [List.getD_eq_getElem?_getD, List.getElem?_eq_getElem hj]; exact List.getElem_mem _)
          have g2 := hus (us.getD j .none) (by rw [List.getD_eq_getElem?_getD, List.getElem?_eq_getElem (by omega)]; exact List.getElem_mem _)
          cases n with
          | zero => cases g1
          | succ n => exact ⟨Nat.succ_pos _, by rw [Nat.add_sub_cancel]; unfold fOk; rw [g1, g2]; rfl⟩
  · -- other words
    refine q_ifD s1 (et_orT (et_is (et_test (ev_neSS (EvD.str_ i0) (EvD.str_ j0))) (b := true) (by simp [hw]))) (fun _ H2 x2 => ?_) (fun z => by cases z)
    refine kN ?_ G _ (Gr.keep s (x1.trans x2))
    rw [fit, e0, e0']
    split
    · rw [show decide (strOf (.str w1) = strOf (.str w2)) = false from decide_eq_false hw]; rfl
    · rw [if_neg (fun z => hb (by cases isS_eq z; rfl)), if_pos (show strOf (.str w1) ≠ strOf (.str w2) from hw)]
end
end My
set_option maxHeartbeats 4000000
/-! The end of a law with one table of code objects (a def with lambdas), where no repr is under way. law_callT1 follows the library's law_callTs, for one table and with the premise of LfGuard. -/
namespace LfT
open PySem PySem.Spec PyProof.Rows L2 LamX
/-- what may be tracked at the law's own call: the script and the table -/
def H0 (a T : Addr) (o : Obj) (xs : List V) : Hp := fun b => if b = T then some (.tbl #[]) else if b = a then some (.frz o (.lst xs)) else none
section
variable {P : Program} {w : World} {K : PySem.W.Frag} {mg mb : Str → Option Value} {CX : CXT} {k : Nat} {fa a c T : Addr} {fd : FuncData} {x : Str} {sp : Sp} {s₁ : Shared} {vs : List Value} {ns : List Int}
theorem law_core {H : Hp} (KX : K.In s₁.heap) (hns : s₁.heap.Ns mainGlobals mg) (hb : s₁.heap.Ns builtinsNs mb) (hbb : ∀ x : Str, x ≠ "__name__" → mb x = bootBuiltins x) (hlim : s₁.heap.NoLimit) (hg : s₁.gens = #[])
    (hT : s₁.heap.get? T = some { cls := .none, data := .fields #[] }) (nT : K.lookup T = none) (C : PySem.W.CodeHd s₁.heap c T)
    (hbm : ∃ (bm : Addr) (ob : Obj), mg "__builtins__" = some (.ref bm) ∧ bm ≠ builtinsNs ∧ s₁.heap.get? bm = some ob ∧ ob.cls = .type "module" ∧ ob.dict = some builtinsNs ∧ ob.data = .plain)
    (ha : s₁.heap.get? a = some { cls := .type "list", data := .seq vs.toArray }) (hr : Room k callerA)
    (F : ∀ base : Heap, K.In base → base.Ns mainGlobals mg → TabB base mg c T → FnOkG P w K mg base CX k fa fd [x] sp) (hbind : ∀ (s : Shared) (u : Value), BindsTo s fd ⟨[u], []⟩ [(x, u)])
    (hsp : sp [.ref a] H (fun v _ => v = .bl true) fun _ _ _ => False) (hCX : ∀ H e s', CX [] H s₁ (fun _ _ _ => False) e s' → False)
    (hH : H T = some (.tbl #[])) (hO : ∀ b u, H b = some u → b = T ∨ (b = a ∧ K.lookup a = none ∧ ∃ o xs, u = .frz o (.lst xs))) (hok : HOk P w H s₁.heap) :
    codeAny (model P w) callerA (.call (.ref fa) ⟨[.ref a], []⟩) (fun r s' => r = .ok (.ret (.bool true)) ∧ OldK s₁.heap s'.heap ∧ s'.os = s₁.os ∧ AllBare s'.gens) s₁ := by
  have free : ∀ {b : Addr} {o : Obj}, s₁.heap.get? b = some o → (∀ us n, o.data ≠ .seq us n) → o.data ≠ .fields #[] → H b = none := fun {b o} e n1 n2 => by
    cases q : H b with
    | none => rfl
    | some u =>
      rcases hO b u q with z | ⟨z, _⟩
      · rw [z, hT] at e; cases e; exact (n2 rfl).elim
      · rw [z, ha] at e; cases e; exact (n1 _ _ rfl).elim
  have put : ∀ {b : Addr} {o : Obj}, s₁.heap.get? b = some o → H b = none → (hidT s₁.heap H).get? b = some o := fun e n => hidT_get e n
  have nsK : ∀ {b : Addr} {m : Str → Option Value}, s₁.heap.Ns b m → (hidT s₁.heap H).Ns b m := fun {b m} ⟨o, es, ep, e, d, r⟩ =>
    ⟨o, es, ep, put e (free e (fun us n z => by rw [d] at z; cases z) fun z => by rw [d] at z; cases z), d, r⟩
  have inB : K.In (hidT s₁.heap H) := fun b o e => put (KX b o e) (by
    cases q : H b with
    | none => rfl
    | some u =>
      rcases hO b u q with z | ⟨z, z2, _⟩
      · rw [z, nT] at e; cases e
      · rw [z, z2] at e; cases e)
  have TB : TabB (hidT s₁.heap H) mg c T := by
    refine ⟨?_, ?_, fun z => ?_⟩
    · obtain ⟨o, us, f, tf, fl, tg, inF, tx, tt, e1, r1, r2, r3, r4⟩ := C
      exact ⟨o, us, f, tf, fl, tg, inF, tx, tt, put e1 (free e1 (fun us n z => by rw [r2] at z; cases z) fun z => by rw [r2] at z; cases z; simp at r3), r1, r2, r3, r4⟩
    · obtain ⟨bm, ob, b1, b2, b3, b4, b5, b6⟩ := hbm
      refine ⟨bm, ob, b1, b2, fun q => ?_, fun q => ?_, put b3 (free b3 (fun us n z => by rw [b6] at z; cases z) fun z => by rw [b6] at z; cases z), b4, b5, b6⟩
      · obtain ⟨o, es, ep, e, hd, _⟩ := hns
        rw [q, e] at b3; cases b3; rw [hd] at b6; cases b6
      · rw [q, hT] at b3; cases b3; cases b6
    · obtain ⟨o, es, ep, e, hd, _⟩ := hns
      rw [z, hT] at e; cases e; cases hd
  have md : L2.Mod K mg (hidT s₁.heap H) := ⟨inB, nsK hns, ⟨mb, nsK hb, hbb⟩, let ⟨mc, h1, h2⟩ := hlim; ⟨mc, nsK h1, h2⟩⟩
  have e0 : Env0 P w K mg (hidT s₁.heap H) callerA [] s₁ H := ⟨rfl, md, fun b o e => of_hidT e, Nat.le_of_eq (hidT_size _ _), trivial, fun b z => absurd (show b ∈ ([] : List Addr) from z) (by simp), hok, .of_eq hg⟩
  refine codeAny_mono ((F _ inB (nsK hns) TB).run callerA [] s₁ H ⟨[.ref a], []⟩ [.ref a] [.ref a] _ _ rfl hr e0 (hbind s₁ (.ref a)) (.cons rfl .nil) hsp) fun r s' z => ?_
  cases r with
  | error e => exact (hCX H e s' z).elim
  | ok fl =>
    cases fl with
    | next => exact False.elim z
    | brk => exact False.elim z
    | cont => exact False.elim z
    | ret u =>
      obtain ⟨v, H', os, bare, un, hok', r', q⟩ := z
      obtain rfl : v = .bl true := q
      obtain rfl : u = Value.bool true := r'
      have same : ∀ b o, b ≠ T → s₁.heap.get? b = some o → s'.heap.get? b = some o := fun b o nb e => by
        cases q : H b with
        | none => exact un.keep b o e q (by intro z; exact absurd (show b ∈ ([] : List Addr) from z) (by simp)) (by simp)
        | some u =>
          rcases hO b u q with z | ⟨_, _, ob, xs, rfl⟩
          · exact absurd z nb
          · obtain ⟨e1, _⟩ := hok b _ q
            obtain ⟨e2, _⟩ := hok' b _ (un.frzs b ob _ q)
            rw [e] at e1; cases e1
            exact e2
      obtain ⟨more, hm⟩ : ∃ more : Array Value, s'.heap.get? T = some { cls := .none, data := .fields more } := by
        obtain ⟨more, z⟩ := un.tbls T #[] hH
        exact ⟨_, hok' T _ z⟩
      refine ⟨rfl, ⟨fun b o e => ?_, fun b o e => ?_⟩, os, bare⟩
      · by_cases nb : b = T
        · subst nb
          rw [hT] at e; cases e
          exact .inr (.inl ⟨(C.tab hT).isCodeTable, rfl, #[], more, rfl, by rw [Array.empty_append]; exact hm⟩)
        · exact .inl (same b o nb e)
      · by_cases nb : b = T
        · subst nb
          exact ⟨_, hm⟩
        · exact ⟨o, same b o nb e⟩
theorem law_callT1 (KX : K.In s₁.heap) (hns : s₁.heap.Ns mainGlobals mg) (hb : s₁.heap.Ns builtinsNs mb) (hbb : ∀ x : Str, x ≠ "__name__" → mb x = bootBuiltins x) (hlim : s₁.heap.NoLimit) (hg : s₁.gens = #[])
    (hT : s₁.heap.get? T = some { cls := .none, data := .fields #[] }) (nT : K.lookup T = none) (C : PySem.W.CodeHd s₁.heap c T)
    (hbm : ∃ (bm : Addr) (ob : Obj), mg "__builtins__" = some (.ref bm) ∧ bm ≠ builtinsNs ∧ s₁.heap.get? bm = some ob ∧ ob.cls = .type "module" ∧ ob.dict = some builtinsNs ∧ ob.data = .plain)
    (ha : s₁.heap.get? a = some { cls := .type "list", data := .seq vs.toArray }) (hi : IntsAre vs ns) (hl : ns.length ≤ sizeLine) (hr : Room k callerA)
    (F : ∀ base : Heap, K.In base → base.Ns mainGlobals mg → TabB base mg c T → FnOkG P w K mg base CX k fa fd [x] sp) (hbind : ∀ (s : Shared) (u : Value), BindsTo s fd ⟨[u], []⟩ [(x, u)])
    (hsp : ∀ H : Hp, H T = some (.tbl #[]) → SqL K H a (ns.map V.int) → sp [.ref a] H (fun v _ => v = .bl true) fun _ _ _ => False) (hCX : ∀ H e s', CX [] H s₁ (fun _ _ _ => False) e s' → False) :
    codeAny (model P w) callerA (.call (.ref fa) ⟨[.ref a], []⟩) (fun r s' => r = .ok (.ret (.bool true)) ∧ OldK s₁.heap s'.heap ∧ s'.os = s₁.os ∧ AllBare s'.gens) s₁ := by
  have rv := vals_ints hi
  have lenV := hi.length
  have ne : a ≠ T := fun z => by
    rw [z, hT] at ha
    have q : Data.fields #[] = Data.seq vs.toArray _ := congrArg Obj.data (Option.some.inj ha)
    cases q
  cases hk : K.lookup a with
  | some o =>
    have e := KX a o hk
    rw [ha] at e
    cases e
    refine law_core (H := fun b => if b = T then some (.tbl #[]) else none) KX hns hb hbb hlim hg hT nT C hbm ha hr F hbind (hsp _ (if_pos rfl) (.inr ⟨_, vs.toArray, _, hk, rfl, rfl, rfl, by rw [List.size_toArray, lenV]; exact hl, by simpa using rv⟩)) hCX (if_pos rfl) (fun b u z => ?_) (fun b u z => ?_)
    · by_cases q : b = T
      · exact .inl q
      · have z' := (if_neg q).symm.trans z
        cases z'
    · by_cases q : b = T
      · have z' := (if_pos q).symm.trans z
        cases z'
        subst q
        exact hT
      · have z' := (if_neg q).symm.trans z
        cases z'
  | none =>
    refine law_core (H := H0 a T { cls := .type "list", data := .seq vs.toArray } (ns.map V.int)) KX hns hb hbb hlim hg hT nT C hbm ha hr F hbind (hsp _ (if_pos rfl) (.inl (.inr ⟨_, (if_neg ne).trans (if_pos rfl)⟩))) hCX (if_pos rfl) (fun b u z => ?_) (fun b u z => ?_)
    · by_cases q : b = T
      · exact .inl q
      · have z1 := (if_neg q).symm.trans z
        by_cases q2 : b = a
        · have z' := (if_pos q2).symm.trans z1
          cases z'
          exact .inr ⟨q2, hk, _, _, rfl⟩
        · have z' := (if_neg q2).symm.trans z1
          cases z'
    · by_cases q : b = T
      · have z' := (if_pos q).symm.trans z
        cases z'
        subst q
        exact hT
      · have z1 := (if_neg q).symm.trans z
        by_cases q2 : b = a
        · have z' := (if_pos q2).symm.trans z1
          cases z'
          subst q2
          exact ⟨ha, by rw [List.length_map]; exact hl, vs, _, rv, ha⟩
        · have z' := (if_neg q2).symm.trans z1
          cases z'
end
/-- the walk: the def y of the text has the lambdas -/
theorem walk_ofT1 {l : PySem.W.OpenLaw} {n k : Nat} {q : Program} {loose : List Str} {XP : (Str → Option Value) → Heap → Prop} {YP : World → Heap → Prop} {d : DefRec} {K : Params → PySem.W.Frag} {CX : CXT} {sp : PySem.W.Frag → Addr → Sp} {x y : Str} {dy : DefRec}
    (hn : l.most = some n) (hn2 : n ≤ sizeLine) (hdf : d.params.defaults = []) (hr : Room k callerA) (hrec : (recsOf q).find? (fun e => e.name == y) = some dy)
    (hY : ∀ (w : World) (h : Heap), YP w h → (K w.params).In h)
    (F : ∀ (w : World) (mg : Str → Option Value) (fa : Addr) (h : Heap), (K w.params).In h → h.Ns mainGlobals mg → mg d.name = some (.ref fa) →
      ∃ (fd : FuncData) (c T : Addr), PySem.W.tabIn (K w.params) y = some (c, T) ∧ (K w.params).lookup T = none ∧ (∀ (s : Shared) (u : Value), BindsTo s fd ⟨[u], []⟩ [(x, u)]) ∧
        ∀ base : Heap, (K w.params).In base → base.Ns mainGlobals mg → TabB base mg c T → FnOkG l.prog w (K w.params) mg base CX k fa fd [x] (sp (K w.params) T))
    (hsp : ∀ (K : PySem.W.Frag) (H : Hp) (a T : Addr) (ns : List Int), ns.length ≤ n → H T = some (.tbl #[]) → SqL K H a (ns.map V.int) → sp K T [.ref a] H (fun v _ => v = .bl true) fun _ _ _ => False)
    (hCX : ∀ (H : Hp) (s : Shared) (e : Value) (s' : Shared), CX [] H s (fun _ _ _ => False) e s' → False) :
    PySem.W.WalkO q loose XP YP l.row.toRowW d [] (fun f vs => PySem.call f vs) := by
  refine Att.attach_call hn hdf fun w s₀ s₁ mg mb fa o pm cd doc a vs ns G Y ho hd hcd hmg hobj hints hlen hg => ?_
  have KX := hY w _ Y
  obtain ⟨fd, c, T, ht, nT, hb, hF⟩ := F w mg fa _ KX G.T.g hmg
  obtain ⟨C, hT⟩ := PySem.W.tab_of G.T KX hrec ht
  exact law_callT1 KX G.T.g G.T.b G.T.builtins G.T.nolimit hg hT nT C G.T.bmain hobj hints (Nat.le_trans hlen hn2) hr hF hb (fun H hH hS => hsp (K w.params) H a T ns hlen hH hS) fun H e s' => hCX H s₁ e s'
end LfT
set_option maxHeartbeats 4000000
/-! x(lambda: e) where x is «def x(a): try: return a() / except E: return 'text'», with few premises; a def whose code object is known -/
namespace LfT
open PySem PySem.Spec PyProof.Rows L2 LamX
def DfC (K : PySem.W.Frag) (mg : Str → Option Value) (x : Str) (st : Stmt) (c : Addr) : Prop := ∃ f fd, Fun K x x st f fd ∧ mg x = some (.ref f) ∧ fd.code = .ref c
section
variable {P : Program} {w : World} {K : PySem.W.Frag} {mg : Str → Option Value} {base : Heap}
theorem DfC.okG {x : Str} {st : Stmt} {c : Addr} {N ps : List Str} {k : Nat} {sp : Sp} (D : DfC K mg x st c) (S : FnScope N ps (defScope st))
    (bd : ∀ (kV doc pm : Value) (an : Option Addr) (cdv ct : Value) (us : List Value), us.length = ps.length → bindArgs (PySem.W.fnOf x x (defArgs st) (defBody st) (defScope st) .none kV doc pm an cdv ct) ⟨us, []⟩ = pure (ps.zip us))
    (len : ∀ vs H Q E, sp vs H Q E → vs.length = ps.length)
    (hbody : ∀ (f : Addr) (A : Around) (outer : List Env) (s : Shared) (H : Hp) (vs : List V) (Q : VK) (E : XK), (A.deeper (envOfC x (defScope st) s.heap.objs.size f (.ref c))).guards = some [] → Room k (A.deeper (envOfC x (defScope st) s.heap.objs.size f (.ref c))) → sp vs H Q E →
      ∃ t, PSs (cxOf CX0 P w K mg base N x (defScope st) f (.ref c) A outer s H E).nox (defBody st) t ∧ t { nx := fun _ H' => Q .non H', rt := Q } (start N vs) H) : DefOkG P w K mg base CX0 (k + 1) x ps sp := by
  obtain ⟨f, fd, F, hm, hc⟩ := D
  refine ⟨f, fd, hm, F.kp, F.binds bd, ?_⟩
  obtain ⟨oc, od, kV, doc, pm, an, cdv, ct, osl, rfl, lk, hcd⟩ := F.ex
  obtain rfl : cdv = .ref c := hc
  refine fn_ofG lk hcd S len fun A outer s H vs Q E hg hr hsp => ?_
  obtain ⟨t, h, q⟩ := hbody f A outer s H vs Q E hg hr hsp
  exact ⟨t, h.nox, q⟩
end
section
variable {X : Cx}
theorem pe_told {x a e ret : Str} {st : Stmt} {Ng : List Str} {j : Nat} {p1 p2 p3 p4 p5 p6 p7 p8 p lpos pos : Pos} {c P CS : Addr} {k : Nat} {params : Arguments} {body : Expr} {scope : Scope} {t : XK → TE} (D : Df X.K X.mg x st)
    (hst : defBody st = [.Try [.Return (some (.Call (.Name a p1) [] [] p2)) p3] [.ExceptHandler (some (.Name e p4)) none [.Return (some (.Constant (.str ret) j p5)) p6] p7] [] [] p8])
    (Sg : FnScope Ng [a] (defScope st)) (hNg : Ng[0]? = some a) (hva : Vis (defScope st) a)
    (bd : ∀ (kV doc pm : Value) (an : Option Addr) (cdv ct : Value) (us : List Value), us.length = [a].length → bindArgs (PySem.W.fnOf x x (defArgs st) (defBody st) (defScope st) .none kV doc pm an cdv ct) ⟨us, []⟩ = pure ([a].zip us))
    (hge : (defScope st).names.lookup e = some .globalImplicit) (hme : X.mg e = some (.ref CS)) (h0 : ∀ f : Addr, (L2.start Ng [V.ref f])[0]? = some (some (V.ref f)))
    (TB : TabB X.base X.mg c P) (hcode : X.env.code = .ref c) (hg : Gl X x) (hr : Room (k + 2) X.A) (L : LamS X.env.scope scope) (hdef : defaultsOf params X.env = ([], []))
    (hbind : ∀ (q : Str) (cl : List (Str × Addr)) (pm cv ctv : Value), bindArgs (PySem.W.kla_fn "<lambda>" q params body scope cl pm cv ctv) ⟨[], []⟩ = pure [])
    (hbody : ∀ (A : Around) (outer : List Env) (s : Shared) (H : Hp) (E : XK) (f c' : Addr), Room k (A.deeper (lamEnv X scope s.heap.objs.size f c')) → PE (lamCx X A outer s H E scope f c') body (t E))
    (hde : (e == ("__debug__" : Str)) = false := by decide) (hdb : (x == ("__debug__" : Str)) = false := by decide) (hd : (a == ("__debug__" : Str)) = false := by decide) (hcd : (a == ("__classdict__" : Str)) = false := by decide) :
    PE X (.Call (.Name x p) [.Lambda params body scope lpos] [] pos) (tLam [(P, X.env.qual ++ "<lambda>")] (TTold X.K CS ret) t) := by
  obtain ⟨g, fd, F, hm⟩ := D
  have hb := F.binds bd
  obtain ⟨oc, od, kV, doc, pm, an, cdv, ct, osl, rfl, lk, hcg⟩ := F.ex
  refine pe_lamcall hg hm F.kp lk hcg hb Sg hNg hva ?_ TB hcode (by simp) (fun p hp _ => by cases List.mem_singleton.mp hp; rfl) hr L hdef hbind hbody hdb hd hcd
  rw [hst]
  exact told_gives hge hme hde h0
end
end LfT
set_option maxHeartbeats 4000000
/-! try: body / except A as n: .. / except B: .. : several clauses, with names or without (LfTry, and clauses without a name) -/
namespace L2
open PySem PySem.Spec PyProof.Rows
/-- the ends of a suite, with or without a name -/
def sufEndsM : Option Nat → Ends → Ends
  | none, D => D
  | some i, D => sufEnds i D
/-- what the clauses wish of an exception of the body, one behind the other: its class, the name's slot, the suite -/
def wMix (K : PySem.W.Frag) (Wout : WX) (D : Ends) : List (Value × Option Nat × (Addr → Value → Option Addr → TS)) → WX
  | [] => Wout
  | (c, i, ts) :: r => fun cls d σ H => ∃ b, PySem.W.exmOne K cls c = some b ∧ (b = true → ∀ a, H a = none → ts a cls d (sufEndsM i D) (match i with | none => σ | some i => σ.set i (some (.ref a))) H) ∧ (b = false → wMix K Wout D r cls d σ H)
inductive HdM (X : Cx) : List ExceptHandler → List (Value × Option Nat × (Addr → Value → Option Addr → TS)) → Prop
  | nil : HdM X [] []
  | cons {x n : Str} {c : Value} {i : Nat} {ts : Addr → Value → Option Addr → TS} {b₀ : Stmt} {suite : List Stmt} {np pos' : Pos} {hds : List ExceptHandler} {l : List (Value × Option Nat × (Addr → Value → Option Addr → TS))}
      (hi : X.N[i]? = some n) (hln : X.env.kindOf n = some .local) (hc : Names X x c)
      (hsu : ∀ (a : Addr) (oe : Obj) (cls : Value) (d : Option Addr) (pn : List (Addr × Obj)), Zc cls d oe → (∃ vs, oe.data = .fields vs) → PSs (X.suite a ((a, oe) :: pn)) (b₀ :: suite) (ts a cls d)) (r : HdM X hds l) :
      HdM X (.ExceptHandler (some (.Name x np)) (some n) (b₀ :: suite) pos' :: hds) ((c, some i, ts) :: l)
  | plain {x : Str} {c : Value} {ts : Addr → Value → Option Addr → TS} {b₀ : Stmt} {suite : List Stmt} {np pos' : Pos} {hds : List ExceptHandler} {l : List (Value × Option Nat × (Addr → Value → Option Addr → TS))} (hc : Names X x c)
      (hsu : ∀ (a : Addr) (oe : Obj) (cls : Value) (d : Option Addr) (pn : List (Addr × Obj)), Zc cls d oe → (∃ vs, oe.data = .fields vs) → PSs (X.suite a ((a, oe) :: pn)) (b₀ :: suite) (ts a cls d)) (r : HdM X hds l) :
      HdM X (.ExceptHandler (some (.Name x np)) none (b₀ :: suite) pos' :: hds) ((c, none, ts) :: l)
section
variable {X : Cx} {body : List Stmt} {h₀ : ExceptHandler} {hds : List ExceptHandler} {l : List (Value × Option Nat × (Addr → Value → Option Addr → TS))} {pos : Pos} {tb : WX → TS} {Wout : WX}
theorem ps_tryMix (hs : X.stack = X.env :: X.outer) (hf : X.env.frame = some X.env.locals) (hN : X.N.Nodup) (tk : Takes X Wout)
    (hb : ∀ (W : WX) (pn : List (Addr × Obj)) (xe : Value → Shared → Prop), Takes (X.tr pn xe) W → PassesOwn (model X.prog X.w) X.A X.env xe → PSs (X.tr pn xe) body (tb W))
    (hh : HdM X (h₀ :: hds) l) : PS X (.Try body (h₀ :: hds) [] [] pos) (fun D σ H => tb (wMix X.K Wout D l) D σ H) := by
  refine ⟨fun pins s σ H D I h => ?_⟩
  have ok := I.ok
  have hfr : X.A.frames = some (X.env :: X.outer) := by rw [ok.frames, hs]
  refine wpAny_Try_except ?_
  refine wpAny_mono ((hb (wMix X.K Wout D l) (X.pn ++ pins) (fun e s₁ => wpAny (model X.prog X.w) X.A (noteFrame e X.env) (fun _ s₂ => wpAny (model X.prog X.w) X.A (setFlight e none) (fun _ s₃ =>
    wpAny (model X.prog X.w) X.A (handleBy e X.env (h₀ :: hds)) (SP X pins D) X.xe s₃) X.xe s₂) X.xe s₁) (fun u s' xx => ?_) PassesOwn.looking).run [] s σ H D (I.toTry _) h) (fun f s1 hsp => ?_) (fun e s1 he => he)
  · obtain ⟨a, B, sI, pins', σ', H', cls, d, rfl, J', nb, up, sky, na, os, ag, w⟩ := xx
    have J : Inv X pins σ' H' sI := J'.ofTry ok
    have sky' : Sky B (X.env :: X.outer) a (Zc cls d) X.env.locals s'.heap := by rw [← hs]; exact sky
    show wpAny (model X.prog X.w) X.A (noteFrame (.ref a) X.env) _ _ _
    refine Sky.land Zc.steady hfr hf sky' fun h3 fl3 up3 => ?_
    have J3 : Inv X pins σ' H' { s' with heap := h3 } := J.landed nb fl3.1 (up.trans up3) os ag
    obtain ⟨oe3, vs3, he3, hz3, hd3⟩ := fl3.there
    have nfr : a ∉ frs (X.env :: X.outer) := fun hm => by
      obtain ⟨_, o', e', hnf⟩ := fl3.2.2.1.mem hm
      rw [he3] at e'; cases e'
      exact hnf _ hd3
    have nL : a ≠ X.env.locals := fun z => nfr (List.mem_filterMap.mpr ⟨X.env, List.mem_cons_self, by rw [hf, z]⟩)
    have nF : a ∉ X.fs := fun hm => by
      obtain ⟨e, he, q⟩ := List.mem_filterMap.mp hm
      exact nfr (List.mem_filterMap.mpr ⟨e, List.mem_cons_of_mem _ he, q⟩)
    have S3 := J3.suite he3 hd3 na nL nF
    have go : ∀ {hds' : List ExceptHandler} {l' : List (Value × Option Nat × (Addr → Value → Option Addr → TS))}, HdM X hds' l' → wMix X.K Wout D l' cls d σ' H' →
        wpAny (model X.prog X.w) X.A (handleBy (.ref a) X.env hds') (SP X pins D) X.xe { s' with heap := h3 } := by
      intro hds' l' hk
      induction hk with
      | nil =>
        intro w
        refine wpAny_handleBy_nil ?_
        obtain ⟨k1, k2, k3, oe, vs, T, oT, ts', he, hz, hd, h1, hr⟩ := id fl3
        unfold PySem.passOn
        refine wpAny_bind (wpAny_field he hd h1 ?_)
        rw [if_neg (show ¬ ((Value.ref T == Value.none) = true) from by simp)]
        have fin : wpAny (model X.prog X.w) X.A (setFlight (.ref a) X.env.frame) (fun _ s4 => wpAny (model X.prog X.w) X.A (throw (.ref a) : Sem Flow) (SP X pins D) X.xe s4) X.xe { s' with heap := h3 } := by
          rw [hf]
          refine HandSPX.setFlight_upZ fl3 fun h4 hh4 up4 => wpAny_throw (tk _ _ ?_)
          exact ⟨a, B, sI, pins, σ', H', cls, d, rfl, J, nb, (up.trans up3).trans up4, .inr (.inr (by rw [hs]; exact hh4)), na, os, ag, w⟩
        first
          | exact wpAny_bind (wpAny_pure (wpAny_bind fin))
          | exact wpAny_bind fin
      | @cons x n c i ts b₀ suite np pos' hds2 l2 hi hln hc hsu r ih =>
        intro w
        obtain ⟨b, hb1, hyes, hno⟩ := w
        have hloc : Loc X.env.scope n := .inl hln
        refine wpAny_handleBy_cons (codeAny_handlers_test ?_) (by intro q; cases q)
        have LT : PySem.W.Looks (model X.prog X.w) h3 (typeOf (.ref a)) cls := fun A Q E s k q => wpAny_typeOf_ref (k _ _ he3) (by rw [hz3.1]; exact q)
        have LM := PySem.W.exm_one (M := model X.prog X.w) (J3.kIn) LT hb1
        have test : ∀ {Q : Value → Shared → Prop} {E : Value → Shared → Prop}, Q c { s' with heap := h3 } → wpAny (model X.prog X.w) (X.A.mark (some (.ref a))) (eval (.Name x np) X.env) Q E { s' with heap := h3 } := fun {Q E} q => by
          obtain ⟨hg, hdbg, hm | ⟨hm, hv, hnn⟩⟩ := hc
          · exact ld_glob (X := X.suite a ((a, oe3) :: (X.pn ++ pins))) S3 hg hm q hdbg
          · exact ld_blt (X := X.suite a ((a, oe3) :: (X.pn ++ pins))) S3 hg hm hv q hnn hdbg
        refine test (LM.here ?_)
        cases b with
        | true =>
          refine codeAny_handlers_suite_as ?_
          refine HandSPX.lands_againZ fl3 fun h4 fl4 up4 => ?_
          have J4 : Inv X pins σ' H' { s' with heap := h4 } := J.landed nb fl4.1 ((up.trans up3).trans up4) os ag
          obtain ⟨oe4, vs4, he4, hz4, hd4⟩ := fl4.there
          have S4 := J4.suite he4 hd4 na nL nF
          refine store_ok (X := X.suite a ((a, oe4) :: (X.pn ++ pins))) (v := .ref a) S4 hN hi hloc rfl (fun s5 S5 => ?_) (.inr hln)
          refine wpAny_mono ((hsu a oe4 cls d (X.pn ++ pins) hz4 ⟨_, hd4⟩).run [] s5 _ H' _ S5 (hyes rfl a na)) (fun f s6 hsp => ?_) (fun _ _ z => False.elim z)
          have end_ : ∀ {σ6 : St} {H6 : Hp} {Q : Shared → Prop}, Inv (X.suite a ((a, oe4) :: (X.pn ++ pins))) [] σ6 H6 s6 → (∀ s7, Inv X pins (σ6.set i none) H6 s7 → Q s7) →
              wpAny (model X.prog X.w) X.A (do bindName X.env n .none; unbindBehindTheSuite X.env n pos') (fun _ s7 => Q s7) X.xe s6 := fun {σ6 H6 Q} S6 hq => gone_ok (S6.unsuite ok) hN hi hln hq
          cases f with
          | next =>
            obtain ⟨σ6, H6, S6, q6⟩ := hsp
            exact end_ S6 fun s7 J7 => ⟨_, _, J7, q6⟩
          | brk =>
            obtain ⟨σ6, H6, S6, q6⟩ := hsp
            exact end_ S6 fun s7 J7 => ⟨_, _, J7, q6⟩
          | cont =>
            obtain ⟨σ6, H6, S6, q6⟩ := hsp
            exact end_ S6 fun s7 J7 => ⟨_, _, J7, q6⟩
          | ret u =>
            obtain ⟨v6, σ6, H6, S6, r6, q6⟩ := hsp
            exact end_ S6 fun s7 J7 => ⟨_, _, _, J7, r6, q6⟩
        | false =>
          show wpAny _ X.A (handleBy (.ref a) X.env hds2) _ _ _
          exact ih (hno rfl)
      | @plain x c ts b₀ suite np pos' hds2 l2 hc hsu r ih =>
        intro w
        obtain ⟨b, hb1, hyes, hno⟩ := w
        refine wpAny_handleBy_cons (codeAny_handlers_test ?_) (by intro q; cases q)
        have LT : PySem.W.Looks (model X.prog X.w) h3 (typeOf (.ref a)) cls := fun A Q E s k q => wpAny_typeOf_ref (k _ _ he3) (by rw [hz3.1]; exact q)
        have LM := PySem.W.exm_one (M := model X.prog X.w) (J3.kIn) LT hb1
        have test : ∀ {Q : Value → Shared → Prop} {E : Value → Shared → Prop}, Q c { s' with heap := h3 } → wpAny (model X.prog X.w) (X.A.mark (some (.ref a))) (eval (.Name x np) X.env) Q E { s' with heap := h3 } := fun {Q E} q => by
          obtain ⟨hg, hdbg, hm | ⟨hm, hv, hnn⟩⟩ := hc
          · exact ld_glob (X := X.suite a ((a, oe3) :: (X.pn ++ pins))) S3 hg hm q hdbg
          · exact ld_blt (X := X.suite a ((a, oe3) :: (X.pn ++ pins))) S3 hg hm hv q hnn hdbg
        refine test (LM.here ?_)
        cases b with
        | true =>
          refine codeAny_handlers_suite ?_
          refine HandSPX.lands_againZ fl3 fun h4 fl4 up4 => ?_
          have J4 : Inv X pins σ' H' { s' with heap := h4 } := J.landed nb fl4.1 ((up.trans up3).trans up4) os ag
          obtain ⟨oe4, vs4, he4, hz4, hd4⟩ := fl4.there
          have S4 := J4.suite he4 hd4 na nL nF
          refine wpAny_mono ((hsu a oe4 cls d (X.pn ++ pins) hz4 ⟨_, hd4⟩).run [] _ _ H' _ S4 (hyes rfl a na)) (fun f s6 hsp => ?_) (fun _ _ z => False.elim z)
          cases f with
          | next => obtain ⟨σ6, H6, S6, q6⟩ := hsp; exact ⟨_, _, S6.unsuite ok, q6⟩
          | brk => obtain ⟨σ6, H6, S6, q6⟩ := hsp; exact ⟨_, _, S6.unsuite ok, q6⟩
          | cont => obtain ⟨σ6, H6, S6, q6⟩ := hsp; exact ⟨_, _, S6.unsuite ok, q6⟩
          | ret u => obtain ⟨v6, σ6, H6, S6, r6, q6⟩ := hsp; exact ⟨_, _, _, S6.unsuite ok, r6, q6⟩
        | false =>
          show wpAny _ X.A (handleBy (.ref a) X.env hds2) _ _ _
          exact ih (hno rfl)
    exact go hh w
  · cases f with
    | next =>
      obtain ⟨σ', H', J', q⟩ := hsp
      exact wpAny_execs_nil ⟨σ', H', J'.ofTry ok, q⟩
    | brk =>
      obtain ⟨σ', H', J', q⟩ := hsp
      exact ⟨σ', H', J'.ofTry ok, q⟩
    | cont =>
      obtain ⟨σ', H', J', q⟩ := hsp
      exact ⟨σ', H', J'.ofTry ok, q⟩
    | ret u =>
      obtain ⟨v, σ', H', J', r, q⟩ := hsp
      exact ⟨v, σ', H', J'.ofTry ok, r, q⟩
end
end L2
set_option maxHeartbeats 4000000
/-! x(lambda: e) where x is «def x(a): try: return a() / except A as e: .. / except B: ..» -/
namespace LfT
open PySem PySem.Spec PyProof.Rows L2 LamX
/-- what such a def makes of the lambda's reading: the clauses l, n names -/
def TMix (K : PySem.W.Frag) (n : Nat) (l : List (Value × Option Nat × (Addr → Value → Option Addr → TS))) : (XK → Hp → VK → Prop) → Hp → VK → Prop := fun tl H Q =>
  tl (fun cls d H' => ∀ σ' : L2.St, σ'.length = n → wMix K (fun _ _ _ _ => False) { nx := fun _ H' => Q .non H', rt := Q } l cls d σ' H') H Q
theorem takes_len {X : Cx} {W : WX} (t : Takes X W) : Takes X (fun cls d σ H => σ.length = X.N.length → W cls d σ H) := fun u s' ⟨a, B, sI, pins, σ, H, cls, d, e, I, nb, up, sky, na, os, ag, w⟩ =>
  t u s' ⟨a, B, sI, pins, σ, H, cls, d, e, I, nb, up, sky, na, os, ag, w I.len⟩
section
variable {X : Cx}
theorem mix_gives {Ng : List Str} {x a q : Str} {sg : Scope} {g : Addr} {cdg : Value} {h₀ : ExceptHandler} {hds : List ExceptHandler} {l : List (Value × Option Nat × (Addr → Value → Option Addr → TS))} {p1 p2 p3 p8 : Pos} (hN : Ng.Nodup)
    (hh : ∀ (s : Shared) (H : Hp), HdM (cxOf C8.CX0 X.prog X.w X.K X.mg X.base Ng x sg g cdg X.A X.stack s H C8.E0).nox (h₀ :: hds) l) (h0 : ∀ f : Addr, (L2.start Ng [V.ref f])[0]? = some (some (V.ref f))) :
    GivesTo X Ng x sg g cdg [.Try [.Return (some (.Call (.Name a p1) [] [] p2)) p3] (h₀ :: hds) [] [] p8] a q (TMix X.K Ng.length l) := by
  intro f c' s H Q tl act hc h
  refine ⟨_, pss_one (ps_tryMix (X := (cxOf C8.CX0 X.prog X.w X.K X.mg X.base Ng x sg g cdg X.A X.stack s H C8.E0).nox) (Wout := fun _ _ _ _ => False)
      (tb := fun W D σ H => ∃ Ech : XK, (∀ cls d (σ' : L2.St) H', Ech cls d H' → σ'.length = Ng.length → W cls d σ' H') ∧ σ[0]? = some (some (.ref f)) ∧ H c' = some (CodeO c' q) ∧ tl Ech H D.rt)
      rfl rfl hN LamX.takes0 (fun W pn xe tk _ => ?_) (hh s H)), ?_⟩
  · refine ⟨fun pins s' σ H' D I h' => ?_⟩
    obtain ⟨Ech, hW, h1, h2, h3⟩ := h'
    have hp := act _ pn xe Ech p1 p2 (takes_len tk) hW
    exact (pss_one (ps_ret (pos := p3) hp)).run pins s' σ H' D I ⟨h1, h2, h3⟩
  · exact ⟨_, fun cls d σ' H' h hl => h σ' hl, h0 f, hc, h⟩
theorem pe_toldM {x a : Str} {st : Stmt} {Ng : List Str} {h₀ : ExceptHandler} {hds : List ExceptHandler} {l : List (Value × Option Nat × (Addr → Value → Option Addr → TS))} {p1 p2 p3 p8 p lpos pos : Pos} {c P : Addr} {k : Nat} {params : Arguments} {body : Expr} {scope : Scope} {t : XK → TE} (D : Df X.K X.mg x st)
    (hst : defBody st = [.Try [.Return (some (.Call (.Name a p1) [] [] p2)) p3] (h₀ :: hds) [] [] p8])
    (Sg : FnScope Ng [a] (defScope st)) (hNg : Ng[0]? = some a) (hva : Vis (defScope st) a)
    (bd : ∀ (kV doc pm : Value) (an : Option Addr) (cdv ct : Value) (us : List Value), us.length = [a].length → bindArgs (PySem.W.fnOf x x (defArgs st) (defBody st) (defScope st) .none kV doc pm an cdv ct) ⟨us, []⟩ = pure ([a].zip us))
    (hh : ∀ (g : Addr) (cdg : Value) (s : Shared) (H : Hp), HdM (cxOf C8.CX0 X.prog X.w X.K X.mg X.base Ng x (defScope st) g cdg X.A X.stack s H C8.E0).nox (h₀ :: hds) l) (h0 : ∀ f : Addr, (L2.start Ng [V.ref f])[0]? = some (some (V.ref f)))
    (TB : TabB X.base X.mg c P) (hcode : X.env.code = .ref c) {Tb : List (Addr × Str)} (hmT : (P, X.env.qual ++ "<lambda>") ∈ Tb) (hu : ∀ p ∈ Tb, p.1 = P → p.2 = X.env.qual ++ "<lambda>") (hg : Gl X x) (hr : Room (k + 2) X.A) (L : LamS X.env.scope scope) (hdef : defaultsOf params X.env = ([], []))
    (hbind : ∀ (q : Str) (cl : List (Str × Addr)) (pm cv ctv : Value), bindArgs (PySem.W.kla_fn "<lambda>" q params body scope cl pm cv ctv) ⟨[], []⟩ = pure [])
    (hbody : ∀ (A : Around) (outer : List Env) (s : Shared) (H : Hp) (E : XK) (f c' : Addr), Room k (A.deeper (lamEnv X scope s.heap.objs.size f c')) → PE (lamCx X A outer s H E scope f c') body (t E))
    (hdb : (x == ("__debug__" : Str)) = false := by decide) (hd : (a == ("__debug__" : Str)) = false := by decide) (hcd : (a == ("__classdict__" : Str)) = false := by decide) :
    PE X (.Call (.Name x p) [.Lambda params body scope lpos] [] pos) (tLam Tb (TMix X.K Ng.length l) t) := by
  obtain ⟨g, fd, F, hm⟩ := D
  have hb := F.binds bd
  obtain ⟨oc, od, kV, doc, pm, an, cdv, ct, osl, rfl, lk, hcg⟩ := F.ex
  refine pe_lamcall hg hm F.kp lk hcg hb Sg hNg hva ?_ TB hcode hmT hu hr L hdef hbind hbody hdb hd hcd
  rw [hst]
  exact mix_gives Sg.nd (hh g cdv) h0
end
theorem tab_one {a b : Addr} {q r : Str} (h : a ≠ b) : ∀ p ∈ [(a, q), (b, r)], p.1 = a → p.2 = q := fun p hp e => by
  rcases List.mem_cons.mp hp with rfl | hp
  · rfl
  · cases List.mem_singleton.mp hp
    exact absurd e.symm h
theorem tab_two {a b : Addr} {q r : Str} (h : a ≠ b) : ∀ p ∈ [(a, q), (b, r)], p.1 = b → p.2 = r := fun p hp e => by
  rcases List.mem_cons.mp hp with rfl | hp
  · exact absurd e h
  · cases List.mem_singleton.mp hp
    rfl
end LfT
set_option maxHeartbeats 4000000
namespace My
open PySem L2 Lf Evl Tr StX PyProof
abbrev s_law_told : Stmt := top 52
theorem sc_law_told : FnScope ["_law_call", "e"] ["_law_call"] (defScope s_law_told) := ⟨rfl, rfl, rfl, by decide +kernel, rfl, by decide +kernel, by decide +kernel⟩
structure ErrT (K : PySem.W.Frag) (CA CB CP : Addr) : Prop where
  xf : XfC K CP
  pp : PySem.W.exmOne K (.ref CP) (.ref CP) = some true
  ap : PySem.W.exmOne K (.ref CA) (.ref CP) = some false
  aa : PySem.W.exmOne K (.ref CA) (.ref CA) = some true
  bp : PySem.W.exmOne K (.ref CB) (.ref CP) = some false
  ba : PySem.W.exmOne K (.ref CB) (.ref CA) = some false
  bb : PySem.W.exmOne K (.ref CB) (.ref CB) = some true
theorem call_reprN {X : Cx} : CallR X (.builtin "repr") (fun xs H Q => xs = [V.non] ∧ Q (.str "None") H) := by
  intro pins s σ H xs us Q I r h
  obtain ⟨rfl, q⟩ := h
  obtain ⟨u, rfl, ru⟩ := r.one
  cases ru
  exact PySem.P.repr_of_none ⟨.str _, H, I.tok _, ⟨_, rfl⟩, q⟩
def lTold (CA CB CP : Addr) : List (Value × Option Nat × (Addr → Value → Option Addr → TS)) :=
  [(.ref CP, some 1, fun a cls d => tRet (tOp rCat2 (tC (.str "parse ")) (tCB (fun xs H Q => xs = [V.non] ∧ Q (.str "None") H) (tCons (tXf a cls d CP "line" (tVar 1)) tNil)))), (.ref CA, none, fun _ _ _ => tRet (tC (.str "tree"))), (.ref CB, none, fun _ _ _ => tRet (tC (.str "argument")))]
def tdHs : List ExceptHandler := match defBody s_law_told with
  | .Try _ hs _ _ _ :: _ => hs
  | _ => []
section
variable {P : Program} {w : World} {K : PySem.W.Frag} {mg : Str → Option Value} {base : Heap} {CA CB CP fP : Addr}
theorem hd_told (T : Txt P K mg CA CB CP fP) (R : ErrT K CA CB CP) {A : Around} {stack : List Env} (g : Addr) (cdg : Value) (s : Shared) (H : Hp) : HdM (cxOf C8.CX0 P w K mg base ["_law_call", "e"] "_law_told" (defScope s_law_told) g cdg A stack s H C8.E0).nox tdHs (lTold CA CB CP) := by
  refine HdM.cons (i := 1) rfl rfl ⟨rfl, by decide, .inl T.par.gC⟩ (fun a oe cls d pn hz hf => pss_one (ps_ret (pe_op op_add_str pe_str (pe_callB call_reprN (by rfl) T.n_repr (by decide +kernel) (pa_cons (pe_xf R.xf T.par.noF hz hf (pv 1)) pa_nil))))) ?_
  refine HdM.plain ⟨rfl, by decide, .inl T.gA⟩ (fun a oe cls d pn hz hf => pss_one (ps_ret pe_str)) ?_
  exact HdM.plain ⟨rfl, by decide, .inl T.gB⟩ (fun a oe cls d pn hz hf => pss_one (ps_ret pe_str)) .nil
end
end My
set_option maxHeartbeats 4000000
/-! The end of a law with several tables of code objects (defs with lambdas), where no repr is under way: LfTab for a list of tables -/
namespace LfT
open PySem PySem.Spec PyProof.Rows L2 LamX
def HS (a : Addr) (Ts : List Addr) (o : Obj) (xs : List V) : Hp := fun b => if b ∈ Ts then some (.tbl #[]) else if b = a then some (.frz o (.lst xs)) else none
section
variable {P : Program} {w : World} {K : PySem.W.Frag} {mg mb : Str → Option Value} {CX : CXT} {k : Nat} {fa a : Addr} {cs : List (Addr × Addr)} {fd : FuncData} {x : Str} {sp : Sp} {s₁ : Shared} {vs : List Value} {ns : List Int}
theorem law_coreS {H : Hp} (KX : K.In s₁.heap) (hns : s₁.heap.Ns mainGlobals mg) (hb : s₁.heap.Ns builtinsNs mb) (hbb : ∀ x : Str, x ≠ "__name__" → mb x = bootBuiltins x) (hlim : s₁.heap.NoLimit) (hg : s₁.gens = #[])
    (hT : ∀ p ∈ cs, s₁.heap.get? p.2 = some { cls := .none, data := .fields #[] }) (nT : ∀ p ∈ cs, K.lookup p.2 = none) (C : ∀ p ∈ cs, PySem.W.CodeHd s₁.heap p.1 p.2)
    (hbm : ∃ (bm : Addr) (ob : Obj), mg "__builtins__" = some (.ref bm) ∧ bm ≠ builtinsNs ∧ s₁.heap.get? bm = some ob ∧ ob.cls = .type "module" ∧ ob.dict = some builtinsNs ∧ ob.data = .plain)
    (ha : s₁.heap.get? a = some { cls := .type "list", data := .seq vs.toArray }) (hr : Room k callerA)
    (F : ∀ base : Heap, K.In base → base.Ns mainGlobals mg → (∀ p ∈ cs, TabB base mg p.1 p.2) → FnOkG P w K mg base CX k fa fd [x] sp) (hbind : ∀ (s : Shared) (u : Value), BindsTo s fd ⟨[u], []⟩ [(x, u)])
    (hsp : sp [.ref a] H (fun v _ => v = .bl true) fun _ _ _ => False) (hCX : ∀ H e s', CX [] H s₁ (fun _ _ _ => False) e s' → False)
    (hH : ∀ p ∈ cs, H p.2 = some (.tbl #[])) (hO : ∀ b u, H b = some u → b ∈ cs.map (·.2) ∨ (b = a ∧ K.lookup a = none ∧ ∃ o xs, u = .frz o (.lst xs))) (hok : HOk P w H s₁.heap) :
    codeAny (model P w) callerA (.call (.ref fa) ⟨[.ref a], []⟩) (fun r s' => r = .ok (.ret (.bool true)) ∧ OldK s₁.heap s'.heap ∧ s'.os = s₁.os ∧ AllBare s'.gens) s₁ := by
  have isT : ∀ b ∈ cs.map (·.2), s₁.heap.get? b = some { cls := .none, data := .fields #[] } := fun b hb => by
    obtain ⟨p, hp, e⟩ := List.mem_map.mp hb
    rw [← e]
    exact hT p hp
  have free : ∀ {b : Addr} {o : Obj}, s₁.heap.get? b = some o → (∀ us n, o.data ≠ .seq us n) → o.data ≠ .fields #[] → H b = none := fun {b o} e n1 n2 => by
    cases q : H b with
    | none => rfl
    | some u =>
      rcases hO b u q with z | ⟨z, _⟩
      · rw [isT b z] at e; cases e; exact (n2 rfl).elim
      · rw [z, ha] at e; cases e; exact (n1 _ _ rfl).elim
  have put : ∀ {b : Addr} {o : Obj}, s₁.heap.get? b = some o → H b = none → (hidT s₁.heap H).get? b = some o := fun e n => hidT_get e n
  have nsK : ∀ {b : Addr} {m : Str → Option Value}, s₁.heap.Ns b m → (hidT s₁.heap H).Ns b m := fun {b m} ⟨o, es, ep, e, d, r⟩ =>
    ⟨o, es, ep, put e (free e (fun us n z => by rw [d] at z; cases z) fun z => by rw [d] at z; cases z), d, r⟩
  have inB : K.In (hidT s₁.heap H) := fun b o e => put (KX b o e) (by
    cases q : H b with
    | none => rfl
    | some u =>
      rcases hO b u q with z | ⟨z, z2, _⟩
      · obtain ⟨p, hp, ep⟩ := List.mem_map.mp z
        rw [← ep, nT p hp] at e; cases e
      · rw [z, z2] at e; cases e)
  have TB : ∀ p ∈ cs, TabB (hidT s₁.heap H) mg p.1 p.2 := fun p hp => by
    have hTp := hT p hp
    refine ⟨?_, ?_, fun z => ?_⟩
    · obtain ⟨o, us, f, tf, fl, tg, inF, tx, tt, e1, r1, r2, r3, r4⟩ := C p hp
      exact ⟨o, us, f, tf, fl, tg, inF, tx, tt, put e1 (free e1 (fun us n z => by rw [r2] at z; cases z) fun z => by rw [r2] at z; cases z; simp at r3), r1, r2, r3, r4⟩
    · obtain ⟨bm, ob, b1, b2, b3, b4, b5, b6⟩ := hbm
      refine ⟨bm, ob, b1, b2, fun q => ?_, fun q => ?_, put b3 (free b3 (fun us n z => by rw [b6] at z; cases z) fun z => by rw [b6] at z; cases z), b4, b5, b6⟩
      · obtain ⟨o, es, ep, e, hd, _⟩ := hns
        rw [q, e] at b3; cases b3; rw [hd] at b6; cases b6
      · rw [q, hTp] at b3; cases b3; cases b6
    · obtain ⟨o, es, ep, e, hd, _⟩ := hns
      rw [z, hTp] at e; cases e; cases hd
  have md : L2.Mod K mg (hidT s₁.heap H) := ⟨inB, nsK hns, ⟨mb, nsK hb, hbb⟩, let ⟨mc, h1, h2⟩ := hlim; ⟨mc, nsK h1, h2⟩⟩
  have e0 : Env0 P w K mg (hidT s₁.heap H) callerA [] s₁ H := ⟨rfl, md, fun b o e => of_hidT e, Nat.le_of_eq (hidT_size _ _), trivial, fun b z => absurd (show b ∈ ([] : List Addr) from z) (by simp), hok, .of_eq hg⟩
  refine codeAny_mono ((F _ inB (nsK hns) TB).run callerA [] s₁ H ⟨[.ref a], []⟩ [.ref a] [.ref a] _ _ rfl hr e0 (hbind s₁ (.ref a)) (.cons rfl .nil) hsp) fun r s' z => ?_
  cases r with
  | error e => exact (hCX H e s' z).elim
  | ok fl =>
    cases fl with
    | next => exact False.elim z
    | brk => exact False.elim z
    | cont => exact False.elim z
    | ret u =>
      obtain ⟨v, H', os, bare, un, hok', r', q⟩ := z
      obtain rfl : v = .bl true := q
      obtain rfl : u = Value.bool true := r'
      have same : ∀ b o, b ∉ cs.map (·.2) → s₁.heap.get? b = some o → s'.heap.get? b = some o := fun b o nb e => by
        cases q : H b with
        | none => exact un.keep b o e q (by intro z; exact absurd (show b ∈ ([] : List Addr) from z) (by simp)) (by simp)
        | some u =>
          rcases hO b u q with z | ⟨_, _, ob, xs, rfl⟩
          · exact absurd z nb
          · obtain ⟨e1, _⟩ := hok b _ q
            obtain ⟨e2, _⟩ := hok' b _ (un.frzs b ob _ q)
            rw [e] at e1; cases e1
            exact e2
      have grown : ∀ p ∈ cs, ∃ more : Array Value, s'.heap.get? p.2 = some { cls := .none, data := .fields more } := fun p hp => by
        obtain ⟨more, z⟩ := un.tbls p.2 #[] (hH p hp)
        exact ⟨_, hok' p.2 _ z⟩
      refine ⟨rfl, ⟨fun b o e => ?_, fun b o e => ?_⟩, os, bare⟩
      · by_cases nb : b ∈ cs.map (·.2)
        · obtain ⟨p, hp, ep⟩ := List.mem_map.mp nb
          obtain ⟨more, hm⟩ := grown p hp
          rw [← ep] at e ⊢
          rw [hT p hp] at e; cases e
          exact .inr (.inl ⟨((C p hp).tab (hT p hp)).isCodeTable, rfl, #[], more, rfl, by rw [Array.empty_append]; exact hm⟩)
        · exact .inl (same b o nb e)
      · by_cases nb : b ∈ cs.map (·.2)
        · obtain ⟨p, hp, ep⟩ := List.mem_map.mp nb
          obtain ⟨more, hm⟩ := grown p hp
          rw [← ep]
          exact ⟨_, hm⟩
        · exact ⟨o, same b o nb e⟩
theorem law_callTG (KX : K.In s₁.heap) (hns : s₁.heap.Ns mainGlobals mg) (hb : s₁.heap.Ns builtinsNs mb) (hbb : ∀ x : Str, x ≠ "__name__" → mb x = bootBuiltins x) (hlim : s₁.heap.NoLimit) (hg : s₁.gens = #[])
    (hT : ∀ p ∈ cs, s₁.heap.get? p.2 = some { cls := .none, data := .fields #[] }) (nT : ∀ p ∈ cs, K.lookup p.2 = none) (C : ∀ p ∈ cs, PySem.W.CodeHd s₁.heap p.1 p.2)
    (hbm : ∃ (bm : Addr) (ob : Obj), mg "__builtins__" = some (.ref bm) ∧ bm ≠ builtinsNs ∧ s₁.heap.get? bm = some ob ∧ ob.cls = .type "module" ∧ ob.dict = some builtinsNs ∧ ob.data = .plain)
    (ha : s₁.heap.get? a = some { cls := .type "list", data := .seq vs.toArray }) (hi : IntsAre vs ns) (hl : ns.length ≤ sizeLine) (hr : Room k callerA)
    (F : ∀ base : Heap, K.In base → base.Ns mainGlobals mg → (∀ p ∈ cs, TabB base mg p.1 p.2) → FnOkG P w K mg base CX k fa fd [x] sp) (hbind : ∀ (s : Shared) (u : Value), BindsTo s fd ⟨[u], []⟩ [(x, u)])
    (hsp : ∀ H : Hp, (∀ p ∈ cs, H p.2 = some (.tbl #[])) → SqL K H a (ns.map V.int) → sp [.ref a] H (fun v _ => v = .bl true) fun _ _ _ => False) (hCX : ∀ H e s', CX [] H s₁ (fun _ _ _ => False) e s' → False) :
    codeAny (model P w) callerA (.call (.ref fa) ⟨[.ref a], []⟩) (fun r s' => r = .ok (.ret (.bool true)) ∧ OldK s₁.heap s'.heap ∧ s'.os = s₁.os ∧ AllBare s'.gens) s₁ := by
  have rv := vals_ints hi
  have lenV := hi.length
  have mem : ∀ p ∈ cs, p.2 ∈ cs.map (·.2) := fun p hp => List.mem_map.mpr ⟨p, hp, rfl⟩
  have isT : ∀ b ∈ cs.map (·.2), s₁.heap.get? b = some { cls := .none, data := .fields #[] } := fun b hb => by
    obtain ⟨p, hp, e⟩ := List.mem_map.mp hb
    rw [← e]
    exact hT p hp
  have ne : a ∉ cs.map (·.2) := fun z => by
    rw [isT a z] at ha
    have q : Data.fields #[] = Data.seq vs.toArray _ := congrArg Obj.data (Option.some.inj ha)
    cases q
  cases hk : K.lookup a with
  | some o =>
    have e := KX a o hk
    rw [ha] at e
    cases e
    refine law_coreS (H := fun b => if b ∈ cs.map (·.2) then some (.tbl #[]) else none) KX hns hb hbb hlim hg hT nT C hbm ha hr F hbind (hsp _ (fun p hp => if_pos (mem p hp)) (.inr ⟨_, vs.toArray, _, hk, rfl, rfl, rfl, by rw [List.size_toArray, lenV]; exact hl, by simpa using rv⟩)) hCX (fun p hp => if_pos (mem p hp)) (fun b u z => ?_) (fun b u z => ?_)
    · by_cases q : b ∈ cs.map (·.2)
      · exact .inl q
      · have z' := (if_neg q).symm.trans z
        cases z'
    · by_cases q : b ∈ cs.map (·.2)
      · have z' := (if_pos q).symm.trans z
        cases z'
        exact isT b q
      · have z' := (if_neg q).symm.trans z
        cases z'
  | none =>
    refine law_coreS (H := HS a (cs.map (fun p : Addr × Addr => p.2)) { cls := .type "list", data := .seq vs.toArray } (ns.map V.int)) KX hns hb hbb hlim hg hT nT C hbm ha hr F hbind (hsp _ (fun p hp => if_pos (mem p hp)) (.inl (.inr ⟨_, (if_neg ne).trans (if_pos rfl)⟩))) hCX (fun p hp => if_pos (mem p hp)) (fun b u z => ?_) (fun b u z => ?_)
    · by_cases q : b ∈ cs.map (·.2)
      · exact .inl q
      · have z1 := (if_neg q).symm.trans z
        by_cases q2 : b = a
        · have z' := (if_pos q2).symm.trans z1
          cases z'
          exact .inr ⟨q2, hk, _, _, rfl⟩
        · have z' := (if_neg q2).symm.trans z1
          cases z'
    · by_cases q : b ∈ cs.map (·.2)
      · have z' := (if_pos q).symm.trans z
        cases z'
        exact isT b q
      · have z1 := (if_neg q).symm.trans z
        by_cases q2 : b = a
        · have z' := (if_pos q2).symm.trans z1
          cases z'
          subst q2
          exact ⟨ha, by rw [List.length_map]; exact hl, vs, _, rv, ha⟩
        · have z' := (if_neg q2).symm.trans z1
          cases z'
end
/-- the walk: the defs ys of the text have the lambdas -/
theorem walk_ofTG {l : PySem.W.OpenLaw} {n k : Nat} {q : Program} {loose : List Str} {XP : (Str → Option Value) → Heap → Prop} {YP : World → Heap → Prop} {d : DefRec} {K : Params → PySem.W.Frag} {CX : CXT} {sp : PySem.W.Frag → List (Addr × Addr) → Sp} {x : Str} {ys : List Str}
    (hn : l.most = some n) (hn2 : n ≤ sizeLine) (hdf : d.params.defaults = []) (hr : Room k callerA) (hrec : ∀ y ∈ ys, ∃ dy, (recsOf q).find? (fun e => e.name == y) = some dy)
    (hY : ∀ (w : World) (h : Heap), YP w h → (K w.params).In h)
    (F : ∀ (w : World) (mg : Str → Option Value) (fa : Addr) (h : Heap), (K w.params).In h → h.Ns mainGlobals mg → mg d.name = some (.ref fa) →
      ∃ (fd : FuncData) (cs : List (Addr × Addr)), (∀ p ∈ cs, ∃ y ∈ ys, PySem.W.tabIn (K w.params) y = some p) ∧ (∀ p ∈ cs, (K w.params).lookup p.2 = none) ∧ (∀ (s : Shared) (u : Value), BindsTo s fd ⟨[u], []⟩ [(x, u)]) ∧
        ∀ base : Heap, (K w.params).In base → base.Ns mainGlobals mg → (∀ p ∈ cs, TabB base mg p.1 p.2) → FnOkG l.prog w (K w.params) mg base CX k fa fd [x] (sp (K w.params) cs))
    (hsp : ∀ (K : PySem.W.Frag) (H : Hp) (a : Addr) (cs : List (Addr × Addr)) (ns : List Int), ns.length ≤ n → (∀ p ∈ cs, H p.2 = some (.tbl #[])) → SqL K H a (ns.map V.int) → sp K cs [.ref a] H (fun v _ => v = .bl true) fun _ _ _ => False)
    (hCX : ∀ (H : Hp) (s : Shared) (e : Value) (s' : Shared), CX [] H s (fun _ _ _ => False) e s' → False) :
    PySem.W.WalkO q loose XP YP l.row.toRowW d [] (fun f vs => PySem.call f vs) := by
  refine Att.attach_call hn hdf fun w s₀ s₁ mg mb fa o pm cd doc a vs ns G Y ho hd hcd hmg hobj hints hlen hg => ?_
  have KX := hY w _ Y
  obtain ⟨fd, cs, ht, nT, hb, hF⟩ := F w mg fa _ KX G.T.g hmg
  have both : ∀ p ∈ cs, PySem.W.CodeHd s₁.heap p.1 p.2 ∧ s₁.heap.get? p.2 = some { cls := .none, data := .fields #[] } := fun p hp => by
    obtain ⟨y, hy, e⟩ := ht p hp
    obtain ⟨dy, hd⟩ := hrec y hy
    exact PySem.W.tab_of G.T KX hd e
  exact law_callTG KX G.T.g G.T.b G.T.builtins G.T.nolimit hg (fun p hp => (both p hp).2) nT (fun p hp => (both p hp).1) G.T.bmain hobj hints (Nat.le_trans hlen hn2) hr hF hb (fun H hH hS => hsp (K w.params) H a cs ns hlen hH hS) fun H e s' => hCX H s₁ e s'
end LfT
set_option maxHeartbeats 4000000
/-! for x in t: t a tuple or a list of data -/
namespace Lf
open PySem L2 Evl
section
variable {K : PySem.W.Frag} {σ : L2.St} {G H : Hp} {tl : TE} {g : TG} {tb tz : TS} {D : Ends} {ds : List PyData}
def LoopOk (g : TG) (tb tz : TS) (D : Ends) (σ : L2.St) (ds : List PyData) (G1 H1 : Hp) : Prop := ∃ Pv : Nat → L2.St → Hp → Prop, Pv 0 σ H1 ∧ (∀ i σ' H', Pv i σ' H' → Ex G1 H') ∧
  (∀ i d v σ' H', ds[i]? = some d → Da G1 v d → Pv i σ' H' → g v σ' H' fun σ2 H2 => tb { D with nx := Pv (i + 1), ct := Pv (i + 1), bk := tz D } σ2 H2) ∧ ∀ σ' H', Pv ds.length σ' H' → tz D σ' H'
theorem q_forT (s : Ex G H) (h : EvD tl σ G (.tuple ds)) (k : ∀ G1 H1, Gr G H G1 H1 → LoopOk g tb tz D σ ds G1 H1) : tSeq (tFor (iTup K tl) g tb) tz D σ H := h.go s fun v G1 H1 r hd => by
  obtain ⟨a, xs, rfl, ea, hs⟩ := hd.tup_
  obtain ⟨Pv, h0, hl, ht, hz⟩ := k G1 H1 r
  refine ⟨a, rfl, ⟨xs, SqT.of (r.s _ _ ea)⟩, for_tup (K := K) (a := a) (xs := xs) Pv h0 (fun i σ' H' _ p => SqT.of (hl i σ' H' p _ _ ea)) (fun i x σ' H' hx p => ?_) (fun σ' H' p => hz σ' H' (by rw [← hs.len]; exact p))⟩
  obtain ⟨d, hdi, hdv⟩ := hs.at hx
  exact ht i d x σ' H' hdi hdv p
theorem q_forL (s : Ex G H) (h : EvD tl σ G (.list ds)) (k : ∀ G1 H1, Gr G H G1 H1 → LoopOk g tb tz D σ ds G1 H1) : tSeq (tFor (iList K tl) g tb) tz D σ H := h.go s fun v G1 H1 r hd => by
  obtain ⟨a, xs, rfl, ea, hs⟩ := hd.lst_
  obtain ⟨Pv, h0, hl, ht, hz⟩ := k G1 H1 r
  refine ⟨a, rfl, ⟨xs, SqL.of (r.s _ _ ea)⟩, for_list (K := K) (a := a) (xs := xs) Pv h0 (fun i σ' H' _ p => SqL.of (hl i σ' H' p _ _ ea)) (fun i x σ' H' hx p => ?_) (fun σ' H' p => hz σ' H' (by rw [← hs.len]; exact p))⟩
  obtain ⟨d, hdi, hdv⟩ := hs.at hx
  exact ht i d x σ' H' hdi hdv p
end
end Lf
set_option maxHeartbeats 4000000
/-! Tables of code objects while data is drawn and told; lists of what calls tell -/
namespace Lf
open PySem L2 Evl LamX PyProof.Rows
def KeepN (L : Addr) (H H' : Hp) : Prop := ∀ a o, a ≠ L → H a = some o → (∀ ps, o ≠ .tbl ps) → H' a = some o
theorem KeepN.trans {L : Addr} {H H1 H2 : Hp} (a : KeepN L H H1) (b : KeepN L H1 H2) : KeepN L H H2 := fun x o n h t => b x o n (a x o n h t) t
theorem KeepN.ofB {L : Addr} {H H1 : Hp} (a : ExB L H H1) : KeepN L H H1 := fun x o n h _ => a x o n h
theorem KeepN.ofN {L : Addr} {H H1 : Hp} (a : ExtN H H1) : KeepN L H H1 := fun x o _ h t => a x o h t
theorem KeepN.of {L : Addr} {H H1 : Hp} (a : Ex H H1) : KeepN L H H1 := fun x o _ h _ => a x o h
theorem tabs_exB {Tb : List (Addr × Str)} {L : Addr} {H H' : Hp} {xs : List V} (t : Tabs Tb H) (x : ExB L H H') (hL : H L = some (.lst xs)) : Tabs Tb H' := fun p hp => by
  obtain ⟨ps, h1, h2, h3⟩ := t p hp
  refine ⟨ps, x _ _ (fun z => by rw [z, hL] at h1; cases h1) h1, h2, fun pos cv hc => ?_⟩
  obtain ⟨c, e1, e2⟩ := h3 pos cv hc
  exact ⟨c, e1, x _ _ (fun z => by rw [z, hL] at e2; unfold CodeO at e2; cases e2) e2⟩
theorem tabs_up {Tb : List (Addr × Str)} {H : Hp} {p : Addr} {xs ys : List V} (t : Tabs Tb H) (h : H p = some (.lst xs)) : Tabs Tb (upd H p (.lst ys)) := tabs_exB t (fun a o n h => by rw [upd_ne n]; exact h) h
theorem exn_view {G H H1 : Hp} (hG : ∀ a o, G a = some o → dataO o = true) (s : Ex G H) (e : ExtN H H1) : Ex G H1 := fun a o h => e a o (s a o h) fun ps z => by
  have := hG a o h
  rw [z] at this
  cases this
theorem gr_data {G H G' H' : Hp} (hG : ∀ a o, G a = some o → dataO o = true) (r : Gr G H G' H') : ∀ a o, G' a = some o → dataO o = true := fun a o h => by
  rcases r.t a o h with h | h
  · exact hG a o h
  · exact h
theorem grb_data {Lm : List V → Prop} {L : Addr} {G H G' H' : Hp} (hG : ∀ a o, G a = some o → dataO o = true) (r : GrB Lm L G H G' H') : ∀ a o, G' a = some o → dataO o = true := fun a o h => by
  rcases r.t a o h with h | h
  · exact hG a o h
  · exact h
theorem none_data : ∀ (a : Addr) (o : HO), (fun _ => none : Hp) a = some o → dataO o = true := fun a o h => by cases h
theorem none_ex {H : Hp} : Ex (fun _ => none) H := fun a o h => by cases h
/-- no object but a table stands at p -/
def NoT (H : Hp) (p : Addr) : Prop := ∀ o, H p = some o → ∃ ps, o = .tbl ps
/-- an expression that tells a text, whatever it adds to the tables -/
def Says (te : TE) (σ : L2.St) (G : Hp) (Tb : List (Addr × Str)) (z : Str) : Prop := ∀ H, Ex G H → Tabs Tb H → ∀ Q : VK, (∀ H', ExtN H H' → Tabs Tb H' → Ex G H' → Q (.str z) H') → te σ H Q
section
variable {K : PySem.W.Frag} {σ : L2.St} {G H H0 : Hp} {te : TE} {tz : TS} {D : Ends} {Tb : List (Addr × Str)} {z : Str} {i : Nat} {p : Addr}
theorem q_tl0 (s : Ex G H) (t : Tabs Tb H) (h : Says te σ G Tb z) (k : ∀ p H', ExtN H H' → Tabs Tb H' → Ex G H' → H' p = some (.lst (([z] : List Str).map V.str)) → NoT H p → G p = none → tz D (σ.set i (some (.ref p))) H') : tSeq (tAsg (tLst (tCons te tNil)) (gName i)) tz D σ H := h H s t _ fun H1 e1 t1 s1 => ⟨show 1 ≤ sizeLine by decide, fun p hp => k p _ (e1.trans (ExtN.of (Ex.new hp))) (t1.ext (Ex.new hp)) (s1.trans (Ex.new hp)) upd_same (fun o ho => by
    cases o with
    | tbl ps => exact ⟨ps, rfl⟩
    | _ => rw [e1 p _ ho (fun ps z => by cases z)] at hp; cases hp) (fresh_back s1 hp)⟩
theorem q_tlA {zs : List Str} (s : Ex G H) (t : Tabs Tb H) (hσ : σ[i]? = some (some (.ref p))) (hp : H p = some (.lst (zs.map V.str))) (hl : zs.length ≤ 1000) (hG : G p = none) (h : Says te σ G Tb z) (e0 : ExtN H0 H) (h0 : NoT H0 p)
    (k : ∀ H', ExtN H0 H' → Tabs Tb H' → Ex G H' → H' p = some (.lst ((zs ++ [z]).map V.str)) → tz D σ H') : tSeq (tDrop (tBM K "list" rAppend (tVar i) (tCons te tNil))) tz D σ H := ⟨_, hσ, .inl ⟨rfl, _, SqL.of hp⟩, h H s t _ fun H1 e1 t1 s1 => by
  have hp1 := e1 p _ hp (fun ps z => by cases z)
  refine ⟨p, zs.map V.str, .str z, rfl, rfl, hp1, by rw [List.length_map]; exact Nat.lt_of_le_of_lt hl (by decide), k _ (fun a o ha nt => ?_) (tabs_up t1 hp1) (Ex.mut s1 hG) (by rw [upd_same, List.map_append]; rfl)⟩
  have ne : a ≠ p := fun e => by
    subst e
    obtain ⟨ps, e⟩ := h0 o ha
    exact nt ps e
  rw [upd_ne ne]
  exact e1 a o (e0 a o ha nt) nt⟩
theorem da_strsI {H : Hp} : ∀ {ws : List Str}, (∀ x ∈ ws, x.length ≤ 1000) → DaAll H (ws.map V.str) (ws.map PyData.str)
  | [], _ => .nil
  | a :: ws, h => .cons (.str _ (h a (List.mem_cons_self ..))) (da_strsI fun x hx => h x (List.mem_cons_of_mem _ hx))
/-- the list of texts at p comes into the view -/
theorem tl_view {zs : List Str} (s : Ex G H) (hG : G p = none) (hp : H p = some (.lst (zs.map V.str))) (hz : ∀ x ∈ zs, x.length ≤ 1000) : ∃ G', Ex G G' ∧ Ex G' H ∧ Da G' (.ref p) (.list (zs.map PyData.str)) := by
  refine ⟨upd G p (.lst (zs.map V.str)), Ex.new hG, fun a o h => ?_, .lst upd_same (da_strsI hz)⟩
  by_cases e : a = p
  · subst e
    rw [upd_same] at h
    rw [← h]
    exact hp
  · rw [upd_ne e] at h
    exact s _ _ h
end
/-- the script is there, apart from the wheel at p -/
def Sc (K : PySem.W.Frag) (a : Addr) (xs : List V) (p : Addr) (H : Hp) : Prop := (a ≠ p ∧ Rd H a (.lst xs)) ∨ SqL K (fun _ => none) a xs
theorem sc_of {K : PySem.W.Frag} {a p : Addr} {xs : List V} {H : Hp} (h : SqL K H a xs) (hp : H p = none) : Sc K a xs p H := by
  rcases h with h | h
  · refine .inl ⟨fun e => ?_, h⟩
    rcases h with h | ⟨o, h⟩
    · rw [e, hp] at h; cases h
    · rw [e, hp] at h; cases h
  · exact .inr (.inr h)
theorem sc_sq {K : PySem.W.Frag} {a p : Addr} {xs : List V} {H : Hp} (h : Sc K a xs p H) : SqL K H a xs := by
  rcases h with h | h
  · exact .inl h.2
  · rcases h with h | h
    · rcases h with h | ⟨o, h⟩ <;> cases h
    · exact .inr h
theorem sc_keep {K : PySem.W.Frag} {a p : Addr} {xs : List V} {H H' : Hp} (h : Sc K a xs p H) (k : KeepN p H H') : Sc K a xs p H' := by
  rcases h with ⟨n, h⟩ | h
  · refine .inl ⟨n, ?_⟩
    rcases h with h | ⟨o, h⟩
    · exact .inl (k a _ n h (fun ps z => by cases z))
    · exact .inr ⟨o, k a _ n h (fun ps z => by cases z)⟩
  · exact .inr h
end Lf
namespace L2
open PySem PySem.Spec PyProof.Rows
/-- a def whose code object is known, as LfGuard's Fun.okG -/
theorem Fun.okGC {P : Program} {w : World} {K : PySem.W.Frag} {mg : Str → Option Value} {base : Heap} {x qual : Str} {st : Stmt} {f c : Addr} {fd : FuncData} {N ps : List Str} {k : Nat} {sp : Sp} (F : Fun K x qual st f fd) (hc : fd.code = .ref c) (S : FnScope N ps (defScope st)) (len : ∀ vs H Q E, sp vs H Q E → vs.length = ps.length)
    (hbody : ∀ (A : Around) (outer : List Env) (s : Shared) (H : Hp) (vs : List V) (Q : VK) (E : XK), (A.deeper (envOfC qual (defScope st) s.heap.objs.size f (.ref c))).guards = some [] → Room k (A.deeper (envOfC qual (defScope st) s.heap.objs.size f (.ref c))) → sp vs H Q E →
      ∃ t, PSs (cxOf CX0 P w K mg base N qual (defScope st) f (.ref c) A outer s H E).nox (defBody st) t ∧ t { nx := fun _ H' => Q .non H', rt := Q } (start N vs) H) : FnOkG P w K mg base CX0 (k + 1) f fd ps sp := by
  obtain ⟨oc, od, kV, doc, pm, an, cdv, ct, osl, rfl, lk, hcd⟩ := F.ex
  obtain rfl : cdv = .ref c := hc
  refine fn_ofG lk hcd S len fun A outer s H vs Q E hg hr hsp => ?_
  obtain ⟨t, h, q⟩ := hbody A outer s H vs Q E hg hr hsp
  exact ⟨t, h.nox, q⟩
end L2
set_option maxHeartbeats 4000000
namespace My
open PySem L2 Lf Evl Tr StX PyProof LamX LfT
abbrev s_law_right : Stmt := top 55
theorem sc_law_right : FnScope ["_law_urn_here", "_law_shapes", "_law_shape", "_law_tree_here", "_law_there", "_law_text_here", "_law_words", "_law_at", "_law_word", "_law_near", "_law_told_here"] ["_law_urn_here"] (defScope s_law_right) := ⟨rfl, rfl, rfl, by decide +kernel, rfl, by decide +kernel, by decide +kernel⟩
abbrev s_law : Stmt := top 56
theorem sc_law : FnScope ["_law_script", "_law_at", "_law_urn_here", "_law_turn", "_law_odd", "_law_told_here", "_law_store", "_law_shapes"] ["_law_script"] (defScope s_law) := ⟨rfl, rfl, rfl, by decide +kernel, rfl, by decide +kernel, by decide +kernel⟩
/-! ### texts of words -/
theorem sub_in (x : Str) (i j : Nat) : ∀ c ∈ (PySem.Builtin.Str.strSub x i j).cps.toList, c ∈ x.cps.toList := fun c h => by
  rw [PySem.StrLaws.strSub_toList] at h
  exact List.mem_of_mem_drop (List.mem_of_mem_take h)
theorem partsFrom_in (x : Str) (w : Nat) : ∀ (cuts : List Nat) (a : Nat), ∀ p ∈ PySem.StrLaws.partsFrom x w a cuts, ∀ c ∈ p.cps.toList, c ∈ x.cps.toList
  | [], a, p, hp => by rw [List.mem_singleton.mp hp]; exact sub_in x _ _
  | c :: r, a, p, hp => by
    rcases List.mem_cons.mp hp with rfl | hp'
    · exact sub_in x _ _
    · exact partsFrom_in x w r _ p hp'
theorem part_in {x y a : Str} (h : a ∈ Txt.split x y) : ∀ c ∈ a.cps.toList, c ∈ x.cps.toList := by
  unfold Txt.split at h
  split at h
  · rw [List.mem_singleton.mp h]; exact fun _ h => h
  · split at h
    · rw [List.mem_singleton.mp h]; exact fun _ h => h
    · rw [PySem.StrLaws.partsBetween_eq] at h
      exact partsFrom_in x _ _ _ a h
theorem strOk_iff {x : Str} : PyData.strOk x = true ↔ ∀ c ∈ x.cps.toList, c < 0x110000 := by
  unfold PyData.strOk
  rw [Array.all_eq_true']
  exact ⟨fun h c hc => of_decide_eq_true (h c (by simpa using hc)), fun h c hc => decide_eq_true (h c (by simpa using hc))⟩
theorem okR_of {t : Str} (hl : t.length ≤ 900) (ho : PyData.strOk t = true) : okR (.str t) := by
  refine ⟨Nat.le_trans (PyProof.Rows.split_le t " ") (by omega), fun x hx => ⟨strOk_iff.mpr fun c hc => strOk_iff.mp ho c (part_in hx c hc), Nat.le_trans (PyProof.Rows.part_short hx) (by omega)⟩⟩
theorem join_eq (z : Str) (ws : List Str) : Txt.join z ws = Str.join z ws := PySem.StrLaws.glued_eq_join z ws
theorem join_ok {z : Str} (hz : PyData.strOk z = true) : ∀ (ws : List Str), (∀ x ∈ ws, PyData.strOk x = true) → PyData.strOk (Str.join z ws) = true
  | [], _ => show PyData.strOk (Str.ofString "") = true by decide +kernel
  | [x], h => h x (List.mem_cons_self ..)
  | x :: y :: r, h => by
    have ih := join_ok hz (y :: r) fun a ha => h a (List.mem_cons_of_mem _ ha)
    show PyData.strOk (x ++ z ++ Str.join z (y :: r)) = true
    rw [strOk_iff] at ih hz ⊢
    have hx := strOk_iff.mp (h x (List.mem_cons_self ..))
    intro c hc
    simp only [Str.cps_append, Array.toList_append, List.mem_append] at hc
    rcases hc with (hc | hc) | hc
    · exact hx c hc
    · exact hz c hc
    · exact ih c hc
theorem join_lt {B : Nat} : ∀ (ws : List Str), (∀ x ∈ ws, x.length ≤ B) → (Str.join " " ws).length ≤ ws.length * (B + 1)
  | [], _ => Nat.zero_le _
  | [x], h => by have := h x (List.mem_cons_self ..); show x.length ≤ _; simp only [List.length_cons, List.length_nil]; omega
  | x :: y :: r, h => by
    have ih := join_lt (y :: r) fun a ha => h a (List.mem_cons_of_mem _ ha)
    have hx := h x (List.mem_cons_self ..)
    show (x ++ (" " : Str) ++ Str.join " " (y :: r)).length ≤ _
    rw [strLen_append, strLen_append]
    have e : (((" " : String) : Str)).length = 1 := rfl
    rw [List.length_cons, Nat.succ_mul, e]
    omega
def wOk (x : Str) : Bool := decide (x.length ≤ 8) && PyData.strOk x
theorem near_ok {ws : List Str} (hn : ws.length ≤ 60) (h : ∀ x ∈ ws, wOk x = true) : (Txt.join " " ws).length ≤ 900 ∧ okR (.str (Txt.join " " ws)) := by
  have h8 : ∀ x ∈ ws, x.length ≤ 8 := fun x hx => by have := h x hx; unfold wOk at this; rw [Bool.and_eq_true, decide_eq_true_eq] at this; exact this.1
  have ho : ∀ x ∈ ws, PyData.strOk x = true := fun x hx => by have := h x hx; unfold wOk at this; rw [Bool.and_eq_true] at this; exact this.2
  have hl : (Txt.join " " ws).length ≤ 900 := by
    rw [join_eq]
    have := join_lt ws h8
    have h9 : ws.length * (8 + 1) ≤ 60 * (8 + 1) := Nat.mul_le_mul_right _ hn
    omega
  exact ⟨hl, okR_of hl (by rw [join_eq]; exact join_ok (by decide +kernel) ws ho)⟩
/-- a shape that was read back has the words of its text -/
theorem pick_sh {ws : List Str} {s : PyData} (h : (if (isSh s && decide (wds 6 s = ws)) = true then s else .none) ≠ .none) : (if (isSh s && decide (wds 6 s = ws)) = true then s else .none) = s ∧ isSh s = true ∧ wds 6 s = ws := by
  by_cases c : (isSh s && decide (wds 6 s = ws)) = true
  · rw [if_pos c]
    rw [Bool.and_eq_true, decide_eq_true_eq] at c
    exact ⟨rfl, c⟩
  · rw [if_neg c] at h
    exact absurd rfl h
theorem shO_some {ws : List Str} (h : shO ws ≠ .none) : isSh (shO ws) = true ∧ wds 6 (shO ws) = ws := by
  unfold shO at h ⊢
  by_cases c : 60 < ws.length
  · rw [if_pos c] at h
    exact absurd rfl h
  · rw [if_neg c] at h ⊢
    obtain ⟨e, h1, h2⟩ := pick_sh h
    dsimp only at e ⊢
    rw [e]
    exact ⟨h1, h2⟩
theorem sh_kd {d : PyData} (h : isSh d = true) : kd d = "tuple" := by
  cases d <;> (first | rfl | cases h)
theorem sh_isS {d : PyData} {z : Str} (h : isSh d = true) : isS z d = false := by
  cases d <;> (first | rfl | cases h)
theorem rs_back {t : Str} (h : rsO (.str t) ≠ .none) : isSh (rsO (.str t)) = true ∧ Txt.join " " (wds 6 (rsO (.str t))) = t := by
  obtain ⟨h1, h2⟩ := shO_some h
  refine ⟨h1, ?_⟩
  show Txt.join " " (wds 6 (shO (Txt.split t " "))) = t
  rw [h2, join_eq]
  exact PySem.StrLaws.join_split t " "
def toldR (d : PyData) : PyData := match rsO d with
  | .none => .str "parse None"
  | e => e
theorem toldR_none {d : PyData} (h : rsO d = .none) : toldR d = .str "parse None" := by unfold toldR; rw [h]
theorem toldR_some {d : PyData} (h : rsO d ≠ .none) : toldR d = rsO d := by
  unfold toldR
  split
  · rename_i e; exact absurd e h
  · rfl
/-! ### tables of code objects -/
abbrev lamQ0 : Str := (PyProof.Rows.envOfC "_law_right" (defScope s_law_right) 0 0 .none).qual ++ "<lambda>"
abbrev lamQ1 : Str := (PyProof.Rows.envOfC "law" (defScope s_law) 0 0 .none).qual ++ "<lambda>"
abbrev tbs (T0 T1 : Addr) : List (Addr × Str) := [(T0, lamQ0), (T1, lamQ1)]
/-- told(lambda: read_shape(e)) -/
theorem told_rs {K : PySem.W.Frag} {CA CB CP : Addr} {Tb : List (Addr × Str)} (R : ErrT K CA CB CP) {te : TE} {σ : L2.St} {G H : Hp} {d : PyData} {Q : VK} (hte : EvD te σ G d) (hok : okR d) (hG : ∀ a o, G a = some o → dataO o = true) (s : Ex G H) (t : Tabs Tb H)
    (k : ∀ v G' H', ExtN H H' → Tabs Tb H' → Ex G G' → Ex G' H' → (∀ a o, G' a = some o → dataO o = true) → Da G' v (toldR d) → Q v H') : tLam Tb (TMix K 2 (lTold CA CB CP)) (fun E => tCallD (spRS CP) E (tCons te tNil)) σ H Q := by
  refine ⟨t, fun H1 e1 t1 => ?_⟩
  have s1 := exn_view hG s e1
  refine hte G H1 (Ex.refl _) s1 _ fun v G2 H2 r hd => ⟨G2, v, d, rfl, r.s, hd, hok, fun hn v' G' H' r' hd' => ?_, fun hn x H' x' hx σ' hl => ?_⟩
  · have r2 := r.trans r'
    refine k v' G' H' (e1.trans (ExtN.of r2.h)) (t1.ext r2.h) r2.g r2.s (gr_data hG r2) ?_
    rw [toldR_some hn]
    exact hd'
  · refine ⟨true, R.pp, fun _ a ha => ?_, fun z => by cases z⟩
    have x2 : Ex H1 (upd H' x (.xd [("line", .non)])) := (r.h.trans x').trans (Ex.new hx)
    match σ', hl with
    | [u0, u1], _ =>
      refine ⟨_, rfl, rfl, rfl, x, _, .non, rfl, upd_same, rfl, rfl, _, _, rfl, rfl, by decide, ?_⟩
      refine k _ G _ (e1.trans (ExtN.of x2)) (t1.ext x2) (Ex.refl _) (s1.trans x2) hG ?_
      rw [toldR_none hn]
      have e : (("parse " : Str) ++ ("None" : Str)) = ("parse None" : Str) := by decide +kernel
      rw [e]
      exact .str _ (by decide)
/-! ### the shapes of the law -/
def allSh : List PyData := menu ++ [sHo, .tuple [.str "op", .str "f", sHo, sLo, .tuple [.str "op", .str "one"]], .tuple [.str "store", .tuple [.str "op", .str "one"]]]
def shText (d : PyData) : Str := Txt.join " " (wds 6 d)
def shB (d : PyData) : Bool := isSh d && sOk 3 d && isTs 5 d || isSh d && sOk 3 d && stS 5 d
def shC (d : PyData) : Bool := decide ((wds 6 d).length ≤ 20) && decide (0 < (wds 6 d).length) && (wds 6 d).all wOk && decide (tx 4 d = shText d) && decide (Txt.split (shText d) " " = wds 6 d)
def shD (d : PyData) : Bool := PyData.eqv (.tuple (pin 6 d "hole" [])) (.tuple (lpa 6 d "hole")) && PyData.eqv (.tuple (pin 6 d "load" [])) (.tuple (lpa 6 d "load")) && PyData.eqv (rsO (.str (shText d))) d
def flS (d : PyData) : Bool := flatD d && SeqAt.shaped d
def shE (d : PyData) : Bool := flS (.tuple (pin 6 d "hole" [])) && flS (.tuple (lpa 6 d "hole")) && flS (.tuple (pin 6 d "load" [])) && flS (.tuple (lpa 6 d "load")) && flS (rsO (.str (shText d))) && flS d
theorem all_B : allSh.all shB = true := by decide +kernel
theorem all_C : allSh.all shC = true := by decide +kernel
theorem all_D : allSh.all shD = true := by decide +kernel
theorem all_E : allSh.all shE = true := by decide +kernel
theorem rs_sh {d : PyData} (h : d ∈ allSh) : rsO (.str (shText d)) ≠ .none := fun e => by
  have := List.all_eq_true.mp all_D d h
  unfold shD at this
  rw [e, Bool.and_eq_true] at this
  have h2 := this.2
  have h3 := List.all_eq_true.mp all_B d h
  unfold shB at h3
  simp only [Bool.or_eq_true, Bool.and_eq_true] at h3
  have h4 : isSh d = true := by rcases h3 with h3 | h3 <;> exact h3.1.1
  cases d <;> (first | (cases h4; done) | (cases h2; done))
end My
set_option maxHeartbeats 4000000
namespace My
open PySem L2 Lf Evl Tr StX PyProof LamX LfT
abbrev rJn (K : PySem.W.Frag) : V → List V → Hp → VK → Prop := fun x xs H Q => ∃ a p, ∃ ys : List Str, x = .str a ∧ xs = [.ref p] ∧ (SqL K H p (ys.map V.str) ∨ SqT K H p (ys.map V.str)) ∧ (ys.map (·.length)).sum + ys.length * a.length ≤ 16777216 ∧ Q (.str (Txt.join a ys)) H
theorem pe_callD0 {X : Cx} {CX : CXT} {k : Nat} {x : Str} {sp : Sp} {E : XK} {p pos : Pos} (D : DefOk X.prog X.w X.K X.mg X.base CX k x [] sp) (hr : Room k X.A) (hx : Passes CX X E) (hg : Gl X x := by rfl) (hdb : (x == ("__debug__" : Str)) = false := by decide) :
    PE X (.Call (.Name x p) [] [] pos) (tCallD sp E tNil) := by
  obtain ⟨f, fd, hm, hk, hb, F⟩ := D
  exact ⟨fun pins s σ H Q I h => (pe_call0 F hr hg hm hk hb (.nil) hx hdb).run pins s σ H Q I h⟩
section
variable {K : PySem.W.Frag} {σ : L2.St} {G : Hp} {ta tb te : TE} {d d2 : PyData} {CA CB CP : Addr} {E : XK}
theorem evd_menu : EvD (tCallD spMenu E tNil) σ G (.list menu) := evd_call evd_nil rfl
theorem evd_callQ {f : PyData → PyData} (h : EvD te σ G d) (c : isSh d = true) : EvD (tCallD (spQ CB f) E (tCons te tNil)) σ G (f d) := fun G1 H1 x s Q q => h G1 H1 x s _ fun v G2 H2 r hd =>
  ⟨G2, v, d, rfl, r.s, hd, fun _ v' G' H' r' hd' => q v' G' H' (r.trans r') hd', fun z => by rw [c] at z; cases z⟩
theorem ev_callWS (h : EvD te σ G d) (c : isSh d = true) : Ev (tCallD (spWS CB) E (tCons te tNil)) σ G (.str (shText d)) := fun H1 x Q q => h G H1 (Ex.refl _) x _ fun v G2 H2 r hd =>
  ⟨G2, v, d, rfl, r.s, hd, fun _ H' x' => q H' (r.h.trans x'), fun z => by rw [c] at z; cases z⟩
theorem evd_callRS (h : EvD te σ G d) (ok : okR d) (c : rsO d ≠ .none) : EvD (tCallD (spRS CP) E (tCons te tNil)) σ G (rsO d) := fun G1 H1 x s Q q => h G1 H1 x s _ fun v G2 H2 r hd =>
  ⟨G2, v, d, rfl, r.s, hd, ok, fun _ v' G' H' r' hd' => q v' G' H' (r.trans r') hd', fun z => absurd z c⟩
theorem ev_callFits (h : EvD ta σ G d) (h2 : EvD tb σ G d2) (c : isSh d = true) (c2 : okT d2 = true) : Ev (tCallD (spFits CA CB) E (tCons ta (tCons tb tNil))) σ G (.bl (fit 6 d d2)) := fun H1 x Q q => h G H1 (Ex.refl _) x _ fun v G2 H2 r hd => h2 G2 H2 r.g r.s _ fun v2 G3 H3 r3 hd2 =>
  ⟨G3, v, v2, d, d2, rfl, r3.s, hd.up r3.g, hd2, fun _ _ H' x' => q H' ((r.h.trans r3.h).trans x'), (fun z => by rw [c] at z; cases z), (fun _ z => by rw [c2] at z; cases z)⟩
theorem evd_callLP {z : Str} (h : EvD te σ G d) (hz : z.length ≤ 1000) (c : sOk 5 d = true) : EvD (tCallD (spLP 6) E (tCons te (tCons (tC (.str z)) tNil))) σ G (.list (lpa 6 d z)) := by
  refine evd_call (evd_cons h (evd_cons (evd_str ev_c hz) evd_nil)) ?_
  show (if (0 < 6 ∧ sOk (6 - 1) d = true) ∧ 6 ≤ 6 then some (PyData.list (lpa 6 d z)) else none) = _
  rw [if_pos ⟨⟨by decide, c⟩, Nat.le_refl _⟩]
theorem ev_callTx (h : EvD te σ G d) (c : sOk 3 d = true) : Ev (tCallD (spO (fTx 4)) E (tCons te tNil)) σ G (.str (tx 4 d)) := by
  refine EvD.str_ (evd_callO h ?_)
  show (if 0 < 4 ∧ sOk (4 - 1) d = true ∧ 4 ≤ 4 then some (PyData.str (tx 4 d)) else none) = _
  rw [if_pos ⟨by decide, c, Nat.le_refl _⟩]
theorem ev_holN (h : EvD ta σ G d) (h2 : EvD tb σ G d2) (c : fOk 5 d d2 = true) : Ev (tOp (fun x y H Q => y = V.non ∧ Q (.bl (!decide (x = V.non))) H) (tCallD (spH 6) E (tCons ta (tCons tb (tCons (tC (.str "s")) tNil)))) (tC V.non)) σ G (.bl (fit 6 d d2)) := fun H1 x Q q => h G H1 (Ex.refl _) x _ fun v G2 H2 r hd => h2 G2 H2 r.g r.s _ fun v2 G3 H3 r3 hd2 =>
  ⟨G3, v, v2, d, d2, "s", rfl, r3.s, hd.up r3.g, hd2, ⟨by decide, c⟩, by decide, by decide, fun e G' H' r' => ⟨rfl, by rw [e] at q; exact q H' ((r.h.trans r3.h).trans r'.h)⟩, fun e v' ds G' H' r' hd' _ => ⟨rfl, by
    obtain ⟨a, xs, rfl, _⟩ := hd'.lst_
    rw [e] at q
    exact q H' ((r.h.trans r3.h).trans r'.h)⟩⟩
theorem ev_neR {x y : Str} (ha : Ev ta σ G (.str x)) (hb : Ev tb σ G (.str y)) (e : x = y) : Ev (tOp rNe ta tb) σ G (.bl false) := by
  have h := ev_op ha hb (rv_ne (x := V.str x) (y := V.str y) rfl)
  rw [e, decide_eq_true rfl] at h
  exact h
theorem evd_catS {A B : List Str} (ha : EvD ta σ G (.list (A.map PyData.str))) (hb : EvD tb σ G (.list (B.map PyData.str))) (hl : A.length + B.length ≤ 100000) : EvD (tOp rCat ta tb) σ G (.list ((A ++ B).map PyData.str)) := by
  rw [List.map_append]
  exact evd_catL ha hb (by rw [List.length_map, List.length_map]; exact hl)
theorem evd_takeS {A : List Str} {n : Nat} (ha : EvD ta σ G (.list (A.map PyData.str))) (hb : Ev tb σ G (.int (n : Int))) : EvD (tSl (rSlL K) ta tNoPart (tPart tb)) σ G (.list ((A.take n).map PyData.str)) := by
  rw [List.map_take, ← cutD_to]
  exact evd_slL ha EvO.none_ (EvO.some_ hb)
theorem evd_dropS {A : List Str} {n : Nat} (ha : EvD ta σ G (.list (A.map PyData.str))) (hb : Ev tb σ G (.int (n : Int))) : EvD (tSl (rSlL K) ta (tPart tb) tNoPart) σ G (.list ((A.drop n).map PyData.str)) := by
  rw [List.map_drop, ← cutD_from]
  exact evd_slL ha (EvO.some_ hb) EvO.none_
end
theorem ts_up : ∀ {n : Nat} {d : PyData}, isTs n d = true → isTs (n + 1) d = true := fun h => isTs_succ _ _ h
theorem fOk_sh {d d2 : PyData} (h : shB d = true) (h2 : isTr 4 d2 = true ∨ stT 4 d2 = true) : fOk 5 d d2 = true := by
  unfold fOk
  rw [Bool.and_eq_true]
  constructor
  · unfold shB at h
    simp only [Bool.or_eq_true, Bool.and_eq_true] at h
    rcases h with h | h
    · rw [isTs_succ _ _ h.2]; rfl
    · rw [h.2, Bool.or_true]
  · rcases h2 with h2 | h2
    · rw [isTr_succ _ _ (isTr_succ _ _ h2)]; rfl
    · have : stT 5 d2 = true := by
        match d2, h2 with
        | .tuple [a, _, _, _, _, x], h2 =>
          have h2 : (isS "store" a && isTr 4 x) = true := h2
          rw [Bool.and_eq_true] at h2
          show (isS "store" a && isTr 5 x) = true
          rw [h2.1, isTr_succ _ _ h2.2]
          rfl
      rw [this, Bool.or_true]
theorem shB_of {d : PyData} (h : shB d = true) : isSh d = true ∧ sOk 3 d = true ∧ sOk 5 d = true := by
  have h0 : isSh d = true ∧ sOk 3 d = true := by
    unfold shB at h
    simp only [Bool.or_eq_true, Bool.and_eq_true] at h
    rcases h with h | h <;> exact h.1
  exact ⟨h0.1, h0.2, sh_sOk h0.1⟩
def spRt (T0 T1 : Addr) : Sp := fun vs H Q _ => ∃ L xs, vs = [.ref L] ∧ H L = some (.lst xs) ∧ Lm xs ∧ Tabs (tbs T0 T1) H ∧ ∀ H' xs', KeepN L H H' → H' L = some (.lst xs') → Lm xs' → Tabs (tbs T0 T1) H' → Q (.bl true) H'
def oddW : List Str := ["_", "@", "(", ")", "=", "f", "", "A", "hole"]
abbrev stD (t : PyData) : PyData := .tuple [.str "store", .str "s", .str "c", .int 1, .int 0, t]
theorem stD_ok {t : PyData} (h : isTr 4 t = true) : okT (stD t) = true ∧ stT 4 (stD t) = true := by
  have h2 : stT 4 (stD t) = true := by
    show (isS "store" (.str "store") && isTr 4 t) = true
    rw [h]; decide +kernel
  refine ⟨?_, h2⟩
  have h3 : isSt (stD t) = true := by
    unfold isSt
    dsimp only
    rw [if_neg (by rintro ⟨z, _⟩; simp at z), if_pos ⟨rfl, show isS "store" (.str "store") = true by decide +kernel⟩]
    show (isNm (.str "s") && (isNm (.str "c") && (isIn (.int 1) && (isIn (.int 0) && (!isZ (.int 1) && isTr 4 t))))) = true
    rw [h]
    decide +kernel
  unfold okT
  rw [h3, show isS "store" (hd0 (stD t)) = true from show isS "store" (.str "store") = true by decide +kernel]
  simp
section
variable {P : Program} {w : World} {K : PySem.W.Frag} {mg : Str → Option Value} {base : Heap} {CA CB CP fP : Addr}
theorem ok_law_right {c T0 T1 : Addr} (hne : T0 ≠ T1) (T : Txt P K mg CA CB CP fP) (R : ErrT K CA CB CP) (TB : TabB base mg c T0) (D : DfC K mg "_law_right" s_law_right c) (D_law_told : Df K mg "_law_told" s_law_told)
    (D_law_menu : DefOk P w K mg base CX0 1 "_law_menu" [] spMenu)
    (D_law_pull : DefOk P w K mg base CX0 1 "_law_pull" ["_law_urn_here", "_law_total"] (spDr Lm preT postT)) (D_law_one : DefOk P w K mg base CX0 2 "_law_one" ["_law_urn_here", "_law_items"] (spDr Lm preP postP))
    (D_law_tree : DefOk P w K mg base CX0 6 "_law_tree" ["_law_urn_here", "_law_level", "_law_sets"] (spDr Lm (preTr 4) (postTr 4)))
    (D_fits : DefOk P w K mg base (L2.CX P w) 11 "fits" ["shape", "tree"] (spFits CA CB)) (D_law_holes : DefOk P w K mg base CX0 8 "_law_holes" ["_law_shape", "_law_tree_here", "_law_text_here"] (spH 6))
    (D_holes : DefOk P w K mg base (L2.CX P w) 10 "holes" ["shape"] (spQ CB fun d => .tuple (pin 6 d "hole" []))) (D_loads : DefOk P w K mg base (L2.CX P w) 10 "loads" ["shape"] (spQ CB fun d => .tuple (pin 6 d "load" [])))
    (D_law_paths : DefOk P w K mg base CX0 7 "_law_paths" ["_law_shape", "_law_word"] (spLP 6)) (D_write_shape : DefOk P w K mg base (L2.CX P w) 10 "write_shape" ["shape"] (spWS CB)) (D_law_text : DefOk P w K mg base CX0 5 "_law_text" ["_law_shape"] (spO (fTx 4)))
    (D_read_shape : DefOk P w K mg base (L2.CX P w) 11 "read_shape" ["text"] (spRS CP)) :
    DefOkG P w K mg base CX0 14 "_law_right" ["_law_urn_here"] (spRt T0 T1) := by
  refine D.okG sc_law_right (fun _ _ _ _ _ _ us hl => match us, hl with | [_], _ => rfl) (fun vs H Q E h => ?_) (fun f A outer s H vs Q E hg hr h => ?_)
  · obtain ⟨L, xs, rfl, _⟩ := h
    rfl
  obtain ⟨L, xs, rfl, hL, hx, tb, q⟩ := h
  refine ⟨_, (pss_cons (ps_set (i := 1) sc_law_right.nd rfl (Or.inl rfl) (pe_op op_cat (pe_callD0 D_law_menu (hr.mono (by decide)) pass0) (pe_lst (pa_cons (pe_tup (pa_cons pe_str pa_nil)) (pa_cons (pe_tup (pa_cons pe_str (pa_cons pe_str (pa_cons (pe_tup (pa_cons pe_str pa_nil)) (pa_cons (pe_tup (pa_cons pe_str pa_nil)) (pa_cons (pe_tup (pa_cons pe_str (pa_cons pe_str pa_nil))) pa_nil)))))) (pa_cons (pe_tup (pa_cons pe_str (pa_cons (pe_tup (pa_cons pe_str (pa_cons pe_str pa_nil))) pa_nil))) pa_nil))))))
 (pss_cons (ps_par (by rfl) sc_law_right.nd (i := 2) (j := 3) rfl rfl (by decide) rfl rfl (pa_cons (pe_callD D_law_one (hr.mono (by decide)) pass0 (pa_cons (pv 0) (pa_cons (pv 1) pa_nil))) (pa_cons (pe_callD D_law_tree (hr.mono (by decide)) pass0 (pa_cons (pv 0) (pa_cons pe_int (pa_cons (pe_lst (pa_cons pe_str pa_nil)) pa_nil)))) pa_nil)) (by rfl))
 (pss_cons (ps_for PassesOwn.never rfl (pi_tup (pe_tup (pa_cons (pv 3) (pa_cons (pe_tup (pa_cons pe_str (pa_cons pe_str (pa_cons pe_str (pa_cons pe_int (pa_cons pe_int (pa_cons (pv 3) pa_nil))))))) pa_nil)))) (pg_name (i := 4) sc_law_right.nd rfl (Or.inl rfl))
 (pss_one (ps_if (pt_cmpR op_ne (pe_callB (call_reprD hg hr) (by rfl) T.n_repr (by decide +kernel) (pa_cons (pe_callD D_fits (hr.mono (by decide)) passL (pa_cons (pv 2) (pa_cons (pv 4) pa_nil))) pa_nil)) (pe_callB (call_reprD hg hr) (by rfl) T.n_repr (by decide +kernel) (pa_cons (pe_cmpR op_notN (pe_callD D_law_holes (hr.mono (by decide)) pass0 (pa_cons (pv 2) (pa_cons (pv 4) (pa_cons pe_str pa_nil)))) pe_non (nomark _)) pa_nil)) (nomark _))
 (pss_one (ps_ret pe_bl))
 pss_nil)))
 (pss_cons (ps_if (PW.pt (pw_or (pt_cmpR (op_neD hr.units) (pe_callD D_holes (hr.mono (by decide)) passL (pa_cons (pv 2) pa_nil)) (pe_callTy call_tuple_of (by rfl) T.n_tuple (by decide +kernel) (pa_cons (pe_callD D_law_paths (hr.mono (by decide)) pass0 (pa_cons (pv 2) (pa_cons pe_str pa_nil))) pa_nil)) (nomark _)) (pw_or1 (pt_cmpR (op_neD hr.units) (pe_callD D_loads (hr.mono (by decide)) passL (pa_cons (pv 2) pa_nil)) (pe_callTy call_tuple_of (by rfl) T.n_tuple (by decide +kernel) (pa_cons (pe_callD D_law_paths (hr.mono (by decide)) pass0 (pa_cons (pv 2) (pa_cons pe_str pa_nil))) pa_nil)) (nomark _)))))
 (pss_one (ps_ret pe_bl))
 pss_nil)
 (pss_cons (ps_set (i := 5) sc_law_right.nd rfl (Or.inl rfl) (pe_callD D_write_shape (hr.mono (by decide)) passL (pa_cons (pv 2) pa_nil)))
 (pss_cons (ps_if (PW.pt (pw_or (pt_cmpR op_ne (pv 5) (pe_callD D_law_text (hr.mono (by decide)) pass0 (pa_cons (pv 2) pa_nil)) (nomark _)) (pw_or1 (pt_cmpR (op_neD hr.units) (pe_callD D_read_shape (hr.mono (by decide)) passL (pa_cons (pv 5) pa_nil)) (pv 2) (nomark _)))))
 (pss_one (ps_ret pe_bl))
 pss_nil)
 (pss_cons (ps_set (i := 6) sc_law_right.nd rfl (Or.inl rfl) (pe_split (pv 5) pe_str))
 (pss_cons (ps_par (by rfl) sc_law_right.nd (i := 7) (j := 8) rfl rfl (by decide) rfl rfl (pa_cons (pe_callD D_law_pull (hr.mono (by decide)) pass0 (pa_cons (pv 0) (pa_cons (pe_callB call_len_seq (by rfl) T.n_len (by decide +kernel) (pa_cons (pv 6) pa_nil)) pa_nil))) (pa_cons (pe_callD D_law_one (hr.mono (by decide)) pass0 (pa_cons (pv 0) (pa_cons (pe_lst (pa_cons pe_str (pa_cons pe_str (pa_cons pe_str (pa_cons pe_str (pa_cons pe_str (pa_cons pe_str (pa_cons pe_str (pa_cons pe_str (pa_cons pe_str pa_nil)))))))))) pa_nil))) pa_nil)) (by rfl))
 (pss_cons (ps_for PassesOwn.never rfl (pi_tup (pe_tup (pa_cons (pe_op op_cat (pe_op op_cat (pe_slice sl_list (pv 6) po_none (po_some (pv 7))) (pe_lst (pa_cons (pv 8) pa_nil))) (pe_slice sl_list (pv 6) (po_some (pe_op op_add (pv 7) pe_int)) po_none)) (pa_cons (pe_op op_cat (pe_slice sl_list (pv 6) po_none (po_some (pv 7))) (pe_slice sl_list (pv 6) (po_some (pe_op op_add (pv 7) pe_int)) po_none)) (pa_cons (pe_op op_cat (pe_op op_cat (pe_slice sl_list (pv 6) po_none (po_some (pv 7))) (pe_lst (pa_cons (pv 8) pa_nil))) (pe_slice sl_list (pv 6) (po_some (pv 7)) po_none)) pa_nil))))) (pg_name (i := 9) sc_law_right.nd rfl (Or.inr rfl))
 (pss_cons (ps_set (i := 10) sc_law_right.nd rfl (Or.inl rfl) (LfT.pe_toldM (k := 11) D_law_told (by rfl) sc_law_told (by rfl) (by first | exact .inl rfl | exact .inr rfl | decide +kernel) (fun _ _ _ _ _ _ us hl => match us, hl with | [_], _ => rfl) (fun g cdg s H => hd_told T R g cdg s H) (fun _ => rfl) TB rfl (Tb := tbs T0 T1) (.head _) (LfT.tab_one hne) (by rfl) (hr.mono (by decide)) (show LamX.LamS (defScope s_law_right) _ from LamX.lamS_by (by decide +kernel)) rfl (fun _ _ _ _ _ => rfl) (fun _ _ _ _ _ _ _ hr => (pe_callD D_read_shape (hr.mono (by decide)) (passes_call (takes_of rfl rfl rfl rfl) (fun _ _ _ _ h => h)) (pa_cons (show PE _ _ (tM1 (rJn K) _ _) from pe_join pe_str (pv 9)) pa_nil)))))
 (pss_one (ps_if (PW.pt (pw_and (pt_cmpR (op_neS hr.units0) (pv 10) pe_str (nomark _)) (pw_and1 (PW.pt (pw_or (pt_val (pe_callB call_isi (by rfl) T.n_isinstance (by decide +kernel) (pa_cons (pv 10) (pa_cons (pe_bltn (v := .ty "str") (by rfl) T.n_str (by decide +kernel) rfl) pa_nil)))) (pw_or1 (pt_cmpR op_ne (pe_callD D_write_shape (hr.mono (by decide)) passL (pa_cons (pv 10) pa_nil)) (pe_join pe_str (pv 9)) (nomark _))))))))
 (pss_one (ps_ret pe_bl))
 pss_nil))))
 (pss_one (ps_ret pe_bl))))))))))), ?_⟩
  have w0 : At Lm L (fun _ => none) H := ⟨(fun a o h => by cases h), rfl, xs, hL, hx⟩
  refine q_asgR w0 (dr_of (d := .list allSh) (evd_catL evd_menu (by repeat (first | exact evd_nil | exact evd_str ev_c (by decide) | refine evd_cons ?_ ?_ | refine evd_tup ?_ (by simp) | refine evd_lst ?_ (by simp))) (by simp [menu]))) (fun v1 d1 G1 H1 r1 e1 hd1 => ?_)
  subst e1
  refine q_parR r1.w (drs_cons (dr_pick rfl (evd_var rfl hd1) (by decide) (by decide)) (drs_cons (dr_call (Pre := preTr 4) (Post := postTr 4) rfl (drs_of (evd_cons (evd_int ev_c) (evd_cons (evd_lst (evd_cons (evd_str ev_c (by decide)) evd_nil) (by simp)) evd_nil))) (fun ds e => ⟨4, e, by decide, by decide⟩)) drs_nil)) (fun v2 v3 d2 d3 G2 H2 r2 p hd2 hd3 => ?_) ?_
  · obtain ⟨_, _, e, hsh, _, _, e2, ⟨_, _, htr⟩, rfl⟩ := p
    cases e
    cases e2
    have htr : isTr 4 d3 = true := htr
    have hB := List.all_eq_true.mp all_B d2 hsh
    have hC := List.all_eq_true.mp all_C d2 hsh
    have hD := List.all_eq_true.mp all_D d2 hsh
    have hE := List.all_eq_true.mp all_E d2 hsh
    obtain ⟨c1, c2, c3⟩ := shB_of hB
    have hm0 : ∀ z ∈ wds 6 d2, wOk z = true := by
      unfold shC at hC
      simp only [Bool.and_eq_true, decide_eq_true_eq, List.all_eq_true] at hC
      exact hC.1.1.2
    unfold shC at hC
    simp only [Bool.and_eq_true, decide_eq_true_eq] at hC
    obtain ⟨⟨⟨⟨hl20, hl0⟩, _⟩, htx⟩, hsp⟩ := hC
    unfold shD at hD
    simp only [Bool.and_eq_true] at hD
    obtain ⟨⟨q1, q2⟩, q3⟩ := hD
    unfold shE flS at hE
    simp only [Bool.and_eq_true] at hE
    obtain ⟨⟨⟨⟨⟨⟨a1, a2⟩, b1, b2⟩, g1, g2⟩, i1, i2⟩, j1, j2⟩, k1, k2⟩ := hE
    obtain ⟨hlen, hok⟩ := near_ok (ws := wds 6 d2) (by omega) hm0
    have hlen : (shText d2).length ≤ 900 := hlen
    have hok : okR (.str (shText d2)) := hok
    refine q_forT (ds := [d3, stD d3]) r2.w.s (evd_tup (evd_cons (evd_var rfl hd3) (evd_cons (evd_tup (evd_cons (evd_str ev_c (by decide)) (evd_cons (evd_str ev_c (by decide)) (evd_cons (evd_str ev_c (by decide)) (evd_cons (evd_int ev_c) (evd_cons (evd_int ev_c) (evd_cons (evd_var rfl hd3) evd_nil)))))) (by simp)) evd_nil)) (by simp)) (fun G3 H3 r3 => ?_)
    have hd2 := hd2.up r3.g
    refine ⟨fun i σ' H' => ∃ u, σ' = [some (.ref L), some v1, some v2, some v3, u, none, none, none, none, none, none] ∧ Ex H3 H', ⟨_, rfl, Ex.refl _⟩, ?_, ?_, ?_⟩
    · rintro i σ' H' ⟨u, rfl, y⟩
      exact r3.s.trans y
    · rintro i d x σ' H' hdi hdv ⟨u, rfl, y⟩
      have hm : d = d3 ∨ d = stD d3 := by simpa using List.mem_of_getElem? hdi
      have ht : okT d = true ∧ (isTr 4 d = true ∨ stT 4 d = true) := by
        rcases hm with rfl | rfl
        · exact ⟨by unfold okT; rw [htr]; rfl, .inl htr⟩
        · exact ⟨(stD_ok htr).1, .inr (stD_ok htr).2⟩
      exact s_ifD (r3.s.trans y) (et_test (ev_neR (ev_reprB (ev_callFits (evd_var rfl hd2) (evd_var rfl hdv) c1 ht.1)) (ev_reprB (ev_holN (evd_var rfl hd2) (evd_var rfl hdv) (fOk_sh hB ht.2))) rfl)) (fun z => by cases z) (fun _ H4 x4 => ⟨_, rfl, y.trans x4⟩)
    · rintro σ' H' ⟨u, rfl, y⟩
      have r13 := (r1.trans r2).gr r3
      have w3 := r13.w.up y
      refine q_ifD w3.s (et_is (b := false) (et_or (b := false) (et_test (ev_is (ev_neD (evd_callQ (f := fun d => .tuple (pin 6 d "hole" [])) (evd_var rfl hd2) c1) (evd_tupleOfL (evd_callLP (evd_var rfl hd2) (by decide) c3)) a1 b1 a2 b2) (congrArg (fun b => V.bl (!b)) q1))) (fun _ => et_test (ev_is (ev_neD (evd_callQ (f := fun d => .tuple (pin 6 d "load" [])) (evd_var rfl hd2) c1) (evd_tupleOfL (evd_callLP (evd_var rfl hd2) (by decide) c3)) g1 i1 g2 i2) (congrArg (fun b => V.bl (!b)) q2)))) rfl) (fun z => by cases z) (fun _ H4 x4 => ?_)
      have w4 := w3.up x4
      refine q_asgD w4.s (d := .str (shText d2)) (evd_str (ev_callWS (evd_var rfl hd2) c1) (by omega)) (fun v5 G5 H5 r5 hd5 => ?_)
      have w5 := (GrB.of w4 r5).w
      have hd2 := hd2.up r5.g
      refine q_ifD w5.s (et_is (b := false) (et_or (b := false) (et_test (ev_is (ev_neSS (EvD.str_ (evd_var rfl hd5)) (ev_callTx (evd_var rfl hd2) c2)) (congrArg (fun b => V.bl (!b)) (decide_eq_true htx.symm)))) (fun _ => et_test (ev_is (ev_neD (evd_callRS (evd_var rfl hd5) hok (rs_sh hsh)) (evd_var rfl hd2) j1 k1 j2 k2) (congrArg (fun b => V.bl (!b)) q3)))) rfl) (fun z => by cases z) (fun _ H6 x6 => ?_)
      have w6 := w5.up x6
      have hs8 : ∀ z ∈ wds 6 d2, z.length ≤ 8 := fun z hz => by have := hm0 z hz; unfold wOk at this; rw [Bool.and_eq_true, decide_eq_true_eq] at this; exact this.1
      refine q_asgD w6.s (d := .list ((wds 6 d2).map PyData.str)) (EvD.is (evd_split (EvD.str_ (evd_var rfl hd5)) ev_c (by decide +kernel) (Nat.le_trans (show _ ≤ 1000 by omega) (by decide)) (fun z hz => by rw [hsp] at hz; have := hs8 z hz; omega)) (by rw [hsp])) (fun v6 G7 H7 r7 hd6 => ?_)
      have w7 := (GrB.of w6 r7).w
      have hd2 := hd2.up r7.g
      refine q_parR w7 (drs_cons (dr_turn rfl (ev_lenL (evd_var rfl hd6)) (by rw [List.length_map]; omega) (by rw [List.length_map]; omega)) (drs_cons (dr_pick (ds := oddW.map PyData.str) rfl (evd_lst (evd_cons (evd_str ev_c (by decide)) (evd_cons (evd_str ev_c (by decide)) (evd_cons (evd_str ev_c (by decide)) (evd_cons (evd_str ev_c (by decide)) (evd_cons (evd_str ev_c (by decide)) (evd_cons (evd_str ev_c (by decide)) (evd_cons (evd_str ev_c (by decide)) (evd_cons (evd_str ev_c (by decide)) (evd_cons (evd_str ev_c (by decide)) evd_nil))))))))) (by decide)) (by decide) (by decide)) drs_nil)) (fun v7 v8 d7 d8 G8 H8 r8 p hd7 hd8 => ?_) ?_
      · obtain ⟨_, _, e, ⟨j, rfl, j0, j1⟩, _, _, e2, hodd, rfl⟩ := p
        cases e
        cases e2
        cases hd7.int_
        obtain ⟨n, rfl⟩ : ∃ n : Nat, j = (n : Int) := ⟨j.toNat, by omega⟩
        obtain ⟨x, hx8, rfl⟩ := List.mem_map.mp hodd
        have hxo : wOk x = true := List.all_eq_true.mp (show oddW.all wOk = true by decide +kernel) x hx8
        have hd6 := hd6.up r8.g
        have hd2 := hd2.up r8.g
        have one : EvD (tLst (tCons (tVar 8) tNil)) [some (.ref L), some v1, some v2, some v3, u, some v5, some v6, some (.int (n : Int)), some v8, none, none] G8 (.list (([x] : List Str).map PyData.str)) := evd_lst (evd_cons (evd_var rfl hd8) evd_nil) (by simp)
        have suc : Ev (tOp (rI0 fun i j => .int (i + j)) (tVar 7) (tC (.int 1))) [some (.ref L), some v1, some v2, some v3, u, some v5, some v6, some (.int (n : Int)), some v8, none, none] G8 (.int ((n + 1 : Nat) : Int)) := ev_op (ev_var rfl) ev_c rv_I0
        let near : List (List Str) := [(wds 6 d2).take n ++ [x] ++ (wds 6 d2).drop (n + 1), (wds 6 d2).take n ++ (wds 6 d2).drop (n + 1), (wds 6 d2).take n ++ [x] ++ (wds 6 d2).drop n]
        have hnear : ∀ l ∈ near, l.length ≤ 60 ∧ ∀ z ∈ l, wOk z = true := fun l hl => by
          have tk := List.length_take_le n (wds 6 d2)
          have dk : ((wds 6 d2).drop n).length ≤ 20 := by rw [List.length_drop]; omega
          have dk2 : ((wds 6 d2).drop (n + 1)).length ≤ 20 := by rw [List.length_drop]; omega
          have tk2 : ((wds 6 d2).take n).length ≤ 20 := by rw [List.length_take]; omega
          have m1 : ∀ z ∈ (wds 6 d2).take n, wOk z = true := fun z hz => hm0 z (List.mem_of_mem_take hz)
          have m2 : ∀ k, ∀ z ∈ (wds 6 d2).drop k, wOk z = true := fun k z hz => hm0 z (List.mem_of_mem_drop hz)
          simp only [near, List.mem_cons, List.not_mem_nil, or_false] at hl
          rcases hl with rfl | rfl | rfl
          · refine ⟨by simp only [List.length_append, List.length_cons, List.length_nil]; omega, fun z hz => ?_⟩
            simp only [List.mem_append, List.mem_cons, List.not_mem_nil, or_false] at hz
            rcases hz with (hz | rfl) | hz
            · exact m1 z hz
            · exact hxo
            · exact m2 _ z hz
          · refine ⟨by simp only [List.length_append]; omega, fun z hz => ?_⟩
            simp only [List.mem_append] at hz
            rcases hz with hz | hz
            · exact m1 z hz
            · exact m2 _ z hz
          · refine ⟨by simp only [List.length_append, List.length_cons, List.length_nil]; omega, fun z hz => ?_⟩
            simp only [List.mem_append, List.mem_cons, List.not_mem_nil, or_false] at hz
            rcases hz with (hz | rfl) | hz
            · exact m1 z hz
            · exact hxo
            · exact m2 _ z hz
        have hwl : (wds 6 d2).length ≤ 20 := hl20
        refine q_forT (ds := near.map fun l => PyData.list (l.map PyData.str)) r8.w.s (evd_tup (evd_cons (evd_catS (evd_catS (evd_takeS (evd_var rfl hd6) (ev_var rfl)) one (by simp; omega)) (evd_dropS (evd_var rfl hd6) suc) (by simp; omega)) (evd_cons (evd_catS (evd_takeS (evd_var rfl hd6) (ev_var rfl)) (evd_dropS (evd_var rfl hd6) suc) (by simp; omega)) (evd_cons (evd_catS (evd_catS (evd_takeS (evd_var rfl hd6) (ev_var rfl)) one (by simp; omega)) (evd_dropS (evd_var rfl hd6) (ev_var rfl)) (by simp; omega)) evd_nil))) (show 3 ≤ 100000 by decide)) (fun G9 H9 r9 => ?_)
        have rAll := (GrB.of r8.w r9)
        have w9 := rAll.w
        have r29 : GrB Lm L (fun _ => none) H G9 H9 := ((((((r13.trans (GrB.keep r13.w y)).trans (GrB.keep w3 x4)).gr r5).trans (GrB.keep w5 x6)).gr r7).trans r8).gr r9
        have data9 : ∀ a o, G9 a = some o → dataO o = true := fun a o h => by
          rcases r29.t a o h with z | z
          · cases z
          · exact z
        obtain ⟨xs9, hL9, hx9⟩ := w9.l
        have tb9 := tabs_exB tb r29.h hL
        refine ⟨fun i σ' H' => ∃ u9 u10, σ' = [some (.ref L), some v1, some v2, some v3, u, some v5, some v6, some (.int (n : Int)), some v8, u9, u10] ∧ Ex G9 H' ∧ H' L = some (.lst xs9) ∧ Tabs (tbs T0 T1) H' ∧ KeepN L H9 H', ⟨_, _, rfl, w9.s, hL9, tb9, fun _ _ _ h _ => h⟩, ?_, ?_, ?_⟩
        · rintro i σ' H' ⟨u9, u10, rfl, s9, _⟩
          exact s9
        · rintro i d z σ' H' hdi hdv ⟨u9, u10, rfl, s9, hL', tb', kn⟩
          obtain ⟨l, hl, rfl⟩ := List.mem_map.mp (List.mem_of_getElem? hdi)
          obtain ⟨l60, lok⟩ := hnear l hl
          obtain ⟨tl9, tok⟩ := near_ok l60 lok
          refine told_rs R (evd_str (ev_join ev_c (evd_var rfl hdv) (by omega) (by decide)) (by omega)) tok data9 s9 tb' (fun vt G' H2 e1 t1 g1 s1 hG' hdt => ?_)
          have fin : ∀ H3, Ex H2 H3 → ∃ u9 u10, ([some (.ref L), some v1, some v2, some v3, u, some v5, some v6, some (.int (n : Int)), some v8, some z, some vt] : L2.St) = [some (.ref L), some v1, some v2, some v3, u, some v5, some v6, some (.int (n : Int)), some v8, u9, u10] ∧ Ex G9 H3 ∧ H3 L = some (.lst xs9) ∧ Tabs (tbs T0 T1) H3 ∧ KeepN L H9 H3 := fun H3 x3 =>
            ⟨_, _, rfl, (g1.trans s1).trans x3, x3 _ _ (e1 _ _ hL' (fun ps z => by cases z)), t1.ext x3, kn.trans ((KeepN.ofN e1).trans (KeepN.of x3))⟩
          by_cases hr : rsO (.str (Txt.join " " l)) = .none
          · rw [toldR_none hr] at hdt
            exact s_ifD s1 (et_is (b := false) (et_andF (et_test (ev_is (ev_neS (evd_var rfl hdt) ev_c) (by decide +kernel)))) rfl) (fun z => by cases z) (fun _ H3 x3 => fin H3 x3)
          · rw [toldR_some hr] at hdt
            obtain ⟨hsh2, hback⟩ := rs_back hr
            exact s_ifD s1 (et_is (b := false) (et_and (b := false) (et_test (ev_is (w := .bl true) (ev_neS (evd_var rfl hdt) ev_c) (by rw [sh_isS hsh2]; rfl))) (fun _ => et_is (et_or (b := false) (et_test (ev_is (w := .bl false) (ev_isStr (evd_var rfl hdt)) (by rw [sh_kd hsh2]; decide +kernel))) (fun _ => et_test (ev_is (w := .bl false) (ev_neSS (ev_callWS (evd_var rfl hdt) hsh2) (ev_join ev_c (evd_var rfl (hdv.up g1)) (by omega) (by decide))) (by unfold shText; rw [hback, decide_eq_true rfl]; rfl)))) rfl)) rfl) (fun z => by cases z) (fun _ H3 x3 => fin H3 x3)
        · rintro σ' H' ⟨u9, u10, rfl, s9, hL', tb', kn⟩
          exact q H' xs9 ((KeepN.ofB r29.h).trans kn) hL' hx9 tb'
      · rintro ds ⟨_, _, rfl, _, _, _, rfl, _, rfl⟩
        rfl
  · rintro ds ⟨_, _, rfl, _, _, _, rfl, _, rfl⟩
    rfl
end
end My
set_option maxHeartbeats 4000000
namespace My
open PySem L2 Lf Evl Tr StX PyProof LamX LfT
section
variable {K : PySem.W.Frag} {σ : L2.St} {G H : Hp} {te : TE} {d d2 : PyData} {CA CB CP : Addr} {Tb : List (Addr × Str)}
theorem evd_dnew : EvD tDNewK σ G (.dict []) := fun G1 H1 x s Q q => fun p hp => have n := Gr.new (o := .dK []) s hp rfl; q (.ref p) _ _ n (.dic upd_same)
theorem says_A {tl : XK → TE} (R : ErrT K CA CB CP) (hG : ∀ a o, G a = some o → dataO o = true) (h : ∀ H1, Ex G H1 → ∀ (E : XK) (Q' : VK), (∀ d H', Ex H1 H' → E (.ref CA) d H') → tl E σ H1 Q') : Says (tLam Tb (TMix K 2 (lTold CA CB CP)) tl) σ G Tb "tree" := fun H s t Q k =>
  ⟨t, fun H1 e1 t1 => h H1 (exn_view hG s e1) _ _ fun d H' x σ' hl => ⟨false, R.ap, (fun z => by cases z), fun _ => ⟨true, R.aa, (fun _ a ha => k H' (e1.trans (ExtN.of x)) (t1.ext x) ((exn_view hG s e1).trans x)), fun z => by cases z⟩⟩⟩
theorem says_B {tl : XK → TE} (R : ErrT K CA CB CP) (hG : ∀ a o, G a = some o → dataO o = true) (h : ∀ H1, Ex G H1 → ∀ (E : XK) (Q' : VK), (∀ d H', Ex H1 H' → E (.ref CB) d H') → tl E σ H1 Q') : Says (tLam Tb (TMix K 2 (lTold CA CB CP)) tl) σ G Tb "argument" := fun H s t Q k =>
  ⟨t, fun H1 e1 t1 => h H1 (exn_view hG s e1) _ _ fun d H' x σ' hl => ⟨false, R.bp, (fun z => by cases z), fun _ => ⟨false, R.ba, (fun z => by cases z), fun _ => ⟨true, R.bb, (fun _ a ha => k H' (e1.trans (ExtN.of x)) (t1.ext x) ((exn_view hG s e1).trans x)), fun z => by cases z⟩⟩⟩⟩
theorem says_P (R : ErrT K CA CB CP) (hG : ∀ a o, G a = some o → dataO o = true) (hte : EvD te σ G d) (hok : okR d) (hn : rsO d = .none) : Says (tLam Tb (TMix K 2 (lTold CA CB CP)) fun E => tCallD (spRS CP) E (tCons te tNil)) σ G Tb "parse None" := fun H s t Q k =>
  told_rs R hte hok hG s t fun v G' H' e1 t1 g1 s1 hG' hd => by
    rw [toldR_none hn] at hd
    obtain ⟨rfl, _⟩ := hd.str_
    exact k H' e1 t1 (g1.trans s1)
theorem no_Q {f : PyData → PyData} (h : EvD te σ G d) (c : isSh d = false) : ∀ H1, Ex G H1 → ∀ (E : XK) (Q' : VK), (∀ d H', Ex H1 H' → E (.ref CB) d H') → tCallD (spQ CB f) E (tCons te tNil) σ H1 Q' := fun H1 x E Q' k => h G H1 (Ex.refl _) x _ fun v G2 H2 r hd =>
  ⟨G2, v, d, rfl, r.s, hd, (fun z => by rw [c] at z; cases z), fun _ d' H' x' => k d' H' (r.h.trans x')⟩
theorem no_WS (h : EvD te σ G d) (c : isSh d = false) : ∀ H1, Ex G H1 → ∀ (E : XK) (Q' : VK), (∀ d H', Ex H1 H' → E (.ref CB) d H') → tCallD (spWS CB) E (tCons te tNil) σ H1 Q' := fun H1 x E Q' k => h G H1 (Ex.refl _) x _ fun v G2 H2 r hd =>
  ⟨G2, v, d, rfl, r.s, hd, (fun z => by rw [c] at z; cases z), fun _ d' H' x' => k d' H' (r.h.trans x')⟩
theorem no_fitsB {tb : TE} (h : EvD te σ G d) (h2 : EvD tb σ G d2) (c : isSh d = false) : ∀ H1, Ex G H1 → ∀ (E : XK) (Q' : VK), (∀ d H', Ex H1 H' → E (.ref CB) d H') → tCallD (spFits CA CB) E (tCons te (tCons tb tNil)) σ H1 Q' := fun H1 x E Q' k => h G H1 (Ex.refl _) x _ fun v G2 H2 r hd => h2 G2 H2 r.g r.s _ fun v2 G3 H3 r3 hd2 =>
  ⟨G3, v, v2, d, d2, rfl, r3.s, hd.up r3.g, hd2, (fun z => by rw [c] at z; cases z), (fun _ d' H' x' => k d' H' ((r.h.trans r3.h).trans x')), fun z => by rw [c] at z; cases z⟩
theorem no_fitsA {tb : TE} (h : EvD te σ G d) (h2 : EvD tb σ G d2) (c : isSh d = true) (c2 : okT d2 = false) : ∀ H1, Ex G H1 → ∀ (E : XK) (Q' : VK), (∀ d H', Ex H1 H' → E (.ref CA) d H') → tCallD (spFits CA CB) E (tCons te (tCons tb tNil)) σ H1 Q' := fun H1 x E Q' k => h G H1 (Ex.refl _) x _ fun v G2 H2 r hd => h2 G2 H2 r.g r.s _ fun v2 G3 H3 r3 hd2 =>
  ⟨G3, v, v2, d, d2, rfl, r3.s, hd.up r3.g, hd2, (fun _ z => by rw [c2] at z; cases z), (fun z => by rw [c] at z; cases z), fun _ _ d' H' x' => k d' H' ((r.h.trans r3.h).trans x')⟩
end
def oddD : List PyData := [.none, .int 0, .str "", .str "add", .tuple [], .list [], .dict [], .tuple [.str "at"], .tuple [.str "store"], .tuple [.str "op", .str "A"], .tuple [.str "hole", .int 1], .bool true]
def isNoneD : PyData → Bool
  | .none => true
  | _ => false
theorem isNoneD_iff {d : PyData} : isNoneD d = true ↔ d = .none := by cases d <;> simp [isNoneD]
def okRB : PyData → Bool
  | .str t => decide (t.length ≤ 900) && PyData.strOk t
  | _ => true
theorem okRB_ok {d : PyData} (h : okRB d = true) : okR d := by
  cases d with
  | str t =>
    have h : (decide (t.length ≤ 900) && PyData.strOk t) = true := h
    rw [Bool.and_eq_true, decide_eq_true_eq] at h
    exact okR_of h.1 h.2
  | _ => trivial
def oddB (d : PyData) : Bool := !isSh d && !okT d && isNoneD (rsO d) && okRB d
theorem all_odd : oddD.all oddB = true := by decide +kernel
def badT : List Str := ["add ( _ ) )", "= = _", "add ( _ _ _ _ )", "( ) ( )", "f ( = _ )"]
theorem all_bad : badT.all (fun t => okRB (.str t) && isNoneD (rsO (.str t))) = true := by decide +kernel
def spLaw (K : PySem.W.Frag) (cs : List (Addr × Addr)) : Sp := fun vs H Q _ => ∃ (a : Addr) (ns : List Int), vs = [.ref a] ∧ SqL K H a (ns.map V.int) ∧ (∀ p ∈ cs, H p.2 = some (.tbl #[])) ∧ ∀ H', Q (.bl true) H'
def stX : PyData := .tuple [.str "store", .str "s", .str "c", .int 1, .int 0, .tuple [.str "at", .str "x", .int 1]]
def shX : List PyData := [rsO (.str "one ( )"), rsO (.str "= @"), .bool (fit 6 sHo stX), .bool (fit 6 (.tuple [.str "store", sHo]) stX)]
def shY : List PyData := [.tuple [.str "op", .str "one"], .tuple [.str "store", sLo], .bool false, .bool true]
theorem shX_ok : (okRB (.str "one ( )") && okRB (.str "= @") && !isNoneD (rsO (.str "one ( )")) && !isNoneD (rsO (.str "= @")) && isSh sHo && isSh (.tuple [.str "store", sHo]) && okT stX && flatD (.list shX) && flatD (.list shY) && SeqAt.shaped (.list shX) && SeqAt.shaped (.list shY) && PyData.eqv (.list shX) (.list shY)) = true := by decide +kernel
section
variable {P : Program} {w : World} {K : PySem.W.Frag} {mg : Str → Option Value} {base : Heap} {CA CB CP fP : Addr}
theorem ok_law {f0 c0 c1 T0 T1 : Addr} {fd : FuncData} (hne : T0 ≠ T1) (T : Txt P K mg CA CB CP fP) (R : ErrT K CA CB CP) (TB : TabB base mg c1 T1) (F : Fun K "law" "law" s_law f0 fd) (hc : fd.code = .ref c1) (D_law_told : Df K mg "_law_told" s_law_told)
    (D_law_urn : DefOk P w K mg base CX0 1 "_law_urn" ["_law_script", "_law_at"] (spUrn K)) (D_law_one : DefOk P w K mg base CX0 2 "_law_one" ["_law_urn_here", "_law_items"] (spDr Lm preP postP))
    (D_fits : DefOk P w K mg base (L2.CX P w) 11 "fits" ["shape", "tree"] (spFits CA CB))
    (D_holes : DefOk P w K mg base (L2.CX P w) 10 "holes" ["shape"] (spQ CB fun d => .tuple (pin 6 d "hole" []))) (D_write_shape : DefOk P w K mg base (L2.CX P w) 10 "write_shape" ["shape"] (spWS CB))
    (D_read_shape : DefOk P w K mg base (L2.CX P w) 11 "read_shape" ["text"] (spRS CP)) (D_law_right : DefOkG P w K mg base CX0 14 "_law_right" ["_law_urn_here"] (spRt T0 T1)) :
    FnOkG P w K mg base CX0 15 f0 fd ["_law_script"] (spLaw K [(c0, T0), (c1, T1)]) := by
  refine F.okGC hc sc_law (fun vs H Q E h => ?_) (fun A outer s H vs Q E hg hr h => ?_)
  · obtain ⟨a, ns, rfl, _⟩ := h
    rfl
  obtain ⟨a, ns, rfl, hS, tb0, q⟩ := h
  have tb : Tabs (tbs T0 T1) H := fun p hp => by
    rcases List.mem_cons.mp hp with rfl | hp
    · exact TabS.nil (tb0 (c0, T0) (.head _))
    · cases List.mem_singleton.mp hp
      exact TabS.nil (tb0 (c1, T1) (.tail _ (.head _)))
  clear tb0
  refine ⟨_, (pss_cons (ps_for PassesOwn.never rfl (pi_range1 (by rfl) T.n_range (pa_cons (pe_callB (call_max2 rfl) (by rfl) T.n_max (by decide +kernel) (pa_cons pe_int (pa_cons (pe_callB (call_min2 rfl) (by rfl) T.n_min (by decide +kernel) (pa_cons pe_int (pa_cons (pe_callB call_len_seq (by rfl) T.n_len (by decide +kernel) (pa_cons (pv 0) pa_nil)) pa_nil))) pa_nil))) pa_nil)) (pg_name (i := 1) sc_law.nd rfl (Or.inl rfl))
 (pss_cons (ps_set (i := 2) sc_law.nd rfl (Or.inl rfl) (pe_callD D_law_urn (hr.mono (by decide)) pass0 (pa_cons (pv 0) (pa_cons (pv 1) pa_nil))))
 (pss_cons (ps_for PassesOwn.never rfl (pi_range1 (by rfl) T.n_range (pa_cons pe_int pa_nil)) (pg_name (i := 3) sc_law.nd rfl (Or.inl rfl))
 (pss_one (ps_if (pt_not (pt_val (pe_callDG D_law_right hg (hr.mono (by decide)) pass0 (pa_cons (pv 2) pa_nil))))
 (pss_one (ps_ret pe_bl))
 pss_nil)))
 (pss_cons (ps_set (i := 4) sc_law.nd rfl (Or.inr rfl) (pe_callD D_law_one (hr.mono (by decide)) pass0 (pa_cons (pv 2) (pa_cons (pe_lst (pa_cons pe_non (pa_cons pe_int (pa_cons pe_str (pa_cons pe_str (pa_cons (pe_tup pa_nil) (pa_cons (pe_lst pa_nil) (pa_cons pe_dnewK (pa_cons (pe_tup (pa_cons pe_str pa_nil)) (pa_cons (pe_tup (pa_cons pe_str pa_nil)) (pa_cons (pe_tup (pa_cons pe_str (pa_cons pe_str pa_nil))) (pa_cons (pe_tup (pa_cons pe_str (pa_cons pe_int pa_nil))) (pa_cons pe_bl pa_nil))))))))))))) pa_nil))))
 (pss_cons (ps_set (i := 5) sc_law.nd rfl (Or.inl rfl) (pe_lst (pa_cons (LfT.pe_toldM (k := 11) D_law_told (by rfl) sc_law_told (by rfl) (by first | exact .inl rfl | exact .inr rfl | decide +kernel) (fun _ _ _ _ _ _ us hl => match us, hl with | [_], _ => rfl) (fun g cdg s H => hd_told T R g cdg s H) (fun _ => rfl) TB rfl (Tb := tbs T0 T1) (.tail _ (.head _)) (LfT.tab_two hne) (by rfl) (hr.mono (by decide)) (show LamX.LamS (defScope s_law) _ from LamX.lamS_by (by decide +kernel)) rfl (fun _ _ _ _ _ => rfl) (fun _ _ _ _ _ _ _ hr => (pe_callD D_fits (hr.mono (by decide)) (passes_call (takes_of rfl rfl rfl rfl) (fun _ _ _ _ h => h)) (pa_cons (pv 4) (pa_cons (pv 4) pa_nil))))) pa_nil)))
 (pss_cons (ps_expr (pe_bm PySem.F.plainAttrs_list PySem.F.slot_list_append PySem.F.type_list_append mt_append (pv 5) (pa_cons (LfT.pe_toldM (k := 11) D_law_told (by rfl) sc_law_told (by rfl) (by first | exact .inl rfl | exact .inr rfl | decide +kernel) (fun _ _ _ _ _ _ us hl => match us, hl with | [_], _ => rfl) (fun g cdg s H => hd_told T R g cdg s H) (fun _ => rfl) TB rfl (Tb := tbs T0 T1) (.tail _ (.head _)) (LfT.tab_two hne) (by rfl) (hr.mono (by decide)) (show LamX.LamS (defScope s_law) _ from LamX.lamS_by (by decide +kernel)) rfl (fun _ _ _ _ _ => rfl) (fun _ _ _ _ _ _ _ hr => (pe_callD D_holes (hr.mono (by decide)) (passes_call (takes_of rfl rfl rfl rfl) (fun _ _ _ _ h => h)) (pa_cons (pv 4) pa_nil)))) pa_nil)))
 (pss_cons (ps_expr (pe_bm PySem.F.plainAttrs_list PySem.F.slot_list_append PySem.F.type_list_append mt_append (pv 5) (pa_cons (LfT.pe_toldM (k := 11) D_law_told (by rfl) sc_law_told (by rfl) (by first | exact .inl rfl | exact .inr rfl | decide +kernel) (fun _ _ _ _ _ _ us hl => match us, hl with | [_], _ => rfl) (fun g cdg s H => hd_told T R g cdg s H) (fun _ => rfl) TB rfl (Tb := tbs T0 T1) (.tail _ (.head _)) (LfT.tab_two hne) (by rfl) (hr.mono (by decide)) (show LamX.LamS (defScope s_law) _ from LamX.lamS_by (by decide +kernel)) rfl (fun _ _ _ _ _ => rfl) (fun _ _ _ _ _ _ _ hr => (pe_callD D_write_shape (hr.mono (by decide)) (passes_call (takes_of rfl rfl rfl rfl) (fun _ _ _ _ h => h)) (pa_cons (pv 4) pa_nil)))) pa_nil)))
 (pss_cons (ps_expr (pe_bm PySem.F.plainAttrs_list PySem.F.slot_list_append PySem.F.type_list_append mt_append (pv 5) (pa_cons (LfT.pe_toldM (k := 11) D_law_told (by rfl) sc_law_told (by rfl) (by first | exact .inl rfl | exact .inr rfl | decide +kernel) (fun _ _ _ _ _ _ us hl => match us, hl with | [_], _ => rfl) (fun g cdg s H => hd_told T R g cdg s H) (fun _ => rfl) TB rfl (Tb := tbs T0 T1) (.tail _ (.head _)) (LfT.tab_two hne) (by rfl) (hr.mono (by decide)) (show LamX.LamS (defScope s_law) _ from LamX.lamS_by (by decide +kernel)) rfl (fun _ _ _ _ _ => rfl) (fun _ _ _ _ _ _ _ hr => (pe_callD D_fits (hr.mono (by decide)) (passes_call (takes_of rfl rfl rfl rfl) (fun _ _ _ _ h => h)) (pa_cons (pe_tup (pa_cons pe_str pa_nil)) (pa_cons (pv 4) pa_nil))))) pa_nil)))
 (pss_cons (ps_expr (pe_bm PySem.F.plainAttrs_list PySem.F.slot_list_append PySem.F.type_list_append mt_append (pv 5) (pa_cons (LfT.pe_toldM (k := 11) D_law_told (by rfl) sc_law_told (by rfl) (by first | exact .inl rfl | exact .inr rfl | decide +kernel) (fun _ _ _ _ _ _ us hl => match us, hl with | [_], _ => rfl) (fun g cdg s H => hd_told T R g cdg s H) (fun _ => rfl) TB rfl (Tb := tbs T0 T1) (.tail _ (.head _)) (LfT.tab_two hne) (by rfl) (hr.mono (by decide)) (show LamX.LamS (defScope s_law) _ from LamX.lamS_by (by decide +kernel)) rfl (fun _ _ _ _ _ => rfl) (fun _ _ _ _ _ _ _ hr => (pe_callD D_read_shape (hr.mono (by decide)) (passes_call (takes_of rfl rfl rfl rfl) (fun _ _ _ _ h => h)) (pa_cons (pv 4) pa_nil)))) pa_nil)))
 (pss_one (ps_if (pt_cmpR (op_neD hr.units) (pv 5) (pe_op op_cat (pe_op op_rep (pe_lst (pa_cons pe_str pa_nil)) pe_int) (pe_lst (pa_cons pe_str (pa_cons pe_str pa_nil)))) (nomark _))
 (pss_one (ps_ret pe_bl))
 pss_nil)))))))))))
 (pss_cons (ps_set (i := 5) sc_law.nd rfl (Or.inl rfl) (pe_lst (pa_cons (LfT.pe_toldM (k := 11) D_law_told (by rfl) sc_law_told (by rfl) (by first | exact .inl rfl | exact .inr rfl | decide +kernel) (fun _ _ _ _ _ _ us hl => match us, hl with | [_], _ => rfl) (fun g cdg s H => hd_told T R g cdg s H) (fun _ => rfl) TB rfl (Tb := tbs T0 T1) (.tail _ (.head _)) (LfT.tab_two hne) (by rfl) (hr.mono (by decide)) (show LamX.LamS (defScope s_law) _ from LamX.lamS_by (by decide +kernel)) rfl (fun _ _ _ _ _ => rfl) (fun _ _ _ _ _ _ _ hr => (pe_callD D_read_shape (hr.mono (by decide)) (passes_call (takes_of rfl rfl rfl rfl) (fun _ _ _ _ h => h)) (pa_cons pe_str pa_nil)))) pa_nil)))
 (pss_cons (ps_expr (pe_bm PySem.F.plainAttrs_list PySem.F.slot_list_append PySem.F.type_list_append mt_append (pv 5) (pa_cons (LfT.pe_toldM (k := 11) D_law_told (by rfl) sc_law_told (by rfl) (by first | exact .inl rfl | exact .inr rfl | decide +kernel) (fun _ _ _ _ _ _ us hl => match us, hl with | [_], _ => rfl) (fun g cdg s H => hd_told T R g cdg s H) (fun _ => rfl) TB rfl (Tb := tbs T0 T1) (.tail _ (.head _)) (LfT.tab_two hne) (by rfl) (hr.mono (by decide)) (show LamX.LamS (defScope s_law) _ from LamX.lamS_by (by decide +kernel)) rfl (fun _ _ _ _ _ => rfl) (fun _ _ _ _ _ _ _ hr => (pe_callD D_read_shape (hr.mono (by decide)) (passes_call (takes_of rfl rfl rfl rfl) (fun _ _ _ _ h => h)) (pa_cons pe_str pa_nil)))) pa_nil)))
 (pss_cons (ps_expr (pe_bm PySem.F.plainAttrs_list PySem.F.slot_list_append PySem.F.type_list_append mt_append (pv 5) (pa_cons (LfT.pe_toldM (k := 11) D_law_told (by rfl) sc_law_told (by rfl) (by first | exact .inl rfl | exact .inr rfl | decide +kernel) (fun _ _ _ _ _ _ us hl => match us, hl with | [_], _ => rfl) (fun g cdg s H => hd_told T R g cdg s H) (fun _ => rfl) TB rfl (Tb := tbs T0 T1) (.tail _ (.head _)) (LfT.tab_two hne) (by rfl) (hr.mono (by decide)) (show LamX.LamS (defScope s_law) _ from LamX.lamS_by (by decide +kernel)) rfl (fun _ _ _ _ _ => rfl) (fun _ _ _ _ _ _ _ hr => (pe_callD D_read_shape (hr.mono (by decide)) (passes_call (takes_of rfl rfl rfl rfl) (fun _ _ _ _ h => h)) (pa_cons pe_str pa_nil)))) pa_nil)))
 (pss_cons (ps_expr (pe_bm PySem.F.plainAttrs_list PySem.F.slot_list_append PySem.F.type_list_append mt_append (pv 5) (pa_cons (LfT.pe_toldM (k := 11) D_law_told (by rfl) sc_law_told (by rfl) (by first | exact .inl rfl | exact .inr rfl | decide +kernel) (fun _ _ _ _ _ _ us hl => match us, hl with | [_], _ => rfl) (fun g cdg s H => hd_told T R g cdg s H) (fun _ => rfl) TB rfl (Tb := tbs T0 T1) (.tail _ (.head _)) (LfT.tab_two hne) (by rfl) (hr.mono (by decide)) (show LamX.LamS (defScope s_law) _ from LamX.lamS_by (by decide +kernel)) rfl (fun _ _ _ _ _ => rfl) (fun _ _ _ _ _ _ _ hr => (pe_callD D_read_shape (hr.mono (by decide)) (passes_call (takes_of rfl rfl rfl rfl) (fun _ _ _ _ h => h)) (pa_cons pe_str pa_nil)))) pa_nil)))
 (pss_cons (ps_expr (pe_bm PySem.F.plainAttrs_list PySem.F.slot_list_append PySem.F.type_list_append mt_append (pv 5) (pa_cons (LfT.pe_toldM (k := 11) D_law_told (by rfl) sc_law_told (by rfl) (by first | exact .inl rfl | exact .inr rfl | decide +kernel) (fun _ _ _ _ _ _ us hl => match us, hl with | [_], _ => rfl) (fun g cdg s H => hd_told T R g cdg s H) (fun _ => rfl) TB rfl (Tb := tbs T0 T1) (.tail _ (.head _)) (LfT.tab_two hne) (by rfl) (hr.mono (by decide)) (show LamX.LamS (defScope s_law) _ from LamX.lamS_by (by decide +kernel)) rfl (fun _ _ _ _ _ => rfl) (fun _ _ _ _ _ _ _ hr => (pe_callD D_read_shape (hr.mono (by decide)) (passes_call (takes_of rfl rfl rfl rfl) (fun _ _ _ _ h => h)) (pa_cons pe_str pa_nil)))) pa_nil)))
 (pss_cons (ps_set (i := 6) sc_law.nd rfl (Or.inl rfl) (pe_tup (pa_cons pe_str (pa_cons pe_str (pa_cons pe_str (pa_cons pe_int (pa_cons pe_int (pa_cons (pe_tup (pa_cons pe_str (pa_cons pe_str (pa_cons pe_int pa_nil)))) pa_nil))))))))
 (pss_cons (ps_set (i := 7) sc_law.nd rfl (Or.inl rfl) (pe_lst (pa_cons (pe_callD D_read_shape (hr.mono (by decide)) passL (pa_cons pe_str pa_nil)) (pa_cons (pe_callD D_read_shape (hr.mono (by decide)) passL (pa_cons pe_str pa_nil)) (pa_cons (pe_callD D_fits (hr.mono (by decide)) passL (pa_cons (pe_tup (pa_cons pe_str pa_nil)) (pa_cons (pv 6) pa_nil))) (pa_cons (pe_callD D_fits (hr.mono (by decide)) passL (pa_cons (pe_tup (pa_cons pe_str (pa_cons (pe_tup (pa_cons pe_str pa_nil)) pa_nil))) (pa_cons (pv 6) pa_nil))) pa_nil))))))
 (pss_one (ps_ret (pe_and (pe_cmpR (op_eqD hr.units) (pv 5) (pe_op op_rep (pe_lst (pa_cons pe_str pa_nil)) pe_int) (nomark _)) (pe_one (pe_cmpR (op_eqD hr.units) (pv 7) (pe_lst (pa_cons (pe_tup (pa_cons pe_str (pa_cons pe_str pa_nil))) (pa_cons (pe_tup (pa_cons pe_str (pa_cons (pe_tup (pa_cons pe_str pa_nil)) pa_nil))) (pa_cons pe_bl (pa_cons pe_bl pa_nil))))) (nomark _)))))))))))))), ?_⟩
  have hn : (1 : Int) ≤ (if (if ((ns.map V.int).length : Int) < 3 then ((ns.map V.int).length : Int) else 3) > 1 then (if ((ns.map V.int).length : Int) < 3 then ((ns.map V.int).length : Int) else 3) else 1) ∧ (if (if ((ns.map V.int).length : Int) < 3 then ((ns.map V.int).length : Int) else 3) > 1 then (if ((ns.map V.int).length : Int) < 3 then ((ns.map V.int).length : Int) else 3) else 1) ≤ 3 := by
    generalize ((ns.map V.int).length : Int) = z
    split <;> split <;> omega
  refine ⟨_, rfl, _, _, rfl, .inl hS, _, _, rfl, _, _, rfl, _, rfl, by omega, by omega, for_range (lo := 0) (fun i σ' H' => ∃ v1 v2 v3 v4 v5, σ' = [some (.ref a), v1, v2, v3, v4, v5, none, none] ∧ SqL K H' a (ns.map V.int) ∧ Tabs (tbs T0 T1) H') ⟨_, _, _, _, _, rfl, hS, tb⟩ ?_ ?_⟩
  · rintro i σ' H' hi ⟨v1, v2, v3, v4, v5, rfl, hS, tb⟩
    refine ⟨_, rfl, _, rfl, a, ns, i, by rw [Int.zero_add], by omega, hS, fun p xs hp hx => ?_⟩
    refine ⟨6, rfl, by decide, by decide, for_range (lo := 0) (n := 6) (fun k σ'' H'' => ∃ v3 xs', σ'' = [some (.ref a), some (.int (0 + (i : Int))), some (.ref p), v3, v4, v5, none, none] ∧ H'' p = some (.lst xs') ∧ Lm xs' ∧ Tabs (tbs T0 T1) H'' ∧ Sc K a (ns.map V.int) p H'')
      ⟨_, xs, rfl, upd_same, hx, tb.ext (Ex.new hp), sc_keep (sc_of hS hp) (KeepN.of (Ex.new hp))⟩ ?_ ?_⟩
    · rintro k σ'' H'' _ ⟨v3, xs', rfl, hp2, hx2, tb2, sc2⟩
      refine ⟨_, rfl, p, xs', rfl, hp2, hx2, tb2, fun H3 xs3 k3 hp3 hx3 tb3 => ⟨true, rfl, if_no rfl ?_⟩⟩
      exact ⟨_, xs3, rfl, hp3, hx3, tb3, sc_keep sc2 k3⟩
    · rintro σ'' H2 ⟨v3, xs', rfl, hp2, hx2, tb2, sc2⟩
      have w0 : At Lm p (fun _ => none) H2 := ⟨none_ex, rfl, xs', hp2, hx2⟩
      refine q_asgR w0 (dr_pick (ds := oddD) rfl (by repeat (first | exact evd_nil | exact evd_str ev_c (by decide) | exact evd_int ev_c | exact evd_non ev_c | exact evd_bl ev_c | exact evd_dnew | refine evd_cons ?_ ?_ | refine evd_tup ?_ (by simp) | refine evd_lst ?_ (by first | simp | exact (show 12 ≤ 100000 by decide)))) (by decide) (by decide)) (fun vo d G1 H3 r1 hm hdo => ?_)
      have data1 := grb_data none_data r1
      have tb3 := tabs_exB tb2 r1.h hp2
      have hb := List.all_eq_true.mp all_odd d hm
      unfold oddB at hb
      simp only [Bool.and_eq_true, Bool.not_eq_true'] at hb
      obtain ⟨⟨⟨c1, c2⟩, c3⟩, c4⟩ := hb
      refine q_tl0 r1.w.s tb3 (says_B R data1 (no_fitsB (evd_var rfl hdo) (evd_var rfl hdo) c1)) (fun t H4 e4 t4 s4 ht4 nt g1 => ?_)
      refine q_tlA s4 t4 rfl ht4 (by decide) g1 (says_B R data1 (no_Q (evd_var rfl hdo) c1)) e4 nt (fun H5 e5 t5 s5 ht5 => ?_)
      refine q_tlA s5 t5 rfl ht5 (by decide) g1 (says_B R data1 (no_WS (evd_var rfl hdo) c1)) e5 nt (fun H6 e6 t6 s6 ht6 => ?_)
      refine q_tlA s6 t6 rfl ht6 (by decide) g1 (says_A R data1 (no_fitsA (d := sHo) (evd_tup (evd_cons (evd_str ev_c (by decide)) evd_nil) (by simp)) (evd_var rfl hdo) (by decide +kernel) c2)) e6 nt (fun H7 e7 t7 s7 ht7 => ?_)
      refine q_tlA s7 t7 rfl ht7 (by decide) g1 (says_P R data1 (evd_var rfl hdo) (okRB_ok c4) (isNoneD_iff.mp c3)) e7 nt (fun H8 e8 t8 s8 ht8 => ?_)
      obtain ⟨G9, g9, s9, hdt⟩ := tl_view s8 g1 ht8 (by decide)
      refine s_ifD s9 (et_is (b := false) (et_test (ev_neD (evd_var rfl hdt) (evd_catL (evd_repL (evd_lst (evd_cons (evd_str ev_c (by decide)) evd_nil) (by simp)) ev_c (by decide) (by decide) (by simp)) (evd_lst (evd_cons (evd_str ev_c (by decide)) (evd_cons (evd_str ev_c (by decide)) evd_nil)) (by simp)) (by simp)) (by decide +kernel) (by decide +kernel) (by decide +kernel) (by decide +kernel))) (by decide +kernel)) (fun z => by cases z) (fun _ H9 x9 => ?_)
      exact ⟨_, _, _, _, _, rfl, sc_sq (sc_keep (sc_keep (sc_keep sc2 (KeepN.ofB r1.h)) (KeepN.ofN e8)) (KeepN.of x9)), t8.ext x9⟩
  · rintro σ' H1 ⟨v1, v2, v3, v4, v5, rfl, hS, tb⟩
    have ab := List.all_eq_true.mp all_bad
    have bad : ∀ {σ : L2.St} {z : Str}, z ∈ badT → Says (tLam (tbs T0 T1) (TMix K 2 (lTold CA CB CP)) fun E => tCallD (spRS CP) E (tCons (tC (.str z)) tNil)) σ (fun _ => none) (tbs T0 T1) "parse None" := fun {σ z} hz => by
      have h := ab z hz
      rw [Bool.and_eq_true] at h
      have hl : z.length ≤ 900 := by
        have h1 : (decide (z.length ≤ 900) && PyData.strOk z) = true := h.1
        rw [Bool.and_eq_true, decide_eq_true_eq] at h1
        exact h1.1
      exact says_P R none_data (evd_str ev_c (by omega)) (okRB_ok h.1) (isNoneD_iff.mp h.2)
    refine q_tl0 none_ex tb (bad (by decide)) (fun t H4 e4 t4 s4 ht4 nt g1 => ?_)
    refine q_tlA s4 t4 rfl ht4 (by decide) g1 (bad (by decide)) e4 nt (fun H5 e5 t5 s5 ht5 => ?_)
    refine q_tlA s5 t5 rfl ht5 (by decide) g1 (bad (by decide)) e5 nt (fun H6 e6 t6 s6 ht6 => ?_)
    refine q_tlA s6 t6 rfl ht6 (by decide) g1 (bad (by decide)) e6 nt (fun H7 e7 t7 s7 ht7 => ?_)
    refine q_tlA s7 t7 rfl ht7 (by decide) g1 (bad (by decide)) e7 nt (fun H8 e8 t8 s8 ht8 => ?_)
    obtain ⟨G9, g9, s9, hdt⟩ := tl_view s8 g1 ht8 (by decide)
    have F := shX_ok
    simp only [Bool.and_eq_true, Bool.not_eq_true'] at F
    obtain ⟨⟨⟨⟨⟨⟨⟨⟨⟨⟨⟨f1, f2⟩, f3⟩, f4⟩, f5⟩, f6⟩, f7⟩, f8⟩, f9⟩, f10⟩, f11⟩, f12⟩ := F
    refine q_asgD s9 (d := stX) (by repeat (first | exact evd_nil | exact evd_str ev_c (by decide) | exact evd_int ev_c | refine evd_cons ?_ ?_ | refine evd_tup ?_ (by simp))) (fun v6 G10 H10 r10 hd6 => ?_)
    refine q_asgD r10.s (d := .list shX) (evd_lst (evd_cons (evd_callRS (evd_str ev_c (by decide)) (okRB_ok f1) (fun z => by rw [z] at f3; cases f3)) (evd_cons (evd_callRS (evd_str ev_c (by decide)) (okRB_ok f2) (fun z => by rw [z] at f4; cases f4)) (evd_cons (evd_bl (ev_callFits (d := sHo) (evd_tup (evd_cons (evd_str ev_c (by decide)) evd_nil) (by simp)) (evd_var rfl hd6) f5 f7)) (evd_cons (evd_bl (ev_callFits (d := .tuple [.str "store", sHo]) (evd_tup (evd_cons (evd_str ev_c (by decide)) (evd_cons (evd_tup (evd_cons (evd_str ev_c (by decide)) evd_nil) (by simp)) evd_nil)) (by simp)) (evd_var rfl hd6) f6 f7)) evd_nil)))) (show 4 ≤ 100000 by decide)) (fun v7 G11 H11 r11 hd7 => ?_)
    have hdt := hdt.up (r10.g.trans r11.g)
    refine Ev.ret r11.s (ev_is (w := .bl true) (ev_andV (ev_eqD (evd_var rfl hdt) (evd_repL (evd_lst (evd_cons (evd_str ev_c (by decide)) evd_nil) (by simp)) ev_c (by decide) (by decide) (by simp)) (by decide +kernel) (by decide +kernel) (by decide +kernel) (by decide +kernel)) (fun _ => ev_eqD (e := .list shY) (evd_var rfl hd7) (by repeat (first | exact evd_nil | exact evd_str ev_c (by decide) | exact evd_bl ev_c | refine evd_cons ?_ ?_ | refine evd_tup ?_ (by simp) | refine evd_lst ?_ (by first | simp | exact (show 4 ≤ 100000 by decide)))) f8 f9 f10 f11)) (by rw [f12]; exact congrArg V.bl (by decide +kernel))) (fun H12 _ => q H12)
end
end My
set_option maxHeartbeats 8000000
namespace My
open PySem L2 Lf Evl Tr StX PyProof LamX LfT
theorem fld_line : PySem.LfX.FldOk "line" := ⟨by decide +kernel, by decide +kernel, by decide +kernel, by decide +kernel, fun _ _ _ _ _ _ _ _ _ _ _ _ _ => .of_eq rfl⟩
abbrev s_xP : Stmt := inClass (top 4) 0
theorem all_mk {P : Program} {w : World} {K : PySem.W.Frag} {h : Heap} {mg : Str → Option Value} {fa CA CB CP CF fIP cT0 T0 cT1 T1 : Addr} (X : K.In h) (G : h.Ns mainGlobals mg) (hfa : mg "law" = some (.ref fa))
    {f0 : Addr} {od0 an0 : Option Addr} {sl0 : Array (Option Value)} {oc0 kV0 dc0 pm0 cd0 ct0 : Value}
    (a0 : PySem.W.nsIn K mainGlobals "is_name" = some (some (.ref f0))) (l0 : K.lookup f0 = some ⟨oc0, od0, .func (PySem.W.fnOf "is_name" "is_name" (defArgs s_is_name) (defBody s_is_name) (defScope s_is_name) .none kV0 dc0 pm0 an0 cd0 ct0), sl0⟩) (c0 : PySem.W.codeIn K cd0 "is_name" = true) (k0 : PySem.W.keepIn K (.ref f0) = true)
    {f1 : Addr} {od1 an1 : Option Addr} {sl1 : Array (Option Value)} {oc1 kV1 dc1 pm1 cd1 ct1 : Value}
    (a1 : PySem.W.nsIn K mainGlobals "is_number" = some (some (.ref f1))) (l1 : K.lookup f1 = some ⟨oc1, od1, .func (PySem.W.fnOf "is_number" "is_number" (defArgs s_is_number) (defBody s_is_number) (defScope s_is_number) .none kV1 dc1 pm1 an1 cd1 ct1), sl1⟩) (c1 : PySem.W.codeIn K cd1 "is_number" = true) (k1 : PySem.W.keepIn K (.ref f1) = true)
    {f2 : Addr} {od2 an2 : Option Addr} {sl2 : Array (Option Value)} {oc2 kV2 dc2 pm2 cd2 ct2 : Value}
    (a2 : PySem.W.nsIn K mainGlobals "is_integer" = some (some (.ref f2))) (l2 : K.lookup f2 = some ⟨oc2, od2, .func (PySem.W.fnOf "is_integer" "is_integer" (defArgs s_is_integer) (defBody s_is_integer) (defScope s_is_integer) .none kV2 dc2 pm2 an2 cd2 ct2), sl2⟩) (c2 : PySem.W.codeIn K cd2 "is_integer" = true) (k2 : PySem.W.keepIn K (.ref f2) = true)
    {f3 : Addr} {od3 an3 : Option Addr} {sl3 : Array (Option Value)} {oc3 kV3 dc3 pm3 cd3 ct3 : Value}
    (a3 : PySem.W.nsIn K mainGlobals "is_within" = some (some (.ref f3))) (l3 : K.lookup f3 = some ⟨oc3, od3, .func (PySem.W.fnOf "is_within" "is_within" (defArgs s_is_within) (defBody s_is_within) (defScope s_is_within) .none kV3 dc3 pm3 an3 cd3 ct3), sl3⟩) (c3 : PySem.W.codeIn K cd3 "is_within" = true) (k3 : PySem.W.keepIn K (.ref f3) = true)
    {f4 : Addr} {od4 an4 : Option Addr} {sl4 : Array (Option Value)} {oc4 kV4 dc4 pm4 cd4 ct4 : Value}
    (a4 : PySem.W.nsIn K mainGlobals "is_tree_of" = some (some (.ref f4))) (l4 : K.lookup f4 = some ⟨oc4, od4, .func (PySem.W.fnOf "is_tree_of" "is_tree_of" (defArgs s_is_tree_of) (defBody s_is_tree_of) (defScope s_is_tree_of) .none kV4 dc4 pm4 an4 cd4 ct4), sl4⟩) (c4 : PySem.W.codeIn K cd4 "is_tree_of" = true) (k4 : PySem.W.keepIn K (.ref f4) = true)
    {f5 : Addr} {od5 an5 : Option Addr} {sl5 : Array (Option Value)} {oc5 kV5 dc5 pm5 cd5 ct5 : Value}
    (a5 : PySem.W.nsIn K mainGlobals "is_tree" = some (some (.ref f5))) (l5 : K.lookup f5 = some ⟨oc5, od5, .func (PySem.W.fnOf "is_tree" "is_tree" (defArgs s_is_tree) (defBody s_is_tree) (defScope s_is_tree) .none kV5 dc5 pm5 an5 cd5 ct5), sl5⟩) (c5 : PySem.W.codeIn K cd5 "is_tree" = true) (k5 : PySem.W.keepIn K (.ref f5) = true)
    {f6 : Addr} {od6 an6 : Option Addr} {sl6 : Array (Option Value)} {oc6 kV6 dc6 pm6 cd6 ct6 : Value}
    (a6 : PySem.W.nsIn K mainGlobals "is_statement" = some (some (.ref f6))) (l6 : K.lookup f6 = some ⟨oc6, od6, .func (PySem.W.fnOf "is_statement" "is_statement" (defArgs s_is_statement) (defBody s_is_statement) (defScope s_is_statement) .none kV6 dc6 pm6 an6 cd6 ct6), sl6⟩) (c6 : PySem.W.codeIn K cd6 "is_statement" = true) (k6 : PySem.W.keepIn K (.ref f6) = true)
    {f7 : Addr} {od7 an7 : Option Addr} {sl7 : Array (Option Value)} {oc7 kV7 dc7 pm7 cd7 ct7 : Value}
    (a7 : PySem.W.nsIn K mainGlobals "is_tree_shape" = some (some (.ref f7))) (l7 : K.lookup f7 = some ⟨oc7, od7, .func (PySem.W.fnOf "is_tree_shape" "is_tree_shape" (defArgs s_is_tree_shape) (defBody s_is_tree_shape) (defScope s_is_tree_shape) .none kV7 dc7 pm7 an7 cd7 ct7), sl7⟩) (c7 : PySem.W.codeIn K cd7 "is_tree_shape" = true) (k7 : PySem.W.keepIn K (.ref f7) = true)
    {f8 : Addr} {od8 an8 : Option Addr} {sl8 : Array (Option Value)} {oc8 kV8 dc8 pm8 cd8 ct8 : Value}
    (a8 : PySem.W.nsIn K mainGlobals "below_in" = some (some (.ref f8))) (l8 : K.lookup f8 = some ⟨oc8, od8, .func (PySem.W.fnOf "below_in" "below_in" (defArgs s_below_in) (defBody s_below_in) (defScope s_below_in) .none kV8 dc8 pm8 an8 cd8 ct8), sl8⟩) (c8 : PySem.W.codeIn K cd8 "below_in" = true) (k8 : PySem.W.keepIn K (.ref f8) = true)
    {f9 : Addr} {od9 an9 : Option Addr} {sl9 : Array (Option Value)} {oc9 kV9 dc9 pm9 cd9 ct9 : Value}
    (a9 : PySem.W.nsIn K mainGlobals "working" = some (some (.ref f9))) (l9 : K.lookup f9 = some ⟨oc9, od9, .func (PySem.W.fnOf "working" "working" (defArgs s_working) (defBody s_working) (defScope s_working) .none kV9 dc9 pm9 an9 cd9 ct9), sl9⟩) (c9 : PySem.W.codeIn K cd9 "working" = true) (k9 : PySem.W.keepIn K (.ref f9) = true)
    {f10 : Addr} {od10 an10 : Option Addr} {sl10 : Array (Option Value)} {oc10 kV10 dc10 pm10 cd10 ct10 : Value}
    (a10 : PySem.W.nsIn K mainGlobals "is_shape" = some (some (.ref f10))) (l10 : K.lookup f10 = some ⟨oc10, od10, .func (PySem.W.fnOf "is_shape" "is_shape" (defArgs s_is_shape) (defBody s_is_shape) (defScope s_is_shape) .none kV10 dc10 pm10 an10 cd10 ct10), sl10⟩) (c10 : PySem.W.codeIn K cd10 "is_shape" = true) (k10 : PySem.W.keepIn K (.ref f10) = true)
    {f11 : Addr} {od11 an11 : Option Addr} {sl11 : Array (Option Value)} {oc11 kV11 dc11 pm11 cd11 ct11 : Value}
    (a11 : PySem.W.nsIn K mainGlobals "is_fit" = some (some (.ref f11))) (l11 : K.lookup f11 = some ⟨oc11, od11, .func (PySem.W.fnOf "is_fit" "is_fit" (defArgs s_is_fit) (defBody s_is_fit) (defScope s_is_fit) .none kV11 dc11 pm11 an11 cd11 ct11), sl11⟩) (c11 : PySem.W.codeIn K cd11 "is_fit" = true) (k11 : PySem.W.keepIn K (.ref f11) = true)
    {f12 : Addr} {od12 an12 : Option Addr} {sl12 : Array (Option Value)} {oc12 kV12 dc12 pm12 cd12 ct12 : Value}
    (a12 : PySem.W.nsIn K mainGlobals "require_shape" = some (some (.ref f12))) (l12 : K.lookup f12 = some ⟨oc12, od12, .func (PySem.W.fnOf "require_shape" "require_shape" (defArgs s_require_shape) (defBody s_require_shape) (defScope s_require_shape) .none kV12 dc12 pm12 an12 cd12 ct12), sl12⟩) (c12 : PySem.W.codeIn K cd12 "require_shape" = true) (k12 : PySem.W.keepIn K (.ref f12) = true)
    {f13 : Addr} {od13 an13 : Option Addr} {sl13 : Array (Option Value)} {oc13 kV13 dc13 pm13 cd13 ct13 : Value}
    (a13 : PySem.W.nsIn K mainGlobals "fits" = some (some (.ref f13))) (l13 : K.lookup f13 = some ⟨oc13, od13, .func (PySem.W.fnOf "fits" "fits" (defArgs s_fits) (defBody s_fits) (defScope s_fits) .none kV13 dc13 pm13 an13 cd13 ct13), sl13⟩) (c13 : PySem.W.codeIn K cd13 "fits" = true) (k13 : PySem.W.keepIn K (.ref f13) = true)
    {f14 : Addr} {od14 an14 : Option Addr} {sl14 : Array (Option Value)} {oc14 kV14 dc14 pm14 cd14 ct14 : Value}
    (a14 : PySem.W.nsIn K mainGlobals "paths_in" = some (some (.ref f14))) (l14 : K.lookup f14 = some ⟨oc14, od14, .func (PySem.W.fnOf "paths_in" "paths_in" (defArgs s_paths_in) (defBody s_paths_in) (defScope s_paths_in) .none kV14 dc14 pm14 an14 cd14 ct14), sl14⟩) (c14 : PySem.W.codeIn K cd14 "paths_in" = true) (k14 : PySem.W.keepIn K (.ref f14) = true)
    {f15 : Addr} {od15 an15 : Option Addr} {sl15 : Array (Option Value)} {oc15 kV15 dc15 pm15 cd15 ct15 : Value}
    (a15 : PySem.W.nsIn K mainGlobals "holes" = some (some (.ref f15))) (l15 : K.lookup f15 = some ⟨oc15, od15, .func (PySem.W.fnOf "holes" "holes" (defArgs s_holes) (defBody s_holes) (defScope s_holes) .none kV15 dc15 pm15 an15 cd15 ct15), sl15⟩) (c15 : PySem.W.codeIn K cd15 "holes" = true) (k15 : PySem.W.keepIn K (.ref f15) = true)
    {f16 : Addr} {od16 an16 : Option Addr} {sl16 : Array (Option Value)} {oc16 kV16 dc16 pm16 cd16 ct16 : Value}
    (a16 : PySem.W.nsIn K mainGlobals "loads" = some (some (.ref f16))) (l16 : K.lookup f16 = some ⟨oc16, od16, .func (PySem.W.fnOf "loads" "loads" (defArgs s_loads) (defBody s_loads) (defScope s_loads) .none kV16 dc16 pm16 an16 cd16 ct16), sl16⟩) (c16 : PySem.W.codeIn K cd16 "loads" = true) (k16 : PySem.W.keepIn K (.ref f16) = true)
    {f17 : Addr} {od17 an17 : Option Addr} {sl17 : Array (Option Value)} {oc17 kV17 dc17 pm17 cd17 ct17 : Value}
    (a17 : PySem.W.nsIn K mainGlobals "words_of" = some (some (.ref f17))) (l17 : K.lookup f17 = some ⟨oc17, od17, .func (PySem.W.fnOf "words_of" "words_of" (defArgs s_words_of) (defBody s_words_of) (defScope s_words_of) .none kV17 dc17 pm17 an17 cd17 ct17), sl17⟩) (c17 : PySem.W.codeIn K cd17 "words_of" = true) (k17 : PySem.W.keepIn K (.ref f17) = true)
    {f18 : Addr} {od18 an18 : Option Addr} {sl18 : Array (Option Value)} {oc18 kV18 dc18 pm18 cd18 ct18 : Value}
    (a18 : PySem.W.nsIn K mainGlobals "write_shape" = some (some (.ref f18))) (l18 : K.lookup f18 = some ⟨oc18, od18, .func (PySem.W.fnOf "write_shape" "write_shape" (defArgs s_write_shape) (defBody s_write_shape) (defScope s_write_shape) .none kV18 dc18 pm18 an18 cd18 ct18), sl18⟩) (c18 : PySem.W.codeIn K cd18 "write_shape" = true) (k18 : PySem.W.keepIn K (.ref f18) = true)
    {f19 : Addr} {od19 an19 : Option Addr} {sl19 : Array (Option Value)} {oc19 kV19 dc19 pm19 cd19 ct19 : Value}
    (a19 : PySem.W.nsIn K mainGlobals "read_words" = some (some (.ref f19))) (l19 : K.lookup f19 = some ⟨oc19, od19, .func (PySem.W.fnOf "read_words" "read_words" (defArgs s_read_words) (defBody s_read_words) (defScope s_read_words) .none kV19 dc19 pm19 an19 cd19 ct19), sl19⟩) (c19 : PySem.W.codeIn K cd19 "read_words" = true) (k19 : PySem.W.keepIn K (.ref f19) = true)
    {f20 : Addr} {od20 an20 : Option Addr} {sl20 : Array (Option Value)} {oc20 kV20 dc20 pm20 cd20 ct20 : Value}
    (a20 : PySem.W.nsIn K mainGlobals "shape_of" = some (some (.ref f20))) (l20 : K.lookup f20 = some ⟨oc20, od20, .func (PySem.W.fnOf "shape_of" "shape_of" (defArgs s_shape_of) (defBody s_shape_of) (defScope s_shape_of) .none kV20 dc20 pm20 an20 cd20 ct20), sl20⟩) (c20 : PySem.W.codeIn K cd20 "shape_of" = true) (k20 : PySem.W.keepIn K (.ref f20) = true)
    {f21 : Addr} {od21 an21 : Option Addr} {sl21 : Array (Option Value)} {oc21 kV21 dc21 pm21 cd21 ct21 : Value}
    (a21 : PySem.W.nsIn K mainGlobals "read_shape" = some (some (.ref f21))) (l21 : K.lookup f21 = some ⟨oc21, od21, .func (PySem.W.fnOf "read_shape" "read_shape" (defArgs s_read_shape) (defBody s_read_shape) (defScope s_read_shape) .none kV21 dc21 pm21 an21 cd21 ct21), sl21⟩) (c21 : PySem.W.codeIn K cd21 "read_shape" = true) (k21 : PySem.W.keepIn K (.ref f21) = true)
    {f22 : Addr} {od22 an22 : Option Addr} {sl22 : Array (Option Value)} {oc22 kV22 dc22 pm22 cd22 ct22 : Value}
    (a22 : PySem.W.nsIn K mainGlobals "_law_urn" = some (some (.ref f22))) (l22 : K.lookup f22 = some ⟨oc22, od22, .func (PySem.W.fnOf "_law_urn" "_law_urn" (defArgs s_law_urn) (defBody s_law_urn) (defScope s_law_urn) .none kV22 dc22 pm22 an22 cd22 ct22), sl22⟩) (c22 : PySem.W.codeIn K cd22 "_law_urn" = true) (k22 : PySem.W.keepIn K (.ref f22) = true)
    {f23 : Addr} {od23 an23 : Option Addr} {sl23 : Array (Option Value)} {oc23 kV23 dc23 pm23 cd23 ct23 : Value}
    (a23 : PySem.W.nsIn K mainGlobals "_law_pull" = some (some (.ref f23))) (l23 : K.lookup f23 = some ⟨oc23, od23, .func (PySem.W.fnOf "_law_pull" "_law_pull" (defArgs s_law_pull) (defBody s_law_pull) (defScope s_law_pull) .none kV23 dc23 pm23 an23 cd23 ct23), sl23⟩) (c23 : PySem.W.codeIn K cd23 "_law_pull" = true) (k23 : PySem.W.keepIn K (.ref f23) = true)
    {f24 : Addr} {od24 an24 : Option Addr} {sl24 : Array (Option Value)} {oc24 kV24 dc24 pm24 cd24 ct24 : Value}
    (a24 : PySem.W.nsIn K mainGlobals "_law_one" = some (some (.ref f24))) (l24 : K.lookup f24 = some ⟨oc24, od24, .func (PySem.W.fnOf "_law_one" "_law_one" (defArgs s_law_one) (defBody s_law_one) (defScope s_law_one) .none kV24 dc24 pm24 an24 cd24 ct24), sl24⟩) (c24 : PySem.W.codeIn K cd24 "_law_one" = true) (k24 : PySem.W.keepIn K (.ref f24) = true)
    {f25 : Addr} {od25 an25 : Option Addr} {sl25 : Array (Option Value)} {oc25 kV25 dc25 pm25 cd25 ct25 : Value}
    (a25 : PySem.W.nsIn K mainGlobals "_law_tree" = some (some (.ref f25))) (l25 : K.lookup f25 = some ⟨oc25, od25, .func (PySem.W.fnOf "_law_tree" "_law_tree" (defArgs s_law_tree) (defBody s_law_tree) (defScope s_law_tree) .none kV25 dc25 pm25 an25 cd25 ct25), sl25⟩) (c25 : PySem.W.codeIn K cd25 "_law_tree" = true) (k25 : PySem.W.keepIn K (.ref f25) = true)
    {f26 : Addr} {od26 an26 : Option Addr} {sl26 : Array (Option Value)} {oc26 kV26 dc26 pm26 cd26 ct26 : Value}
    (a26 : PySem.W.nsIn K mainGlobals "_law_menu" = some (some (.ref f26))) (l26 : K.lookup f26 = some ⟨oc26, od26, .func (PySem.W.fnOf "_law_menu" "_law_menu" (defArgs s_law_menu) (defBody s_law_menu) (defScope s_law_menu) .none kV26 dc26 pm26 an26 cd26 ct26), sl26⟩) (c26 : PySem.W.codeIn K cd26 "_law_menu" = true) (k26 : PySem.W.keepIn K (.ref f26) = true)
    {f27 : Addr} {od27 an27 : Option Addr} {sl27 : Array (Option Value)} {oc27 kV27 dc27 pm27 cd27 ct27 : Value}
    (a27 : PySem.W.nsIn K mainGlobals "_law_below" = some (some (.ref f27))) (l27 : K.lookup f27 = some ⟨oc27, od27, .func (PySem.W.fnOf "_law_below" "_law_below" (defArgs s_law_below) (defBody s_law_below) (defScope s_law_below) .none kV27 dc27 pm27 an27 cd27 ct27), sl27⟩) (c27 : PySem.W.codeIn K cd27 "_law_below" = true) (k27 : PySem.W.keepIn K (.ref f27) = true)
    {f28 : Addr} {od28 an28 : Option Addr} {sl28 : Array (Option Value)} {oc28 kV28 dc28 pm28 cd28 ct28 : Value}
    (a28 : PySem.W.nsIn K mainGlobals "_law_holes" = some (some (.ref f28))) (l28 : K.lookup f28 = some ⟨oc28, od28, .func (PySem.W.fnOf "_law_holes" "_law_holes" (defArgs s_law_holes) (defBody s_law_holes) (defScope s_law_holes) .none kV28 dc28 pm28 an28 cd28 ct28), sl28⟩) (c28 : PySem.W.codeIn K cd28 "_law_holes" = true) (k28 : PySem.W.keepIn K (.ref f28) = true)
    {f29 : Addr} {od29 an29 : Option Addr} {sl29 : Array (Option Value)} {oc29 kV29 dc29 pm29 cd29 ct29 : Value}
    (a29 : PySem.W.nsIn K mainGlobals "_law_told" = some (some (.ref f29))) (l29 : K.lookup f29 = some ⟨oc29, od29, .func (PySem.W.fnOf "_law_told" "_law_told" (defArgs s_law_told) (defBody s_law_told) (defScope s_law_told) .none kV29 dc29 pm29 an29 cd29 ct29), sl29⟩) (c29 : PySem.W.codeIn K cd29 "_law_told" = true) (k29 : PySem.W.keepIn K (.ref f29) = true)
    {f30 : Addr} {od30 an30 : Option Addr} {sl30 : Array (Option Value)} {oc30 kV30 dc30 pm30 cd30 ct30 : Value}
    (a30 : PySem.W.nsIn K mainGlobals "_law_paths" = some (some (.ref f30))) (l30 : K.lookup f30 = some ⟨oc30, od30, .func (PySem.W.fnOf "_law_paths" "_law_paths" (defArgs s_law_paths) (defBody s_law_paths) (defScope s_law_paths) .none kV30 dc30 pm30 an30 cd30 ct30), sl30⟩) (c30 : PySem.W.codeIn K cd30 "_law_paths" = true) (k30 : PySem.W.keepIn K (.ref f30) = true)
    {f31 : Addr} {od31 an31 : Option Addr} {sl31 : Array (Option Value)} {oc31 kV31 dc31 pm31 cd31 ct31 : Value}
    (a31 : PySem.W.nsIn K mainGlobals "_law_text" = some (some (.ref f31))) (l31 : K.lookup f31 = some ⟨oc31, od31, .func (PySem.W.fnOf "_law_text" "_law_text" (defArgs s_law_text) (defBody s_law_text) (defScope s_law_text) .none kV31 dc31 pm31 an31 cd31 ct31), sl31⟩) (c31 : PySem.W.codeIn K cd31 "_law_text" = true) (k31 : PySem.W.keepIn K (.ref f31) = true)
    {f32 : Addr} {od32 an32 : Option Addr} {sl32 : Array (Option Value)} {oc32 kV32 dc32 pm32 ct32 : Value}
    (a32 : PySem.W.nsIn K mainGlobals "_law_right" = some (some (.ref f32))) (l32 : K.lookup f32 = some ⟨oc32, od32, .func (PySem.W.fnOf "_law_right" "_law_right" (defArgs s_law_right) (defBody s_law_right) (defScope s_law_right) .none kV32 dc32 pm32 an32 (.ref cT0) ct32), sl32⟩) (c32 : PySem.W.codeIn K (.ref cT0) "_law_right" = true) (k32 : PySem.W.keepIn K (.ref f32) = true)
    {f33 : Addr} {od33 an33 : Option Addr} {sl33 : Array (Option Value)} {oc33 kV33 dc33 pm33 ct33 : Value}
    (a33 : PySem.W.nsIn K mainGlobals "law" = some (some (.ref f33))) (l33 : K.lookup f33 = some ⟨oc33, od33, .func (PySem.W.fnOf "law" "law" (defArgs s_law) (defBody s_law) (defScope s_law) .none kV33 dc33 pm33 an33 (.ref cT1) ct33), sl33⟩) (c33 : PySem.W.codeIn K (.ref cT1) "law" = true) (k33 : PySem.W.keepIn K (.ref f33) = true)
    {eT0 : Value} {dT0 : Option Addr} {vT0 : Array Value} {sT0 : Array (Option Value)} (lcT0 : K.lookup cT0 = some ⟨eT0, dT0, .fields vT0, sT0⟩) (hvT0 : (vT0[11]? : Option Value) = some (.ref T0)) (nTab0 : K.lookup T0 = none)
    {eT1 : Value} {dT1 : Option Addr} {vT1 : Array Value} {sT1 : Array (Option Value)} (lcT1 : K.lookup cT1 = some ⟨eT1, dT1, .fields vT1, sT1⟩) (hvT1 : (vT1[11]? : Option Value) = some (.ref T1)) (nTab1 : K.lookup T1 = none)
    (hne0 : T0 ≠ T1)
    (n_isinstance : PySem.W.nsIn K mainGlobals "isinstance" = some none)
    (n_int : PySem.W.nsIn K mainGlobals "int" = some none)
    (n_bool : PySem.W.nsIn K mainGlobals "bool" = some none)
    (n_str : PySem.W.nsIn K mainGlobals "str" = some none)
    (n_tuple : PySem.W.nsIn K mainGlobals "tuple" = some none)
    (n_len : PySem.W.nsIn K mainGlobals "len" = some none)
    (n_abs : PySem.W.nsIn K mainGlobals "abs" = some none)
    (n_max : PySem.W.nsIn K mainGlobals "max" = some none)
    (n_min : PySem.W.nsIn K mainGlobals "min" = some none)
    (n_list : PySem.W.nsIn K mainGlobals "list" = some none)
    (n_range : PySem.W.nsIn K mainGlobals "range" = some none)
    (n_all : PySem.W.nsIn K mainGlobals "all" = some none)
    (n_sum : PySem.W.nsIn K mainGlobals "sum" = some none)
    (n_repr : PySem.W.nsIn K mainGlobals "repr" = some none)
    (n_enumerate : PySem.W.nsIn K mainGlobals "enumerate" = some none)
    (n_zip : PySem.W.nsIn K mainGlobals "zip" = some none)
    (n_super : PySem.W.nsIn K mainGlobals "super" = some none)
    {ti0 ti1 ti2 ti3 ti4 ti5 ti6 ts0 ts1 ts2 ts3 ts4 ts5 ts6 : Tok} (gi0 : PySem.W.nsIn K mainGlobals "MAX_NAME" = some (some (.int 8 ti0)))
    (gi1 : PySem.W.nsIn K mainGlobals "LIMIT" = some (some (.int lim ti1)))
    (gi2 : PySem.W.nsIn K mainGlobals "MAX_LEVELS" = some (some (.int 4 ti2)))
    (gi3 : PySem.W.nsIn K mainGlobals "MAX_TREES" = some (some (.int 3 ti3)))
    (gi4 : PySem.W.nsIn K mainGlobals "MAX_DISTANCE" = some (some (.int 3 ti4)))
    (gi5 : PySem.W.nsIn K mainGlobals "MAX_SHAPE" = some (some (.int 4 ti5)))
    (gi6 : PySem.W.nsIn K mainGlobals "MAX_WORDS" = some (some (.int 60 ti6)))
    (gs0 : PySem.W.nsIn K mainGlobals "LETTERS" = some (some (.str letters ts0)))
    (gs1 : PySem.W.nsIn K mainGlobals "AT" = some (some (.str "at" ts1)))
    (gs2 : PySem.W.nsIn K mainGlobals "LOAD" = some (some (.str "load" ts2)))
    (gs3 : PySem.W.nsIn K mainGlobals "OP" = some (some (.str "op" ts3)))
    (gs4 : PySem.W.nsIn K mainGlobals "SET" = some (some (.str "set" ts4)))
    (gs5 : PySem.W.nsIn K mainGlobals "STORE" = some (some (.str "store" ts5)))
    (gs6 : PySem.W.nsIn K mainGlobals "HOLE" = some (some (.str "hole" ts6)))
    (eA : PySem.W.nsIn K mainGlobals "InvalidTree" = some (some (.ref CA))) (xA : PySem.W.excIn K CA [.type "ValueError", .type "Exception", .type "BaseException", .type "object"] "ValueError.__new__" = true) (kA : PySem.W.keepIn K (.ref CA) = true) (bA : PySem.W.subIn K (.ref CA) (.type "BaseException") = some true) (tA : PySem.W.typeIn K (.ref CA) = some (.type "type"))
    (eB : PySem.W.nsIn K mainGlobals "InvalidArgument" = some (some (.ref CB))) (xB : PySem.W.excIn K CB [.type "ValueError", .type "Exception", .type "BaseException", .type "object"] "ValueError.__new__" = true) (kB : PySem.W.keepIn K (.ref CB) = true) (bB : PySem.W.subIn K (.ref CB) (.type "BaseException") = some true) (tB : PySem.W.typeIn K (.ref CB) = some (.type "type"))
    (eP : PySem.W.nsIn K mainGlobals "ParseError" = some (some (.ref CP)))
    {nmP qP : Str} {NP : Addr} {bsP : List Value} {snP : List Str} {subP : List Value} {abP : Bool} {colP : Option Bool} {ddP : Option Addr} {m0P m1P m2P m3P m5P : Option Value}
    (xP : K.lookup CP = some (excClassObj nmP qP CP NP bsP [.ref CF, .type "ValueError", .type "Exception", .type "BaseException", .type "object"] true snP subP abP colP ddP m0P m1P m2P m3P m5P "ValueError.__new__"))
    (saP : PySem.W.findIn K (.ref CP) "__setattr__" = some (some (.builtin "object.__setattr__"))) (nvP : PySem.W.findIn K (.ref CP) "line" = some none) (iCP : PySem.W.findIn K (.ref CP) "__init__" = some (some (.ref fIP))) (tIP : PySem.W.typeIn K (.ref fIP) = some (.type "function"))
    (kP : PySem.W.keepIn K (.ref CP) = true) (bP : PySem.W.subIn K (.ref CP) (.type "BaseException") = some true) (sBP : PySem.W.subIn K (.ref CP) (.type "ValueError") = some true) (sDP : PySem.W.mroIn K CP (.ref CP) = some true) (sOP : PySem.W.mroIn K CP (.type "object") = some true) (tP : PySem.W.typeIn K (.ref CP) = some (.type "type"))
    (alP : PySem.W.alongIn K "__init__" [.ref CF, .type "ValueError", .type "Exception", .type "BaseException", .type "object"] = some (some (.builtin "ValueError.__init__")))
    {ocP : Value} {odP : Option Addr} {docP pmP : Value} {anP : Option Addr} {cdaP : Addr} {ctP : Value} {ccP : Addr} {oslP : Array (Option Value)} {cclP : Value} {cddP : Option Addr} {vsP : Array Value} {ccsP : Array (Option Value)} {clP : Value} {cldP : Option Addr} {cslP : Array (Option Value)} {fileP : Str} {tfP : Tok}
    (lIP : K.lookup fIP = some ⟨ocP, odP, .func (PySem.W.ksFn "__init__" "ParseError.__init__" (defArgs s_xP) (defBody s_xP) (defScope s_xP) .none .none docP pmP anP (.ref cdaP) ctP ccP), oslP⟩) (cIP : PySem.W.codeIn K (.ref cdaP) "ParseError.__init__" = true)
    (lcP : K.lookup cdaP = some ⟨cclP, cddP, .fields vsP, ccsP⟩) (lzP : K.lookup ccP = some ⟨clP, cldP, .cell (some (.ref CP)), cslP⟩) (hvsP : vsP[2]? = some (.str fileP tfP)) (hfileP : ((P.main.file : Str) == fileP) = true)
    (eCF : PySem.W.nsIn K mainGlobals "FoundryError" = some (some (.ref CF)))
    (op : PySem.W.nsIn K cStatics "thirdparty.any" = some none) (htop : (P.main.scope.names.lookup ("super" : Str)).isSome = false)
    (xga : PySem.W.findIn K (.ref CP) "__getattribute__" = some (some (.builtin "BaseException.__getattribute__"))) (xgg : PySem.W.findIn K (.ref CP) "__getattr__" = some none) (xhd : PySem.W.hasDictIn K CP = true)
    (pp : PySem.W.exmOne K (.ref CP) (.ref CP) = some true) (ap : PySem.W.exmOne K (.ref CA) (.ref CP) = some false) (aa : PySem.W.exmOne K (.ref CA) (.ref CA) = some true)
    (bp : PySem.W.exmOne K (.ref CB) (.ref CP) = some false) (ba : PySem.W.exmOne K (.ref CB) (.ref CA) = some false) (bb : PySem.W.exmOne K (.ref CB) (.ref CB) = some true) :
    ∃ (fd : FuncData) (cs : List (Addr × Addr)), (∀ p ∈ cs, ∃ y ∈ (["_law_right", "law"] : List Str), PySem.W.tabIn K y = some p) ∧ (∀ p ∈ cs, K.lookup p.2 = none) ∧ (∀ (s : Shared) (u : Value), BindsTo s fd ⟨[u], []⟩ [("_law_script", u)]) ∧ ∀ base : Heap, K.In base → base.Ns mainGlobals mg → (∀ p ∈ cs, LamX.TabB base mg p.1 p.2) → FnOkG P w K mg base CX0 15 fa fd ["_law_script"] (spLaw K cs) := by
  have e := hfa.symm.trans (PySem.W.mg_of X G a33)
  cases e
  have par : PySem.LfX.XTxt P K mg "ParseError" "line" "ValueError" "ValueError.__init__" "ValueError.__new__" [.type "ValueError", .type "Exception", .type "BaseException", .type "object"] CP fIP :=
    { fo := fld_line, gC := PySem.W.mg_of X G eP, cls := ⟨_, _, _, _, _, _, _, _, _, _, _, _, _, _, _, xP, fun _ => rfl, (fun self => (PySem.refuseLoop_ref _ _ _ _).trans (PySem.F.store_ValueError.passes self)), alP⟩, sa := saP, noF := nvP, iC := iCP, tC := tIP, kC := kP, exC := bP, sB := sBP, sD := sDP, sO := sOP, tyC := tP, op := op,
      sup := PySem.W.mg_none_of X G n_super, top := htop, fn := ⟨_, _, _, _, _, _, _, _, _, _, _, _, _, _, _, _, _, _, _, _, _, _, _, _, _, _, _, _, _, _, _, _, _, lIP, cIP, lcP, hvsP, hfileP, lzP, by decide⟩ }
  have T : Txt P K mg CA CB CP fIP := { n_isinstance := PySem.W.mg_none_of X G n_isinstance, n_int := PySem.W.mg_none_of X G n_int, n_bool := PySem.W.mg_none_of X G n_bool, n_str := PySem.W.mg_none_of X G n_str, n_tuple := PySem.W.mg_none_of X G n_tuple, n_len := PySem.W.mg_none_of X G n_len, n_abs := PySem.W.mg_none_of X G n_abs, n_max := PySem.W.mg_none_of X G n_max, n_min := PySem.W.mg_none_of X G n_min, n_list := PySem.W.mg_none_of X G n_list, n_range := PySem.W.mg_none_of X G n_range, n_all := PySem.W.mg_none_of X G n_all, n_sum := PySem.W.mg_none_of X G n_sum, n_repr := PySem.W.mg_none_of X G n_repr, n_enumerate := PySem.W.mg_none_of X G n_enumerate, n_zip := PySem.W.mg_none_of X G n_zip, g_MAX_NAME := ⟨ti0, PySem.W.mg_of X G gi0⟩, g_LIMIT := ⟨ti1, PySem.W.mg_of X G gi1⟩, g_MAX_LEVELS := ⟨ti2, PySem.W.mg_of X G gi2⟩, g_MAX_TREES := ⟨ti3, PySem.W.mg_of X G gi3⟩, g_MAX_DISTANCE := ⟨ti4, PySem.W.mg_of X G gi4⟩, g_MAX_SHAPE := ⟨ti5, PySem.W.mg_of X G gi5⟩, g_MAX_WORDS := ⟨ti6, PySem.W.mg_of X G gi6⟩, g_LETTERS := ⟨ts0, PySem.W.mg_of X G gs0⟩, g_AT := ⟨ts1, PySem.W.mg_of X G gs1⟩, g_LOAD := ⟨ts2, PySem.W.mg_of X G gs2⟩, g_OP := ⟨ts3, PySem.W.mg_of X G gs3⟩, g_SET := ⟨ts4, PySem.W.mg_of X G gs4⟩, g_STORE := ⟨ts5, PySem.W.mg_of X G gs5⟩, g_HOLE := ⟨ts6, PySem.W.mg_of X G gs6⟩, gA := PySem.W.mg_of X G eA, xA := xA, kA := kA, bA := bA, tA := tA, gB := PySem.W.mg_of X G eB, xB := xB, kB := kB, bB := bB, tB := tB, par := par }
  have F_is_name := fun_mk (st := s_is_name) l0 c0 k0
  have E_is_name : Df K mg "is_name" s_is_name := ⟨_, _, F_is_name, PySem.W.mg_of X G a0⟩
  have F_is_number := fun_mk (st := s_is_number) l1 c1 k1
  have E_is_number : Df K mg "is_number" s_is_number := ⟨_, _, F_is_number, PySem.W.mg_of X G a1⟩
  have F_is_integer := fun_mk (st := s_is_integer) l2 c2 k2
  have E_is_integer : Df K mg "is_integer" s_is_integer := ⟨_, _, F_is_integer, PySem.W.mg_of X G a2⟩
  have F_is_within := fun_mk (st := s_is_within) l3 c3 k3
  have E_is_within : Df K mg "is_within" s_is_within := ⟨_, _, F_is_within, PySem.W.mg_of X G a3⟩
  have F_is_tree_of := fun_mk (st := s_is_tree_of) l4 c4 k4
  have E_is_tree_of : Df K mg "is_tree_of" s_is_tree_of := ⟨_, _, F_is_tree_of, PySem.W.mg_of X G a4⟩
  have F_is_tree := fun_mk (st := s_is_tree) l5 c5 k5
  have E_is_tree : Df K mg "is_tree" s_is_tree := ⟨_, _, F_is_tree, PySem.W.mg_of X G a5⟩
  have F_is_statement := fun_mk (st := s_is_statement) l6 c6 k6
  have E_is_statement : Df K mg "is_statement" s_is_statement := ⟨_, _, F_is_statement, PySem.W.mg_of X G a6⟩
  have F_is_tree_shape := fun_mk (st := s_is_tree_shape) l7 c7 k7
  have E_is_tree_shape : Df K mg "is_tree_shape" s_is_tree_shape := ⟨_, _, F_is_tree_shape, PySem.W.mg_of X G a7⟩
  have F_below_in := fun_mk (st := s_below_in) l8 c8 k8
  have E_below_in : Df K mg "below_in" s_below_in := ⟨_, _, F_below_in, PySem.W.mg_of X G a8⟩
  have F_working := fun_mk (st := s_working) l9 c9 k9
  have E_working : Df K mg "working" s_working := ⟨_, _, F_working, PySem.W.mg_of X G a9⟩
  have F_is_shape := fun_mk (st := s_is_shape) l10 c10 k10
  have E_is_shape : Df K mg "is_shape" s_is_shape := ⟨_, _, F_is_shape, PySem.W.mg_of X G a10⟩
  have F_is_fit := fun_mk (st := s_is_fit) l11 c11 k11
  have E_is_fit : Df K mg "is_fit" s_is_fit := ⟨_, _, F_is_fit, PySem.W.mg_of X G a11⟩
  have F_require_shape := fun_mk (st := s_require_shape) l12 c12 k12
  have E_require_shape : Df K mg "require_shape" s_require_shape := ⟨_, _, F_require_shape, PySem.W.mg_of X G a12⟩
  have F_fits := fun_mk (st := s_fits) l13 c13 k13
  have E_fits : Df K mg "fits" s_fits := ⟨_, _, F_fits, PySem.W.mg_of X G a13⟩
  have F_paths_in := fun_mk (st := s_paths_in) l14 c14 k14
  have E_paths_in : Df K mg "paths_in" s_paths_in := ⟨_, _, F_paths_in, PySem.W.mg_of X G a14⟩
  have F_holes := fun_mk (st := s_holes) l15 c15 k15
  have E_holes : Df K mg "holes" s_holes := ⟨_, _, F_holes, PySem.W.mg_of X G a15⟩
  have F_loads := fun_mk (st := s_loads) l16 c16 k16
  have E_loads : Df K mg "loads" s_loads := ⟨_, _, F_loads, PySem.W.mg_of X G a16⟩
  have F_words_of := fun_mk (st := s_words_of) l17 c17 k17
  have E_words_of : Df K mg "words_of" s_words_of := ⟨_, _, F_words_of, PySem.W.mg_of X G a17⟩
  have F_write_shape := fun_mk (st := s_write_shape) l18 c18 k18
  have E_write_shape : Df K mg "write_shape" s_write_shape := ⟨_, _, F_write_shape, PySem.W.mg_of X G a18⟩
  have F_read_words := fun_mk (st := s_read_words) l19 c19 k19
  have E_read_words : Df K mg "read_words" s_read_words := ⟨_, _, F_read_words, PySem.W.mg_of X G a19⟩
  have F_shape_of := fun_mk (st := s_shape_of) l20 c20 k20
  have E_shape_of : Df K mg "shape_of" s_shape_of := ⟨_, _, F_shape_of, PySem.W.mg_of X G a20⟩
  have F_read_shape := fun_mk (st := s_read_shape) l21 c21 k21
  have E_read_shape : Df K mg "read_shape" s_read_shape := ⟨_, _, F_read_shape, PySem.W.mg_of X G a21⟩
  have F_law_urn := fun_mk (st := s_law_urn) l22 c22 k22
  have E_law_urn : Df K mg "_law_urn" s_law_urn := ⟨_, _, F_law_urn, PySem.W.mg_of X G a22⟩
  have F_law_pull := fun_mk (st := s_law_pull) l23 c23 k23
  have E_law_pull : Df K mg "_law_pull" s_law_pull := ⟨_, _, F_law_pull, PySem.W.mg_of X G a23⟩
  have F_law_one := fun_mk (st := s_law_one) l24 c24 k24
  have E_law_one : Df K mg "_law_one" s_law_one := ⟨_, _, F_law_one, PySem.W.mg_of X G a24⟩
  have F_law_tree := fun_mk (st := s_law_tree) l25 c25 k25
  have E_law_tree : Df K mg "_law_tree" s_law_tree := ⟨_, _, F_law_tree, PySem.W.mg_of X G a25⟩
  have F_law_menu := fun_mk (st := s_law_menu) l26 c26 k26
  have E_law_menu : Df K mg "_law_menu" s_law_menu := ⟨_, _, F_law_menu, PySem.W.mg_of X G a26⟩
  have F_law_below := fun_mk (st := s_law_below) l27 c27 k27
  have E_law_below : Df K mg "_law_below" s_law_below := ⟨_, _, F_law_below, PySem.W.mg_of X G a27⟩
  have F_law_holes := fun_mk (st := s_law_holes) l28 c28 k28
  have E_law_holes : Df K mg "_law_holes" s_law_holes := ⟨_, _, F_law_holes, PySem.W.mg_of X G a28⟩
  have F_law_told := fun_mk (st := s_law_told) l29 c29 k29
  have E_law_told : Df K mg "_law_told" s_law_told := ⟨_, _, F_law_told, PySem.W.mg_of X G a29⟩
  have F_law_paths := fun_mk (st := s_law_paths) l30 c30 k30
  have E_law_paths : Df K mg "_law_paths" s_law_paths := ⟨_, _, F_law_paths, PySem.W.mg_of X G a30⟩
  have F_law_text := fun_mk (st := s_law_text) l31 c31 k31
  have E_law_text : Df K mg "_law_text" s_law_text := ⟨_, _, F_law_text, PySem.W.mg_of X G a31⟩
  have F_law_right := fun_mk (st := s_law_right) l32 c32 k32
  have E_law_right : Df K mg "_law_right" s_law_right := ⟨_, _, F_law_right, PySem.W.mg_of X G a32⟩
  have F_law := fun_mk (st := s_law) l33 c33 k33
  have E_law : Df K mg "law" s_law := ⟨_, _, F_law, PySem.W.mg_of X G a33⟩
  have C_law_right : LfT.DfC K mg "_law_right" s_law_right cT0 := ⟨_, _, F_law_right, PySem.W.mg_of X G a32, rfl⟩
  have hTab0 : PySem.W.tabIn K "_law_right" = some (cT0, T0) := by unfold PySem.W.tabIn; rw [a32]; dsimp only; rw [l32]; dsimp only [PySem.W.fnOf]; rw [lcT0]; dsimp only; rw [hvT0]
  have hTab1 : PySem.W.tabIn K "law" = some (cT1, T1) := by unfold PySem.W.tabIn; rw [a33]; dsimp only; rw [l33]; dsimp only [PySem.W.fnOf]; rw [lcT1]; dsimp only; rw [hvT1]
  refine ⟨PySem.W.fnOf "law" "law" (defArgs s_law) (defBody s_law) (defScope s_law) .none kV33 dc33 pm33 an33 (.ref cT1) ct33, [(cT0, T0), (cT1, T1)], fun p hp => ?_, fun p hp => ?_, fun s u => .of_eq rfl, fun base _ _ TBS => ?_⟩
  · simp only [List.mem_cons, List.not_mem_nil, or_false] at hp
    rcases hp with rfl | rfl
    · exact ⟨_, .head _, hTab0⟩
    · exact ⟨_, .tail _ (.head _), hTab1⟩
  · simp only [List.mem_cons, List.not_mem_nil, or_false] at hp
    rcases hp with rfl | rfl
    · exact nTab0
    · exact nTab1
  have TB0 := TBS (cT0, T0) (.head _)
  have TB1 := TBS (cT1, T1) (.tail _ (.head _))
  have R : ErrT K CA CB CP := ⟨⟨xga, xgg, bP, xhd⟩, pp, ap, aa, bp, ba, bb⟩
  have d1 := ok_is_name (w := w) (base := base) T E_is_name
  have d2 := ok_is_number (w := w) (base := base) T E_is_number
  have d3 := ok_is_integer T E_is_integer d2
  have d4 := ok_is_within T E_is_within d3
  have t0 := ok_tree0 (P := P) (w := w) (base := base) E_is_tree_of
  have t1 := ok_treeS T E_is_tree_of (by decide) t0 d1 d3 d4
  have t2 := ok_treeS T E_is_tree_of (by decide) t1 d1 d3 d4
  have t3 := ok_treeS T E_is_tree_of (by decide) t2 d1 d3 d4
  have t4 := ok_treeS T E_is_tree_of (by decide) t3 d1 d3 d4
  have t5 := ok_treeS T E_is_tree_of (by decide) t4 d1 d3 d4
  have d5 := ok_is_tree T E_is_tree t5
  have d6 := ok_is_statement T E_is_statement d5 d1 d3
  have s0 := ok_ts0 (P := P) (w := w) (base := base) E_is_tree_shape
  have s1 := ok_tsS T E_is_tree_shape (by decide) s0 d1
  have s2 := ok_tsS T E_is_tree_shape (by decide) s1 d1
  have s3 := ok_tsS T E_is_tree_shape (by decide) s2 d1
  have s4 := ok_tsS T E_is_tree_shape (by decide) s3 d1
  have s5 := ok_tsS T E_is_tree_shape (by decide) s4 d1
  have s6 := ok_tsS T E_is_tree_shape (by decide) s5 d1
  have b1 := ok_below_in (w := w) (base := base) T E_below_in
  have w0 := ok_wk0 (P := P) (w := w) (base := base) E_working
  have w1 := ok_wkS T E_working (by decide) w0 b1
  have w2 := ok_wkS T E_working (by decide) w1 b1
  have w3 := ok_wkS T E_working (by decide) w2 b1
  have w4 := ok_wkS T E_working (by decide) w3 b1
  have w5 := ok_wkS T E_working (by decide) w4 b1
  have d7 := ok_is_shape T E_is_shape s6 w5
  have f0 := ok_fit0 (P := P) (w := w) (base := base) E_is_fit
  have f1 := ok_fitS T E_is_fit (by decide) f0
  have f2 := ok_fitS T E_is_fit (by decide) f1
  have f3 := ok_fitS T E_is_fit (by decide) f2
  have f4 := ok_fitS T E_is_fit (by decide) f3
  have f5 := ok_fitS T E_is_fit (by decide) f4
  have f6 := ok_fitS T E_is_fit (by decide) f5
  have d8 := ok_require_shape T E_require_shape d7
  have d9 := ok_fits T E_fits d8 d5 d6 f6
  have p0 := ok_paths0 (P := P) (w := w) (base := base) E_paths_in
  have p1 := ok_pathsS T E_paths_in (by decide) (by decide) p0 b1
  have p2 := ok_pathsS T E_paths_in (by decide) (by decide) p1 b1
  have p3 := ok_pathsS T E_paths_in (by decide) (by decide) p2 b1
  have p4 := ok_pathsS T E_paths_in (by decide) (by decide) p3 b1
  have p5 := ok_pathsS T E_paths_in (by decide) (by decide) p4 b1
  have p6 := ok_pathsS T E_paths_in (by decide) (by decide) p5 b1
  have d10 := ok_holes T E_holes d8 p6
  have d11 := ok_loads T E_loads d8 p6
  have z0 := ok_words0 (P := P) (w := w) (base := base) E_words_of
  have z1 := ok_wordsS T E_words_of (by decide) (by decide) z0
  have z2 := ok_wordsS T E_words_of (by decide) (by decide) z1
  have z3 := ok_wordsS T E_words_of (by decide) (by decide) z2
  have z4 := ok_wordsS T E_words_of (by decide) (by decide) z3
  have z5 := ok_wordsS T E_words_of (by decide) (by decide) z4
  have z6 := ok_wordsS T E_words_of (by decide) (by decide) z5
  have d12 := ok_write_shape T E_write_shape d8 z6
  have d13 := ok_read_words (w := w) (base := base) T E_read_words
  have d14 := ok_shape_of T E_shape_of d13 d7 z6
  have d15 := ok_read_shape T E_read_shape d14
  have e1 := ok_law_urn (w := w) (base := base) T E_law_urn
  have e2 := ok_law_pull (w := w) (base := base) T E_law_pull
  have e3 := ok_law_one T E_law_one e2
  have g0 := ok_law_tr0 (P := P) (w := w) (base := base) E_law_tree
  have g1 := ok_law_trS T E_law_tree (by decide) g0 e2 e3
  have g2 := ok_law_trS T E_law_tree (by decide) g1 e2 e3
  have g3 := ok_law_trS T E_law_tree (by decide) g2 e2 e3
  have g4 := ok_law_trS T E_law_tree (by decide) g3 e2 e3
  have e4 := ok_law_menu (w := w) (base := base) T E_law_menu
  have e5 := ok_law_below (w := w) (base := base) T E_law_below
  have h0 := ok_hol0 (P := P) (w := w) (base := base) E_law_holes
  have h1 := ok_holS T E_law_holes (by decide) h0 e5
  have h2 := ok_holS T E_law_holes (by decide) h1 e5
  have h3 := ok_holS T E_law_holes (by decide) h2 e5
  have h4 := ok_holS T E_law_holes (by decide) h3 e5
  have h5 := ok_holS T E_law_holes (by decide) h4 e5
  have h6 := ok_holS T E_law_holes (by decide) h5 e5
  have l0 := ok_lpa0 (P := P) (w := w) (base := base) E_law_paths
  have l1 := ok_lpaS T E_law_paths (by decide) l0
  have l2 := ok_lpaS T E_law_paths (by decide) l1
  have l3 := ok_lpaS T E_law_paths (by decide) l2
  have l4 := ok_lpaS T E_law_paths (by decide) l3
  have l5 := ok_lpaS T E_law_paths (by decide) l4
  have l6 := ok_lpaS T E_law_paths (by decide) l5
  have x0 := ok_tx0 (P := P) (w := w) (base := base) E_law_text
  have x1 := ok_txS T E_law_text (by decide) x0
  have x2 := ok_txS T E_law_text (by decide) x1
  have x3 := ok_txS T E_law_text (by decide) x2
  have x4 := ok_txS T E_law_text (by decide) x3
  have y1 := ok_law_right hne0 T R TB0 C_law_right E_law_told e4 e2 e3 g4 d9 h6 d10 d11 l6 d12 x4 d15
  exact ok_law hne0 T R TB1 F_law rfl E_law_told e1 e3 d9 d10 d12 d15 y1
end My
open PySem PySem.W PyProof.Rows
theorem PySem.Challenge.cw_loopfoundry_k19_what_shapes_fit_and_thei_holds : PySem.Challenge.rw_loopfoundry_k19_what_shapes_fit_and_thei.Holds := by
  w_on; o_law; k_head; (case hw => w_witness2)
  k_fill
  refine LfT.walk_ofTG (l := PySem.Challenge.rw_loopfoundry_k19_what_shapes_fit_and_thei) (ys := ["_law_right", "law"]) (k := 15) (CX := L2.CX0) (x := "_law_script") (sp := My.spLaw) rfl (by decide) rfl ⟨rfl, by decide, by decide⟩ (by
    intro y hy
    simp only [List.mem_cons, List.not_mem_nil, or_false] at hy
    rcases hy with rfl | rfl
    · exact ⟨_, by rfl⟩
    · exact ⟨_, by rfl⟩) (fun w h Y => PySem.W.km_in_of Y) ?F (fun K H a cs ns hl hT hS => ⟨a, ns, rfl, hS, hT, fun _ => rfl⟩) (fun _ _ _ _ z => z)
  case F =>
    intro w mg fa h KX G hmg
    refine' My.all_mk KX G hmg ?a0 ?l0 ?c0 ?k0 ?a1 ?l1 ?c1 ?k1 ?a2 ?l2 ?c2 ?k2 ?a3 ?l3 ?c3 ?k3 ?a4 ?l4 ?c4 ?k4 ?a5 ?l5 ?c5 ?k5 ?a6 ?l6 ?c6 ?k6 ?a7 ?l7 ?c7 ?k7 ?a8 ?l8 ?c8 ?k8 ?a9 ?l9 ?c9 ?k9 ?a10 ?l10 ?c10 ?k10 ?a11 ?l11 ?c11 ?k11 ?a12 ?l12 ?c12 ?k12 ?a13 ?l13 ?c13 ?k13 ?a14 ?l14 ?c14 ?k14 ?a15 ?l15 ?c15 ?k15 ?a16 ?l16 ?c16 ?k16 ?a17 ?l17 ?c17 ?k17 ?a18 ?l18 ?c18 ?k18 ?a19 ?l19 ?c19 ?k19 ?a20 ?l20 ?c20 ?k20 ?a21 ?l21 ?c21 ?k21 ?a22 ?l22 ?c22 ?k22 ?a23 ?l23 ?c23 ?k23 ?a24 ?l24 ?c24 ?k24 ?a25 ?l25 ?c25 ?k25 ?a26 ?l26 ?c26 ?k26 ?a27 ?l27 ?c27 ?k27 ?a28 ?l28 ?c28 ?k28 ?a29 ?l29 ?c29 ?k29 ?a30 ?l30 ?c30 ?k30 ?a31 ?l31 ?c31 ?k31 ?a32 ?l32 ?c32 ?k32 ?a33 ?l33 ?c33 ?k33 ?lcT0 ?hvT0 ?nTab0 ?lcT1 ?hvT1 ?nTab1 ?hne0 ?n_isinstance ?n_int ?n_bool ?n_str ?n_tuple ?n_len ?n_abs ?n_max ?n_min ?n_list ?n_range ?n_all ?n_sum ?n_repr ?n_enumerate ?n_zip ?n_super ?gi0 ?gi1 ?gi2 ?gi3 ?gi4 ?gi5 ?gi6 ?gs0 ?gs1 ?gs2 ?gs3 ?gs4 ?gs5 ?gs6 ?eA ?xA ?kA ?bA ?tA ?eB ?xB ?kB ?bB ?tB ?eP ?xP ?saP ?nvP ?iCP ?tIP ?kP ?bP ?sBP ?sDP ?sOP ?tP ?alP ?lIP ?cIP ?lcP ?lzP ?hvsP ?hfileP ?eCF ?op ?htop ?xga ?xgg ?xhd ?pp ?ap ?aa ?bp ?ba ?bb
    (case eA => first | k_is | kernel_rfl)
    (case eB => first | k_is | kernel_rfl)
    (case eP => first | k_is | kernel_rfl)
    (case iCP => first | k_is | kernel_rfl)
    (case eCF => first | k_is | kernel_rfl)
    (case a0 => first | k_is | kernel_rfl)
    (case l0 => first | k_is | kernel_rfl)
    (case c0 => first | k_is | kernel_rfl)
    (case k0 => first | k_is | kernel_rfl)
    (case a1 => first | k_is | kernel_rfl)
    (case l1 => first | k_is | kernel_rfl)
    (case c1 => first | k_is | kernel_rfl)
    (case k1 => first | k_is | kernel_rfl)
    (case a2 => first | k_is | kernel_rfl)
    (case l2 => first | k_is | kernel_rfl)
    (case c2 => first | k_is | kernel_rfl)
    (case k2 => first | k_is | kernel_rfl)
    (case a3 => first | k_is | kernel_rfl)
    (case l3 => first | k_is | kernel_rfl)
    (case c3 => first | k_is | kernel_rfl)
    (case k3 => first | k_is | kernel_rfl)
    (case a4 => first | k_is | kernel_rfl)
    (case l4 => first | k_is | kernel_rfl)
    (case c4 => first | k_is | kernel_rfl)
    (case k4 => first | k_is | kernel_rfl)
    (case a5 => first | k_is | kernel_rfl)
    (case l5 => first | k_is | kernel_rfl)
    (case c5 => first | k_is | kernel_rfl)
    (case k5 => first | k_is | kernel_rfl)
    (case a6 => first | k_is | kernel_rfl)
    (case l6 => first | k_is | kernel_rfl)
    (case c6 => first | k_is | kernel_rfl)
    (case k6 => first | k_is | kernel_rfl)
    (case a7 => first | k_is | kernel_rfl)
    (case l7 => first | k_is | kernel_rfl)
    (case c7 => first | k_is | kernel_rfl)
    (case k7 => first | k_is | kernel_rfl)
    (case a8 => first | k_is | kernel_rfl)
    (case l8 => first | k_is | kernel_rfl)
    (case c8 => first | k_is | kernel_rfl)
    (case k8 => first | k_is | kernel_rfl)
    (case a9 => first | k_is | kernel_rfl)
    (case l9 => first | k_is | kernel_rfl)
    (case c9 => first | k_is | kernel_rfl)
    (case k9 => first | k_is | kernel_rfl)
    (case a10 => first | k_is | kernel_rfl)
    (case l10 => first | k_is | kernel_rfl)
    (case c10 => first | k_is | kernel_rfl)
    (case k10 => first | k_is | kernel_rfl)
    (case a11 => first | k_is | kernel_rfl)
    (case l11 => first | k_is | kernel_rfl)
    (case c11 => first | k_is | kernel_rfl)
    (case k11 => first | k_is | kernel_rfl)
    (case a12 => first | k_is | kernel_rfl)
    (case l12 => first | k_is | kernel_rfl)
    (case c12 => first | k_is | kernel_rfl)
    (case k12 => first | k_is | kernel_rfl)
    (case a13 => first | k_is | kernel_rfl)
    (case l13 => first | k_is | kernel_rfl)
    (case c13 => first | k_is | kernel_rfl)
    (case k13 => first | k_is | kernel_rfl)
    (case a14 => first | k_is | kernel_rfl)
    (case l14 => first | k_is | kernel_rfl)
    (case c14 => first | k_is | kernel_rfl)
    (case k14 => first | k_is | kernel_rfl)
    (case a15 => first | k_is | kernel_rfl)
    (case l15 => first | k_is | kernel_rfl)
    (case c15 => first | k_is | kernel_rfl)
    (case k15 => first | k_is | kernel_rfl)
    (case a16 => first | k_is | kernel_rfl)
    (case l16 => first | k_is | kernel_rfl)
    (case c16 => first | k_is | kernel_rfl)
    (case k16 => first | k_is | kernel_rfl)
    (case a17 => first | k_is | kernel_rfl)
    (case l17 => first | k_is | kernel_rfl)
    (case c17 => first | k_is | kernel_rfl)
    (case k17 => first | k_is | kernel_rfl)
    (case a18 => first | k_is | kernel_rfl)
    (case l18 => first | k_is | kernel_rfl)
    (case c18 => first | k_is | kernel_rfl)
    (case k18 => first | k_is | kernel_rfl)
    (case a19 => first | k_is | kernel_rfl)
    (case l19 => first | k_is | kernel_rfl)
    (case c19 => first | k_is | kernel_rfl)
    (case k19 => first | k_is | kernel_rfl)
    (case a20 => first | k_is | kernel_rfl)
    (case l20 => first | k_is | kernel_rfl)
    (case c20 => first | k_is | kernel_rfl)
    (case k20 => first | k_is | kernel_rfl)
    (case a21 => first | k_is | kernel_rfl)
    (case l21 => first | k_is | kernel_rfl)
    (case c21 => first | k_is | kernel_rfl)
    (case k21 => first | k_is | kernel_rfl)
    (case a22 => first | k_is | kernel_rfl)
    (case l22 => first | k_is | kernel_rfl)
    (case c22 => first | k_is | kernel_rfl)
    (case k22 => first | k_is | kernel_rfl)
    (case a23 => first | k_is | kernel_rfl)
    (case l23 => first | k_is | kernel_rfl)
    (case c23 => first | k_is | kernel_rfl)
    (case k23 => first | k_is | kernel_rfl)
    (case a24 => first | k_is | kernel_rfl)
    (case l24 => first | k_is | kernel_rfl)
    (case c24 => first | k_is | kernel_rfl)
    (case k24 => first | k_is | kernel_rfl)
    (case a25 => first | k_is | kernel_rfl)
    (case l25 => first | k_is | kernel_rfl)
    (case c25 => first | k_is | kernel_rfl)
    (case k25 => first | k_is | kernel_rfl)
    (case a26 => first | k_is | kernel_rfl)
    (case l26 => first | k_is | kernel_rfl)
    (case c26 => first | k_is | kernel_rfl)
    (case k26 => first | k_is | kernel_rfl)
    (case a27 => first | k_is | kernel_rfl)
    (case l27 => first | k_is | kernel_rfl)
    (case c27 => first | k_is | kernel_rfl)
    (case k27 => first | k_is | kernel_rfl)
    (case a28 => first | k_is | kernel_rfl)
    (case l28 => first | k_is | kernel_rfl)
    (case c28 => first | k_is | kernel_rfl)
    (case k28 => first | k_is | kernel_rfl)
    (case a29 => first | k_is | kernel_rfl)
    (case l29 => first | k_is | kernel_rfl)
    (case c29 => first | k_is | kernel_rfl)
    (case k29 => first | k_is | kernel_rfl)
    (case a30 => first | k_is | kernel_rfl)
    (case l30 => first | k_is | kernel_rfl)
    (case c30 => first | k_is | kernel_rfl)
    (case k30 => first | k_is | kernel_rfl)
    (case a31 => first | k_is | kernel_rfl)
    (case l31 => first | k_is | kernel_rfl)
    (case c31 => first | k_is | kernel_rfl)
    (case k31 => first | k_is | kernel_rfl)
    (case a32 => first | k_is | kernel_rfl)
    (case l32 => first | k_is | kernel_rfl)
    (case c32 => first | k_is | kernel_rfl)
    (case k32 => first | k_is | kernel_rfl)
    (case a33 => first | k_is | kernel_rfl)
    (case l33 => first | k_is | kernel_rfl)
    (case c33 => first | k_is | kernel_rfl)
    (case k33 => first | k_is | kernel_rfl)
    (case lcT0 => first | k_is | kernel_rfl)
    (case hvT0 => rfl)
    (case nTab0 => first | k_is | kernel_rfl)
    (case lcT1 => first | k_is | kernel_rfl)
    (case hvT1 => rfl)
    (case nTab1 => first | k_is | kernel_rfl)
    (case hne0 => decide)
    (case n_isinstance => first | k_is | kernel_rfl)
    (case n_int => first | k_is | kernel_rfl)
    (case n_bool => first | k_is | kernel_rfl)
    (case n_str => first | k_is | kernel_rfl)
    (case n_tuple => first | k_is | kernel_rfl)
    (case n_len => first | k_is | kernel_rfl)
    (case n_abs => first | k_is | kernel_rfl)
    (case n_max => first | k_is | kernel_rfl)
    (case n_min => first | k_is | kernel_rfl)
    (case n_list => first | k_is | kernel_rfl)
    (case n_range => first | k_is | kernel_rfl)
    (case n_all => first | k_is | kernel_rfl)
    (case n_sum => first | k_is | kernel_rfl)
    (case n_repr => first | k_is | kernel_rfl)
    (case n_enumerate => first | k_is | kernel_rfl)
    (case n_zip => first | k_is | kernel_rfl)
    (case n_super => first | k_is | kernel_rfl)
    (case gi0 => first | k_is | kernel_rfl)
    (case gi1 => first | k_is | kernel_rfl)
    (case gi2 => first | k_is | kernel_rfl)
    (case gi3 => first | k_is | kernel_rfl)
    (case gi4 => first | k_is | kernel_rfl)
    (case gi5 => first | k_is | kernel_rfl)
    (case gi6 => first | k_is | kernel_rfl)
    (case gs0 => first | k_is | kernel_rfl)
    (case gs1 => first | k_is | kernel_rfl)
    (case gs2 => first | k_is | kernel_rfl)
    (case gs3 => first | k_is | kernel_rfl)
    (case gs4 => first | k_is | kernel_rfl)
    (case gs5 => first | k_is | kernel_rfl)
    (case gs6 => first | k_is | kernel_rfl)
    (case xA => k_exc)
    (case kA => first | k_is | kernel_rfl)
    (case bA => first | k_is | kernel_rfl)
    (case tA => first | k_is | kernel_rfl)
    (case xB => k_exc)
    (case kB => first | k_is | kernel_rfl)
    (case bB => first | k_is | kernel_rfl)
    (case tB => first | k_is | kernel_rfl)
    (case xP => first | k_is | kernel_rfl)
    (case saP => first | k_is | kernel_rfl)
    (case nvP => first | k_is | kernel_rfl)
    (case tIP => first | k_is | kernel_rfl)
    (case kP => first | k_is | kernel_rfl)
    (case bP => first | k_is | kernel_rfl)
    (case sBP => first | k_is | kernel_rfl)
    (case sDP => first | k_is | kernel_rfl)
    (case sOP => first | k_is | kernel_rfl)
    (case tP => first | k_is | kernel_rfl)
    (case alP => first | k_is | kernel_rfl)
    (case lIP => first | k_is | kernel_rfl)
    (case cIP => first | k_is | kernel_rfl)
    (case lcP => first | k_is | kernel_rfl)
    (case lzP => first | k_is | kernel_rfl)
    (case hvsP => rfl)
    (case hfileP => decide +kernel)
    (case op => first | k_is | kernel_rfl)
    (case htop => decide +kernel)
    (case xga => first | k_is | kernel_rfl)
    (case xgg => first | k_is | kernel_rfl)
    (case xhd => first | k_is | kernel_rfl)
    (case pp => first | k_is | kernel_rfl)
    (case ap => first | k_is | kernel_rfl)
    (case aa => first | k_is | kernel_rfl)
    (case bp => first | k_is | kernel_rfl)
    (case ba => first | k_is | kernel_rfl)
    (case bb => first | k_is | kernel_rfl)
#print axioms PySem.Challenge.cw_loopfoundry_k19_what_shapes_fit_and_thei_holds
