import PyProof.Rows.All
import Wide.All
import OpenK.AllK
import Wide.FinOn
import HandS.ForExc
import KE.KExcSuper
import HandS.ForMost
import HandS.ExcField
import HandS.ExcIs
import HandS.IsInst
import HandS.Style
import HandS.Wide
import HandS.Property
import HandS.Evl
import HandS.SlotsOwn
import HandS.Records
import HandS.Flow
import HandS.OwnEq
import HandS.FStr
import PyProof.ReprRoads
import KE.KCallOwn
import HandS.EndTab
import KE.KNest
import HandS.Lambda
import KE.KUnpackStar
import HandS.Walk
import HandS.TupAny
import PyProof.EqKinds
import PyProof.NeKinds
import PyProof.FactsAll.dict
import HandS.Text
import HandS.TupMul
import PyProof.Rows.RuleB_pow
import PyProof.CallFns
import HandS.SortKw
import PyProof.DictUpdate
import HandS.Iter
import HandS.Zip0
import PyProof.Draws
import PyProof.ReprLen
import PySem.Challenge.RW_loopfoundry_k01_trees_and_statements_jud
set_option Elab.async false
set_option linter.all false
set_option maxRecDepth 100000
set_option maxHeartbeats 4000000
/-! try: body / except A as n: .. / except B as n: .. : several clauses with names -/
namespace L2
open PySem PySem.Spec PyProof.Rows
/-- the ends of a suite whose name stands in slot i -/
def sufEnds (i : Nat) (D : Ends) : Ends := { nx := fun σ' H' => D.nx (σ'.set i none) H', rt := D.rt, bk := fun σ' H' => D.bk (σ'.set i none) H', ct := fun σ' H' => D.ct (σ'.set i none) H' }
/-- what the clauses wish of an exception of the body, one behind the other: its class, the name's slot, the suite -/
def wAsM (K : PySem.W.Frag) (Wout : WX) (D : Ends) : List (Value × Nat × (Addr → Value → Option Addr → TS)) → WX
  | [] => Wout
  | (c, i, ts) :: r => fun cls d σ H => ∃ b, PySem.W.exmOne K cls c = some b ∧ (b = true → ∀ a, H a = none → ts a cls d (sufEnds i D) (σ.set i (some (.ref a))) H) ∧ (b = false → wAsM K Wout D r cls d σ H)
inductive HdA (X : Cx) : List ExceptHandler → List (Value × Nat × (Addr → Value → Option Addr → TS)) → Prop
  | nil : HdA X [] []
  | cons {x n : Str} {c : Value} {i : Nat} {ts : Addr → Value → Option Addr → TS} {b₀ : Stmt} {suite : List Stmt} {np pos' : Pos} {hds : List ExceptHandler} {l : List (Value × Nat × (Addr → Value → Option Addr → TS))}
      (hi : X.N[i]? = some n) (hln : X.env.kindOf n = some .local) (hc : Names X x c)
      (hsu : ∀ (a : Addr) (oe : Obj) (cls : Value) (d : Option Addr) (pn : List (Addr × Obj)), Zc cls d oe → (∃ vs, oe.data = .fields vs) → PSs (X.suite a ((a, oe) :: pn)) (b₀ :: suite) (ts a cls d)) (r : HdA X hds l) :
      HdA X (.ExceptHandler (some (.Name x np)) (some n) (b₀ :: suite) pos' :: hds) ((c, i, ts) :: l)
section
variable {X : Cx} {body : List Stmt} {h₀ : ExceptHandler} {hds : List ExceptHandler} {l : List (Value × Nat × (Addr → Value → Option Addr → TS))} {pos : Pos} {tb : WX → TS} {Wout : WX}
theorem ps_try_asM (hs : X.stack = X.env :: X.outer) (hf : X.env.frame = some X.env.locals) (hN : X.N.Nodup) (tk : Takes X Wout)
    (hb : ∀ (W : WX) (pn : List (Addr × Obj)) (xe : Value → Shared → Prop), Takes (X.tr pn xe) W → PassesOwn (model X.prog X.w) X.A X.env xe → PSs (X.tr pn xe) body (tb W))
    (hh : HdA X (h₀ :: hds) l) : PS X (.Try body (h₀ :: hds) [] [] pos) (fun D σ H => tb (wAsM X.K Wout D l) D σ H) := by
  refine ⟨fun pins s σ H D I h => ?_⟩
  have ok := I.ok
  have hfr : X.A.frames = some (X.env :: X.outer) := by rw [ok.frames, hs]
  refine wpAny_Try_except ?_
  refine wpAny_mono ((hb (wAsM X.K Wout D l) (X.pn ++ pins) (fun e s₁ => wpAny (model X.prog X.w) X.A (noteFrame e X.env) (fun _ s₂ => wpAny (model X.prog X.w) X.A (setFlight e none) (fun _ s₃ =>
    wpAny (model X.prog X.w) X.A (handleBy e X.env (h₀ :: hds)) (SP X pins D) X.xe s₃) X.xe s₂) X.xe s₁) (fun u s' xx => ?_) PassesOwn.looking).run [] s σ H D (I.toTry _) h) (fun f s1 hsp => ?_) (fun e s1 he => he)
  · obtain ⟨a, B, sI, pins', σ', H', cls, d, rfl, J', nb, up, sky, na, os, ag, w⟩ := xx
    have J : Inv X pins σ' H' sI := J'.ofTry ok
    have sky' : Sky B (X.env :: X.outer) a (Zc cls d) X.env.locals s'.heap := by rw [← hs]; exact sky
    show wpAny (model X.prog X.w) X.A (noteFrame (.ref a) X.env) _ _ _
    refine Sky.land Zc.steady hfr hf sky' fun h3 fl3 up3 => ?_
    have J3 : Inv X pins σ' H' { s' with heap := h3 } := J.landed nb fl3.1 (up.trans up3) os ag
    obtain ⟨oe3, vs3, he3, hz3, hd3⟩ := fl3.there
    have nfr : a ∉ frs (X.env :: X.outer) := fun hm => by
      obtain ⟨_, o', e', hnf⟩ := fl3.2.2.1.mem hm
      rw [he3] at e'; cases e'
      exact hnf _ hd3
    have nL : a ≠ X.env.locals := fun z => nfr (List.mem_filterMap.mpr ⟨X.env, List.mem_cons_self, by rw [hf, z]⟩)
    have nF : a ∉ X.fs := fun hm => by
      obtain ⟨e, he, q⟩ := List.mem_filterMap.mp hm
      exact nfr (List.mem_filterMap.mpr ⟨e, List.mem_cons_of_mem _ he, q⟩)
    have S3 := J3.suite he3 hd3 na nL nF
    have go : ∀ {hds' : List ExceptHandler} {l' : List (Value × Nat × (Addr → Value → Option Addr → TS))}, HdA X hds' l' → wAsM X.K Wout D l' cls d σ' H' →
        wpAny (model X.prog X.w) X.A (handleBy (.ref a) X.env hds') (SP X pins D) X.xe { s' with heap := h3 } := by
      intro hds' l' hk
      induction hk with
      | nil =>
        intro w
        refine wpAny_handleBy_nil ?_
        obtain ⟨k1, k2, k3, oe, vs, T, oT, ts', he, hz, hd, h1, hr⟩ := id fl3
        unfold PySem.passOn
        refine wpAny_bind (wpAny_field he hd h1 ?_)
        rw [if_neg (show ¬ ((Value.ref T == Value.none) = true) from by simp)]
        have fin : wpAny (model X.prog X.w) X.A (setFlight (.ref a) X.env.frame) (fun _ s4 => wpAny (model X.prog X.w) X.A (throw (.ref a) : Sem Flow) (SP X pins D) X.xe s4) X.xe { s' with heap := h3 } := by
          rw [hf]
          refine HandSPX.setFlight_upZ fl3 fun h4 hh4 up4 => wpAny_throw (tk _ _ ?_)
          exact ⟨a, B, sI, pins, σ', H', cls, d, rfl, J, nb, (up.trans up3).trans up4, .inr (.inr (by rw [hs]; exact hh4)), na, os, ag, w⟩
        first
          | exact wpAny_bind (wpAny_pure (wpAny_bind fin))
          | exact wpAny_bind fin
      | @cons x n c i ts b₀ suite np pos' hds2 l2 hi hln hc hsu r ih =>
        intro w
        obtain ⟨b, hb1, hyes, hno⟩ := w
        have hloc : Loc X.env.scope n := .inl hln
        refine wpAny_handleBy_cons (codeAny_handlers_test ?_) (by intro q; cases q)
        have LT : PySem.W.Looks (model X.prog X.w) h3 (typeOf (.ref a)) cls := fun A Q E s k q => wpAny_typeOf_ref (k _ _ he3) (by rw [hz3.1]; exact q)
        have LM := PySem.W.exm_one (M := model X.prog X.w) (J3.kIn) LT hb1
        have test : ∀ {Q : Value → Shared → Prop} {E : Value → Shared → Prop}, Q c { s' with heap := h3 } → wpAny (model X.prog X.w) (X.A.mark (some (.ref a))) (eval (.Name x np) X.env) Q E { s' with heap := h3 } := fun {Q E} q => by
          obtain ⟨hg, hdbg, hm | ⟨hm, hv, hnn⟩⟩ := hc
          · exact ld_glob (X := X.suite a ((a, oe3) :: (X.pn ++ pins))) S3 hg hm q hdbg
          · exact ld_blt (X := X.suite a ((a, oe3) :: (X.pn ++ pins))) S3 hg hm hv q hnn hdbg
        refine test (LM.here ?_)
        cases b with
        | true =>
          refine codeAny_handlers_suite_as ?_
          refine HandSPX.lands_againZ fl3 fun h4 fl4 up4 => ?_
          have J4 : Inv X pins σ' H' { s' with heap := h4 } := J.landed nb fl4.1 ((up.trans up3).trans up4) os ag
          obtain ⟨oe4, vs4, he4, hz4, hd4⟩ := fl4.there
          have S4 := J4.suite he4 hd4 na nL nF
          refine store_ok (X := X.suite a ((a, oe4) :: (X.pn ++ pins))) (v := .ref a) S4 hN hi hloc rfl (fun s5 S5 => ?_) (.inr hln)
          refine wpAny_mono ((hsu a oe4 cls d (X.pn ++ pins) hz4 ⟨_, hd4⟩).run [] s5 _ H' _ S5 (hyes rfl a na)) (fun f s6 hsp => ?_) (fun _ _ z => False.elim z)
          have end_ : ∀ {σ6 : St} {H6 : Hp} {Q : Shared → Prop}, Inv (X.suite a ((a, oe4) :: (X.pn ++ pins))) [] σ6 H6 s6 → (∀ s7, Inv X pins (σ6.set i none) H6 s7 → Q s7) →
              wpAny (model X.prog X.w) X.A (do bindName X.env n .none; unbindBehindTheSuite X.env n pos') (fun _ s7 => Q s7) X.xe s6 := fun {σ6 H6 Q} S6 hq => gone_ok (S6.unsuite ok) hN hi hln hq
          cases f with
          | next =>
            obtain ⟨σ6, H6, S6, q6⟩ := hsp
            exact end_ S6 fun s7 J7 => ⟨_, _, J7, q6⟩
          | brk =>
            obtain ⟨σ6, H6, S6, q6⟩ := hsp
            exact end_ S6 fun s7 J7 => ⟨_, _, J7, q6⟩
          | cont =>
            obtain ⟨σ6, H6, S6, q6⟩ := hsp
            exact end_ S6 fun s7 J7 => ⟨_, _, J7, q6⟩
          | ret u =>
            obtain ⟨v6, σ6, H6, S6, r6, q6⟩ := hsp
            exact end_ S6 fun s7 J7 => ⟨_, _, _, J7, r6, q6⟩
        | false =>
          show wpAny _ X.A (handleBy (.ref a) X.env hds2) _ _ _
          exact ih (hno rfl)
    exact go hh w
  · cases f with
    | next =>
      obtain ⟨σ', H', J', q⟩ := hsp
      exact wpAny_execs_nil ⟨σ', H', J'.ofTry ok, q⟩
    | brk =>
      obtain ⟨σ', H', J', q⟩ := hsp
      exact ⟨σ', H', J'.ofTry ok, q⟩
    | cont =>
      obtain ⟨σ', H', J', q⟩ := hsp
      exact ⟨σ', H', J'.ofTry ok, q⟩
    | ret u =>
      obtain ⟨v, σ', H', J', r, q⟩ := hsp
      exact ⟨v, σ', H', J'.ofTry ok, r, q⟩
end
end L2
set_option maxHeartbeats 4000000
/-! An own error over a built-in one: __init__(self, f): super().__init__('..'); self.f = f -/
namespace PySem
namespace LfX
open PySem.W PySem.Calls PyProof.Rows PySem.HandSPX
def xA (f : Str) (p1 p2 : Pos) : Arguments := { posonlyargs := [], args := [{ arg := "self", annotation := none, pos := p1 }, { arg := f, annotation := none, pos := p2 }], vararg := none, kwonlyargs := [], kw_defaults := [], kwarg := none, defaults := [] }
def xB (f m : Str) (j : Nat) (q1 q2 q3 q4 q5 q6 q7 q8 q9 q10 : Pos) : List Stmt :=
  [.Expr (.Call (.Attribute (.Call (.Name "super" q1) [] [] q2) "__init__" q3) [.Constant (.str m) j q4] [] q5) q6, .Assign [.Attribute (.Name "self" q7) f q8] (.Name f q9) q10]
def xS (f : Str) : Scope := { kind := .function, names := [(PySem.Str.ofString "self", .local), (f, .local), (PySem.Str.ofString "__class__", .free), (PySem.Str.ofString "super", .globalImplicit)], isGenerator := false, isCoroutine := false, more := [] }
/-- the name of the field stands apart from the three others -/
structure FldOk (f : Str) : Prop where
  e1 : (f == PySem.Str.ofString "self") = false
  e2 : (PySem.Str.ofString "__class__" == f) = false
  e3 : (PySem.Str.ofString "super" == f) = false
  e4 : (f == ("__debug__" : Str)) = false
  bd : ∀ (qn : Str) (p1 p2 : Pos) (b : List Stmt) (doc pm : Value) (an : Option Addr) (cdv ct : Value) (cc : Addr) (s : Shared) (x v : Value),
    BindsTo s (ksFn "__init__" qn (xA f p1 p2) b (xS f) .none .none doc pm an cdv ct cc) ⟨[x, v], []⟩ [("self", x), (f, v)]
/-- what the written part says of such a class, at C, and of its __init__, at fI -/
structure XTxt (prog : Program) (K : Frag) (mg : Str → Option Value) (x f : Str) (B i newId : String) (bmB : List Value) (C fI : Addr) : Prop where
  fo : FldOk f
  gC : mg x = some (.ref C)
  cls : ∃ nm q N bs bm sn sub ab col dd k0 k1 k2 k3 k5, K.lookup C = some (excClassObj nm q C N bs bm true sn sub ab col dd k0 k1 k2 k3 k5 newId) ∧ (∀ X : String, bm.contains (.type X) = bmB.contains (.type X)) ∧
    (∀ self : Value, refuseLoop self "__setattr__" bm = pure ()) ∧ alongIn K "__init__" bm = some (some (.builtin i))
  sa : findIn K (.ref C) "__setattr__" = some (some (.builtin "object.__setattr__"))
  noF : findIn K (.ref C) f = some none
  iC : findIn K (.ref C) "__init__" = some (some (.ref fI))
  tC : typeIn K (.ref fI) = some (.type "function")
  kC : keepIn K (.ref C) = true
  exC : subIn K (.ref C) (.type "BaseException") = some true
  sB : subIn K (.ref C) (.type B) = some true
  sD : mroIn K C (.ref C) = some true
  sO : mroIn K C (.type "object") = some true
  tyC : typeIn K (.ref C) = some (.type "type")
  op : nsIn K cStatics "thirdparty.any" = some none
  sup : mg "super" = none
  top : (prog.main.scope.names.lookup ("super" : Str)).isSome = false
  fn : ∃ (oc : Value) (od : Option Addr) (doc pm : Value) (an : Option Addr) (cda : Addr) (ct : Value) (cc : Addr) (osl : Array (Option Value)) (qn m : Str) (j : Nat) (p1 p2 q1 q2 q3 q4 q5 q6 q7 q8 q9 q10 : Pos)
      (ccl : Value) (cdd : Option Addr) (vs : Array Value) (ccs : Array (Option Value)) (file : Str) (tf : Tok) (cl : Value) (cld : Option Addr) (csl : Array (Option Value)),
    K.lookup fI = some ⟨oc, od, .func (ksFn "__init__" qn (xA f p1 p2) (xB f m j q1 q2 q3 q4 q5 q6 q7 q8 q9 q10) (xS f) .none .none doc pm an (.ref cda) ct cc), osl⟩ ∧ codeIn K (.ref cda) qn = true ∧
    K.lookup cda = some ⟨ccl, cdd, .fields vs, ccs⟩ ∧ vs[2]? = some (.str file tf) ∧ ((prog.main.file : Str) == file) = true ∧ K.lookup cc = some ⟨cl, cld, .cell (some (.ref C)), csl⟩ ∧ (q3.endLine == q5.line) = true
section
variable {f : Str}
theorem xS_self : (xS f).names.lookup ("self" : Str) = some .local := by simp [xS, List.lookup]
theorem xS_f (o : FldOk f) : (xS f).names.lookup f = some .local := by simp [xS, List.lookup, o.e1]
theorem xS_class (o : FldOk f) : (xS f).names.lookup ("__class__" : Str) = some .free := by
  have h1 : ((PySem.Str.ofString "__class__") == (PySem.Str.ofString "self")) = false := by decide +kernel
  simp [xS, List.lookup, o.e2, h1]
theorem xS_super (o : FldOk f) : (xS f).names.lookup ("super" : Str) = some .globalImplicit := by
  have h1 : ((PySem.Str.ofString "super") == (PySem.Str.ofString "self")) = false := by decide +kernel
  have h2 : ((PySem.Str.ofString "super") == (PySem.Str.ofString "__class__")) = false := by decide +kernel
  simp [xS, List.lookup, o.e3, h1, h2]
end
theorem own_drop (C : Addr) (l : List Value) : ((Value.ref C :: l).dropWhile (· != .ref C)).drop 1 = l := by simp [List.dropWhile_cons]
/-- what __init__ leaves of a fresh exception at x -/
structure InitEnd (f : Str) (h h' : Heap) (x C dx : Addr) (v : Value) : Prop where
  keep : ∀ b o, b ≠ x → h.get? b = some o → h'.get? b = some o
  obj : ∃ t1, h'.get? x = some { cls := .ref C, dict := some dx, data := .fields #[.ref t1, .none, .none, .none, .bool false, .none] }
  dbig : h.objs.size ≤ dx
  dne : dx ≠ x
  ns : h'.Ns1 dx (fun y => if y = f then some v else none)
/-- a made one -/
structure XMade (f : Str) (h h' : Heap) (e C d : Addr) (v : Value) : Prop where
  keep : ∀ b o, h.get? b = some o → h'.get? b = some o
  new : h.objs.size ≤ e
  obj : ∃ oe vs, h'.get? e = some oe ∧ oe.cls = .ref C ∧ oe.dict = some d ∧ oe.data = .fields vs ∧ vs[1]? = some .none
  dbig : h.objs.size ≤ d
  dne : d ≠ e
  ns : h'.Ns1 d (fun y => if y = f then some v else none)
section
open Builtin Builtin.ObjectAttr
variable {prog : Program} {w : World} {A : Around} {E : Value → Shared → Prop} {R : Result → Shared → Prop} {hp : Heap} {g : Array GenState} {d : Drawn} {t : Nat} {os : OsState}
/-- self.name = v on an exception without a dict, by what its classes let -/
theorem osa_first {K : Frag} {name : Str} {tk : Tok} {v : Value} {x C : Addr} {fv : Array Value} {cd : ClassData}
    (X : K.In hp) (hx : hp.get? x = some { cls := .ref C, data := .fields fv }) (hcd : clsIn K C = some cd) (hob : mroIn K C (.type "object") = some true) (hpass : refuseLoop (.ref x) "__setattr__" cd.mro = pure ()) (hh : cd.hasDict = true) (ha : findIn K (.ref C) name = some none)
    (hq : ∀ h' tk' dx, (∀ b o, b ≠ x → hp.get? b = some o → h'.get? b = some o) → hp.objs.size ≤ dx → dx ≠ x → h'.get? x = some { cls := .ref C, dict := some dx, data := .fields fv } →
      h'.Ns1 dx (fun y => if y = name then some v else none) → R (.ok (.ret .none)) ⟨h', g, d, tk', os⟩) :
    codeAny (model prog w) A (.call (.builtin "object.__setattr__") ⟨[.ref x, .str name tk, v], []⟩) R ⟨hp, g, d, t, os⟩ := by
  have I : InstAt hp x { cls := .ref C, data := .fields fv } C none := ⟨hx, rfl, rfl, trivial⟩
  have hxs : x ≠ hp.objs.size := Nat.ne_of_lt (Heap.lt_size hx)
  have SF := F.store_object
  have sub : Looks (model prog w) hp (isInstance (.ref x) (.type "object")) true := I.type.andThen (looks_mroIn X hob)
  refine codeAny_call_builtin SF.slot.plain SF.entry (@check_slot (model prog w) _ _ ⟨hp, g, d, t, os⟩ "object.__setattr__" "object" "__setattr__" (.ref x) [.str name tk, v] [] _ SF.kind SF.split sub (SF.args (.ref x) (.str name tk) v) ?_)
  have hmr : Looks (model prog w) hp (mroOf (.ref C)) cd.mro := (looks_clsIn X hcd).andThen .now
  have L3 : Looks (model prog w) hp (storeTaker? none) none := .now
  have hcls : Looks (model prog w) hp (classData C) cd := looks_clsIn X hcd
  rw [osa_eq, refuse_eq]
  refine wpAny_bind (wpAny_bind (I.type.at (wpAny_bind (hmr.at ?_))))
  rw [hpass]
  refine wpAny_pure (wpAny_bind (I.type.at (wpAny_bind ((looks_findIn X ha).at (wpAny_bind (L3.at ?_))))))
  show wpAny _ _ (storeInOwnDict (.ref x) (.ref C) (.str name tk) name v false) _ _ _
  obtain ⟨nm, bs, mro, ns, qn, hd, sn, sb, ab, col, del⟩ := cd
  dsimp only at hh
  subst hh
  unfold storeInOwnDict ownDictForStores
  repeat (first | with_reducible refine HandSPX.store_in_new ?_ ?_ | with_reducible refine wpAny_loadPart_at hx ?_ | with_reducible refine hcls.at ?_ | wp_step)
  · exact ⟨_, #[], _, (Heap.get?_update_ne _ _ _ _ hxs.symm).trans (Heap.get?_push_at rfl rfl), rfl, fun e he => absurd he (by simp), fun _ => rfl⟩
  · intro h' tk' hn' hs
    have hx₁ : (hp.push { cls := .type "dict", data := .dict #[] }).get? x = some { cls := .ref C, data := .fields fv } := Heap.get?_push_of_some _ hx
    refine hq h' tk' hp.objs.size (fun b o hb ho => ?_) (Nat.le_refl _) hxs.symm ?_ hn'
    · exact (hs.2 b (Nat.ne_of_lt (Heap.lt_size ho))).trans ((Heap.get?_update_ne _ _ _ _ hb).trans (Heap.get?_push_of_some _ ho))
    · exact (hs.2 x hxs).trans (Heap.get?_update_self _ hx₁ rfl)
/-- the bound built-in __init__ called: the args are laid anew -/
theorem call_mw {nm q : Str} {C N : Addr} {bs bm bmB : List Value} {hdct : Bool} {sn : List Str} {sub : List Value} {ab : Bool} {col : Option Bool} {dd : Option Addr} {k0 k1 k2 k3 k5 : Option Value} {B newId i : String}
    {u e t0 : Addr} {rest : List Value} {Q : Value → Shared → Prop} (FB : ExcBaseFacts B newId i bmB)
    (hC : hp.get? C = some (excClassObj nm q C N bs bm hdct sn sub ab col dd k0 k1 k2 k3 k5 newId)) (he : hp.get? e = some (excO C t0)) (hu : hp.get? u = some (kxs_mw i e)) (hrest : rest.length ≤ sizeLine)
    (hq : ∀ h' t1, (∀ b o, b ≠ e → hp.get? b = some o → h'.get? b = some o) → h'.get? e = some (excO C t1) → Q .none ⟨h', g, d, t, os⟩) :
    wpAny (model prog w) A (call (.ref u) rest) Q E ⟨hp, g, d, t, os⟩ := by
  refine wpAny_call (codeAny_of_tree ?_)
  show wpAny _ A.in1 (callAny (.ref u) ⟨rest, []⟩) _ _ _
  simp only [callAny]
  refine wpAny_bind (wpAny_load hu ?_)
  simp only [kxs_mw, show (Value.type "method-wrapper" == Value.type "method" || Value.type "method-wrapper" == Value.type "builtin_function_or_method" || Value.type "method-wrapper" == Value.type "method-wrapper") = true by decide, if_true]
  refine KFB.if_so (by decide) ?_
  refine wpAny_bind (check_bound_init FB.toExcCallFacts hC he rfl ?_)
  refine wpAny_bind (wpAny_pure (wpAny_pure ?_))
  refine ⟨plainId_quiet FB.init.plain _, codeAny_builtin FB.initEntry ?_⟩
  exact exc_init_tree (cls := .ref C) (t0 := t0) (dv := none) (c2 := .none) (c3 := .none) (b4 := .bool false) he hrest fun h' k e' t' => hq h' _ k e'
end
section
variable {prog : Program} {w : World} {A : Around} {E : Value → Shared → Prop} {R : Result → Shared → Prop} {s : Shared} {K : Frag} {mg : Str → Option Value} {nx f : Str} {B i newId : String} {bmB : List Value} {C fI : Addr}
theorem x_init (T : XTxt prog K mg nx f B i newId bmB C fI) (FB : ExcBaseFacts B newId i bmB) (KF : KxsFacts B i) {x t0 : Addr} {v : Value} (X : K.In s.heap) (G : s.heap.Ns mainGlobals mg) (Bl : ∃ mb, s.heap.Ns builtinsNs mb ∧ ∀ x : Str, x ≠ "__name__" → mb x = bootBuiltins x)
    (hlim : s.heap.NoLimit) (hx : s.heap.get? x = some (excO C t0)) (hnx : K.lookup x = none) (hroom : A.depth < recursionLimit)
    (hq : ∀ h' tk dx, InitEnd f s.heap h' x C dx v → R (.ok (.ret .none)) { s with heap := h', toks := tk }) :
    codeAny (model prog w) A (.call (.ref fI) ⟨[.ref x, v], []⟩) R s := by
  obtain ⟨oc, od, doc, pm, an, cda, ct, cc, osl, qn, m, j, p1, p2, q1, q2, q3, q4, q5, q6, q7, q8, q9, q10, ccl, cdd, vs, ccs, file, tf, cl, cld, csl, ho, hcd, hcda, hvs, hfile, hcc, hln⟩ := T.fn
  obtain ⟨nm, q, N, bs, bm, sn, sub, ab, col, dd, k0, k1, k2, k3, k5, hC, hT, hpass, hal⟩ := T.cls
  obtain ⟨mb, hB, hBB⟩ := Bl
  have hcl : clsIn K C = some { name := nm, bases := bs, mro := .ref C :: bm, ns := N, qualname := q, hasDict := true, slotNames := sn, subclasses := sub, abstract := ab, collection := col, hasDel := false } := by unfold clsIn; rw [hC] <;> rfl
  refine ks_codeAny_call_defAt (fd := ksFn "__init__" qn (xA f p1 p2) (xB f m j q1 q2 q3 q4 q5 q6 q7 q8 q9 q10) (xS f) .none .none doc pm an (.ref cda) ct cc) (binds := [("self", .ref x), (f, v)]) hroom (X _ _ ho) rfl hlim (codeRec_of X hcd) rfl (T.fo.bd qn p1 p2 _ doc pm an _ ct cc s (.ref x) v) ?_ ?_ (fun h₁ hns k => ?_) rfl rfl rfl
  · intro y hy
    simp only [xS, List.mem_cons, List.not_mem_nil, or_false] at hy
    rcases hy with rfl | rfl | rfl | rfl <;> (intro z; cases z)
  · intro y hy
    simp only [List.mem_cons, List.not_mem_nil, or_false] at hy
    rcases hy with rfl | rfl
    · exact xS_self
    · exact xS_f T.fo
  · have X₁ : K.In h₁ := X.keeps k
    have hx₁ := k _ _ hx
    have hself : (fun y => List.lookup y ([(("self" : Str), Value.ref x), (f, v)].reverse)) ("self" : Str) = some (.ref x) := by
      have h1 : (("self" : Str) == f) = false := by rw [BEq.comm]; exact T.fo.e1
      simp [List.lookup, h1]
    have hval : (fun y => List.lookup y ([(("self" : Str), Value.ref x), (f, v)].reverse)) f = some v := by
      simp [List.lookup]
    have hCC : h₁.get? C = some _ := X₁ _ _ hC
    refine ks_wpAt_execs_cons (ks_wpAt_Expr_any (ks_wpAt_MethodCall (pl := do return (← importBound (.Call (.Name "super" q1) [] [] q2) (callEnv (ksFn "__init__" qn (xA f p1 p2) (xB f m j q1 q2 q3 q4 q5 q6 q7 q8 q9 q10) (xS f) .none .none doc pm an (.ref cda) ct cc) s.heap.objs.size fI)).getD true) ?_ ?_) rfl rfl)
    rotate_left
    · have e1 : ∀ (o : Expr) (env : Env), methodCallPos true o env q3 q5 = pure q5 := fun o env => by
        unfold methodCallPos
        rw [hln]
        rfl
      show (attributeBase _ _ _ _ >>= fun ov => standAt q3.atName >>= fun _ => (holding [ov] (calleeOf true _ _ ov _)) >>= fun x => methodCallPos true (.Call (.Name "super" q1) [] [] q2) (callEnv (ksFn "__init__" qn (xA f p1 p2) (xB f m j q1 q2 q3 q4 q5 q6 q7 q8 q9 q10) (xS f) .none .none doc pm an (.ref cda) ct cc) s.heap.objs.size fI) q3 q5 >>= fun cp => callWith cp x.1 x.2 _ _) = _
      rw [e1]
      rfl
    refine ks_wpAt_super_base (f := fI) (cc := cda) (file := file) (tf := tf) (xS_super T.fo) (xS_class T.fo) (by decide) rfl (X₁ _ _ ho) rfl rfl rfl (X₁ _ _ hcda) rfl hvs hfile T.top ?_
    refine ks_loadName_global rfl (xS_super T.fo) (loadGlobal_builtin (G.keeps k) T.sup (hB.keeps k) ((hBB _ (by decide +kernel)).trans (by first | boot_by_name | rfl | kernel_rfl)) ⟨rfl, ?_⟩)
    refine wpAny_loadName_free rfl (xS_class T.fo) rfl ⟨_, X₁ _ _ hcc, rfl⟩ ?_
    refine wpAny_loadName_local rfl xS_self hns hself ?_
    refine ks_wpAny_isType_cls hCC rfl ⟨rfl, ?_⟩
    refine ks_wpAny_call_super hCC rfl hx₁ rfl (fun c e => by cases e) (looks_mroIn X₁ T.sD) (fun h₂ hso k₂ => ?_)
    have X₂ : K.In h₂ := X₁.keeps k₂
    have hx₂ := k₂ _ _ hx₁
    have I₂ : InstAt h₂ x (excO C t0) C none := ⟨hx₂, rfl, rfl, trivial⟩
    have hxC : x ≠ C := fun z => by rw [z, hC] at hnx; cases hnx
    refine kxs_getMethod (l₀ := .ref C :: bm) KF hso (looks_opaque X₂ T.op) ((looks_clsIn X₂ hcl).andThen .now) rfl X₂ (by rw [own_drop]; exact hal) (I₂.type.andThen (looks_subIn X₂ T.sB)) hxC (by decide) ?_
    have k₃ : ∀ b o, h₂.get? b = some o → (h₂.push (kxs_mw i x)).get? b = some o := fun b o e => Heap.get?_push_of_some _ e
    refine kxs_callWith (i := i) (x := x) rfl ?_
    refine evalArgs_plain (Calls.spliced_cons ?_)
    refine Calls.Constant_str (x := m) (k := j) (pos := q4) (Calls.spliced_nil ?_)
    have hu : (h₂.push (kxs_mw i x)).get? h₂.objs.size = some (kxs_mw i x) := Heap.get?_push_at rfl rfl
    refine ⟨hu, ?_⟩
    show wpAny _ _ (call (.ref h₂.objs.size) [_]) _ _ _
    refine call_mw FB (k₃ _ _ (X₂ _ _ hC)) (k₃ _ _ hx₂) hu (by show 1 ≤ sizeLine; rw [sizeLine_eq]; decide) (fun h₄ t1 k₄ hx₄ => ?_)
    have kx : ∀ b o, b ≠ x → s.heap.get? b = some o → h₄.get? b = some o := fun b o hb e => k₄ b o hb (k₃ b o (k₂ b o (k b o e)))
    have X₄ : K.In h₄ := fun b o e => kx b o (fun z => by rw [z, hnx] at e; cases e) (X b o e)
    have hxL : x ≠ s.heap.objs.size := Nat.ne_of_lt (Heap.lt_size hx)
    have hns₄ : h₄.Ns s.heap.objs.size (fun y => List.lookup y ([(("self" : Str), Value.ref x), (f, v)].reverse)) := by
      obtain ⟨oL, es, ep, hL, r⟩ := hns
      exact ⟨oL, es, ep, k₄ _ _ hxL.symm (k₃ _ _ (k₂ _ _ hL)), r⟩
    refine ks_wpAt_execs_cons (_root_.PySem.wpAt_of_wpAny (plainObj_wpAny_Assign_Attribute ?_))
    refine wpAny_Name (wpAny_loadName_local rfl (xS_f T.fo) hns₄ hval ?_) T.fo.e4
    refine wpAny_Name (wpAny_loadName_local rfl xS_self hns₄ hself ?_) (by decide)
    refine set_plain X₄ (ox := excO C t1) (od := none) ⟨hx₄, rfl, rfl, trivial⟩ T.sa ?_
    refine osa_first X₄ hx₄ hcl T.sO (by rw [refuseLoop_ref]; exact hpass _) rfl T.noF (fun h₅ tk₅ dx k₅ dn dne hx₅ hn₅ => ?_)
    refine _root_.PySem.wpAt_of_wpAny (wpAny_execs_nil ?_)
    refine hq h₅ tk₅ dx ⟨fun b o hb e => k₅ b o hb (kx b o hb e), ⟨t1, hx₅⟩, ?_, dne, hn₅⟩
    exact Nat.le_trans (Nat.le_of_lt hns₄.lt) dn
theorem x_made (T : XTxt prog K mg nx f B i newId bmB C fI) (FB : ExcBaseFacts B newId i bmB) (KF : KxsFacts B i) {v : Value} (X : K.In s.heap) (G : s.heap.Ns mainGlobals mg) (Bl : ∃ mb, s.heap.Ns builtinsNs mb ∧ ∀ x : Str, x ≠ "__name__" → mb x = bootBuiltins x)
    (hlim : s.heap.NoLimit) (hroom : A.depth + 1 < recursionLimit)
    (hq : ∀ h' tk e d, XMade f s.heap h' e C d v → R (.ok (.ret (.ref e))) { s with heap := h', toks := tk }) :
    codeAny (model prog w) A (.call (.ref C) ⟨[v], []⟩) R s := by
  obtain ⟨nm, q, N, bs, bm, sn, sub, ab, col, dd, k0, k1, k2, k3, k5, hC, hT, hpass, hal⟩ := T.cls
  obtain ⟨mb, hB, hBB⟩ := Bl
  obtain ⟨hp, g, dr, tk, os⟩ := s
  have k : ∀ b o, hp.get? b = some o → ((hp.push (kdv_tup [v])).push (excO C hp.objs.size)).get? b = some o := fun b o e => Heap.get?_push_of_some _ (Heap.get?_push_of_some _ e)
  have hget : ((hp.push (kdv_tup [v])).push (excO C hp.objs.size)).get? (hp.objs.size + 1) = some (excO C hp.objs.size) := by heap_get
  have hnx : K.lookup (hp.objs.size + 1) = none := by
    cases e : K.lookup (hp.objs.size + 1) with
    | none => rfl
    | some o =>
      have z : hp.get? (hp.objs.size + 1) = some o := X _ _ e
      exact absurd (Nat.lt_of_succ_lt (Heap.lt_size z)) (Nat.lt_irrefl _)
  refine call_own FB hT (X _ _ hC) (looks_findIn X T.iC) (fun self => bind_fn X self T.tC) (by show 1 ≤ sizeLine; rw [sizeLine_eq]; decide) ?_
  refine x_init (s := ⟨(hp.push (kdv_tup [v])).push (excO C hp.objs.size), g, dr, tk, os⟩) T FB KF (X.keeps k) (G.keeps k) ⟨mb, hB.keeps k, hBB⟩ (hlim.keeps k) hget hnx ?_ fun h' tk' dx ⟨k', ⟨t1, hx⟩, dn, dne, hns⟩ => ?_
  · show A.depth + 1 < recursionLimit
    exact hroom
  · have old : ∀ b o, hp.get? b = some o → h'.get? b = some o := fun b o e => k' b o (Nat.ne_of_lt (Nat.lt_succ_of_lt (Heap.lt_size e))) (k b o e)
    have z : hp.objs.size + 1 + 1 ≤ dx := by
      have q := dn
      rw [Heap.size_push, Heap.size_push] at q
      exact q
    exact ⟨rfl, hq h' tk' (hp.objs.size + 1) dx ⟨old, Nat.le_succ _, ⟨_, _, hx, rfl, rfl, rfl, rfl⟩, Nat.le_trans (Nat.le_trans (Nat.le_succ _) (Nat.le_succ _)) z, dne, hns⟩⟩
end
end LfX
end PySem
namespace L2
open PySem PySem.Spec PyProof.Rows
theorem relO_one {f : Str} {v : V} {v' : Value} (r : RelV v v') (y : Str) : RelO (List.lookup y [(f, v)]) (if y = f then some v' else none) := by
  by_cases hw : y = f
  · subst hw
    rw [if_pos rfl]
    have q : List.lookup y [(y, v)] = some v := by simp [List.lookup]
    rw [q]
    exact r
  · rw [if_neg hw]
    have qw : (y == f) = false := by simpa using hw
    have q2 : List.lookup y [(f, v)] = none := by simp [List.lookup, qw]
    rw [q2]
    trivial
section
variable {X : Cx} {C fI : Addr} {nx f : Str} {B i newId : String} {bmB : List Value}
/-- C(e) for such a class -/
def tMkX (C : Addr) (f : Str) (ta : TA) : L2.St → Hp → XK → Prop := fun σ H Q => ta σ H fun vs H1 => ∃ v, vs = [v] ∧ ∀ d, H1 d = none → Q (.ref C) (some d) (upd H1 d (.xd [(f, v)]))
theorem pmk_x {a : Expr} {ta : TA} {p pos : Pos} {k : Nat} (T : PySem.LfX.XTxt X.prog X.K X.mg nx f B i newId bmB C fI) (FB : ExcBaseFacts B newId i bmB) (KF : PySem.W.KxsFacts B i) (hr : Room k X.A) (ha : PA X [a] ta) (hg : Gl X nx := by rfl) (hdb : (nx == ("__debug__" : Str)) = false := by decide)
    (he : starEach (a :: []) X.env = (false, eval a X.env) :: starEach [] X.env := by rfl) (hpl : (backTo pos (starEach [] X.env)).any (·.1) = false := by rfl) :
    PMk X (.Call (.Name nx p) [a] [] pos) (tMkX C f ta) := by
  intro pins s σ H Q I h
  refine wpAny_Call_Name_kw (ld_glob I hg T.gC ?_ hdb)
  refine PySem.W.callWith_K (h₀ := X.base) I.ok.mod.kin T.kC (thn (ha.run pos pins s σ H _ I h) fun us s1 hh => ?_) he hpl
  obtain ⟨vs, H1, I1, r1, v, ev, q1⟩ := hh
  subst ev
  refine ⟨I1.kIn, ?_⟩
  cases r1 with
  | cons rv rn =>
    rename_i v' us'
    cases rn
    show wpAny _ _ (call (.ref C) [v']) _ _ _
    have hlim := I1.nolimit
    have hG : s1.heap.Ns mainGlobals X.mg := I1.ok.mod.glob.keeps I1.bk
    have hB : ∃ mb, s1.heap.Ns builtinsNs mb ∧ ∀ x : Str, x ≠ "__name__" → mb x = bootBuiltins x := by
      obtain ⟨mb, b1, b2⟩ := I1.ok.mod.blt
      exact ⟨mb, b1.keeps I1.bk, b2⟩
    obtain ⟨hp, g, dr, tk, os⟩ := s1
    refine wpAny_call (PySem.LfX.x_made T FB KF I1.kIn hG hB hlim (by have := hr.dp; omega) fun h' tk' e d M => ?_)
    show MkP X pins σ Q (.ref e) ⟨h', g, dr, tk', os⟩
    obtain ⟨oe, fv, hoe, hc, hd, hdat, h1⟩ := M.obj
    have hns := M.ns
    obtain ⟨G', g1, g2⟩ := restrict h' fun b => decide (b ≠ e)
    have gk : ∀ b, b ≠ e → G'.get? b = h'.get? b := fun b hb => g1 b (decide_eq_true hb)
    have ge : G'.get? e = none := g2 e (by simp)
    have old : ∀ b o, hp.get? b = some o → G'.get? b = some o := fun b o q => (gk b (Nat.ne_of_lt (Nat.lt_of_lt_of_le (Heap.lt_size q) M.new))).trans (M.keep b o q)
    have ob : ObjOk X.prog X.w (upd H1 d (.xd [(f, v)])) G' d (.xd [(f, v)]) :=
      ⟨_, hns.at (fun o q => (gk d M.dne).trans q), fun y => relO_one rv y⟩
    have J : Inv X pins σ (upd H1 d (.xd [(f, v)])) ⟨G', g, dr, tk', os⟩ := I1.laid (t' := tk') old M.dbig ob
    refine ⟨e, oe, fv, ⟨G', g, dr, tk', os⟩, _, .ref C, some d, rfl, J, fun b o q => ?_, ge, hoe, ⟨hc, hd⟩, hdat, h1, ?_, rfl, I1.bare, raises_own T.exC T.tyC, q1 d (I1.hok.fresh M.dbig)⟩
    · by_cases hb : b = e
      · have q' : G'.get? b = some o := q
        rw [hb, ge] at q'; cases q'
      · exact (gk b hb).symm.trans q
    · rw [upd_ne (Ne.symm M.dne)]
      exact I1.hok.fresh M.new
end
end L2
set_option maxHeartbeats 4000000
/-! A def of the text as one fact, and its call -/
namespace L2
open PySem PySem.Spec PyProof.Rows
/-- the def x of the text stands at its name -/
def Df (K : PySem.W.Frag) (mg : Str → Option Value) (x : Str) (st : Stmt) : Prop := ∃ f fd, Fun K x x st f fd ∧ mg x = some (.ref f)
/-- the def x keeps the promise sp -/
def DefOk (P : Program) (w : World) (K : PySem.W.Frag) (mg : Str → Option Value) (base : Heap) (CX : CXT) (k : Nat) (x : Str) (ps : List Str) (sp : Sp) : Prop :=
  ∃ f fd, mg x = some (.ref f) ∧ PySem.W.keepIn K (.ref f) = true ∧ Binds K fd ps [] ∧ FnOk P w K mg base CX k f fd ps sp
section
variable {P : Program} {w : World} {K : PySem.W.Frag} {mg : Str → Option Value} {base : Heap} {x : Str} {st : Stmt} {N ps : List Str} {k : Nat} {sp : Sp}
theorem Df.ok (D : Df K mg x st) (S : FnScope N ps (defScope st))
    (bd : ∀ (kV doc pm : Value) (an : Option Addr) (cdv ct : Value) (us : List Value), us.length = ps.length → bindArgs (PySem.W.fnOf x x (defArgs st) (defBody st) (defScope st) .none kV doc pm an cdv ct) ⟨us, []⟩ = pure (ps.zip us))
    (len : ∀ vs H Q E, sp vs H Q E → vs.length = ps.length)
    (hbody : ∀ (f : Addr) (cdv : Value) (A : Around) (outer : List Env) (s : Shared) (H : Hp) (vs : List V) (Q : VK) (E : XK), Room k (A.deeper (envOfC x (defScope st) s.heap.objs.size f cdv)) → sp vs H Q E →
      ∃ t, PSs (cxOf CX0 P w K mg base N x (defScope st) f cdv A outer s H E).nox (defBody st) t ∧ t { nx := fun _ H' => Q .non H', rt := Q } (start N vs) H) : DefOk P w K mg base CX0 (k + 1) x ps sp := by
  obtain ⟨f, fd, F, hm⟩ := D
  exact ⟨f, fd, hm, F.kp, F.binds bd, F.ok S len (hbody f)⟩
theorem Df.okX (D : Df K mg x st) (S : FnScope N ps (defScope st))
    (bd : ∀ (kV doc pm : Value) (an : Option Addr) (cdv ct : Value) (us : List Value), us.length = ps.length → bindArgs (PySem.W.fnOf x x (defArgs st) (defBody st) (defScope st) .none kV doc pm an cdv ct) ⟨us, []⟩ = pure (ps.zip us))
    (len : ∀ vs H Q E, sp vs H Q E → vs.length = ps.length)
    (hbody : ∀ (f : Addr) (cdv : Value) (A : Around) (outer : List Env) (s : Shared) (H : Hp) (vs : List V) (Q : VK) (E : XK), Room k (A.deeper (envOfC x (defScope st) s.heap.objs.size f cdv)) → sp vs H Q E →
      ∃ t, PSs (cxOf (L2.CX P w) P w K mg base N x (defScope st) f cdv A outer s H E) (defBody st) t ∧ t { nx := fun _ H' => Q .non H', rt := Q } (start N vs) H) : DefOk P w K mg base (L2.CX P w) (k + 1) x ps sp := by
  obtain ⟨f, fd, F, hm⟩ := D
  exact ⟨f, fd, hm, F.kp, F.binds bd, F.okX S len (hbody f)⟩
end
section
variable {X : Cx} {CX : CXT} {k : Nat} {ps : List Str} {sp : Sp} {E : XK} {ES : St → XK} {x : Str} {p pos : Pos} {e : Expr} {es : List Expr} {t : TA}
def tCallD (sp : Sp) (E : XK) (t : TA) : TE := fun σ H Q => t σ H fun vs H1 => sp vs H1 Q E
theorem pe_callD (D : DefOk X.prog X.w X.K X.mg X.base CX k x ps sp) (hr : Room k X.A) (hx : Passes CX X E) (ha : PA X (e :: es) t) (hg : Gl X x := by rfl) (hdb : (x == ("__debug__" : Str)) = false := by decide)
    (he : starEach (e :: es) X.env = (false, eval e X.env) :: starEach es X.env := by rfl) (hpl : (backTo pos (starEach es X.env)).any (·.1) = false := by rfl) :
    PE X (.Call (.Name x p) (e :: es) [] pos) (tCallD sp E t) := by
  obtain ⟨f, fd, hm, hk, hb, F⟩ := D
  refine ⟨fun pins s σ H Q I h => (pe_call F hr hg hm hk hb (.nil) hx ha hdb he hpl).run pins s σ H Q I ?_⟩
  have q : (fun vs H1 => sp vs H1 Q E) = fun vs H1 => sp (vs ++ []) H1 Q E := by
    funext vs H1
    rw [List.append_nil]
  show t σ H (fun vs H1 => sp (vs ++ []) H1 Q E)
  rw [← q]
  exact h
theorem pe_callDS (D : DefOk X.prog X.w X.K X.mg X.base CX k x ps sp) (hr : Room k X.A) (hx : ∀ σ, PassesAt CX X σ (ES σ)) (ha : PA X (e :: es) t) (hg : Gl X x := by rfl) (hdb : (x == ("__debug__" : Str)) = false := by decide)
    (he : starEach (e :: es) X.env = (false, eval e X.env) :: starEach es X.env := by rfl) (hpl : (backTo pos (starEach es X.env)).any (·.1) = false := by rfl) :
    PE X (.Call (.Name x p) (e :: es) [] pos) (tCallS sp ES t) := by
  obtain ⟨f, fd, hm, hk, hb, F⟩ := D
  exact pe_callS F hr hg hm hk hb hx ha hdb he hpl
/-- a module's int -/
theorem pe_gInt {n : Int} (hg : Gl X x) (h : ∃ t, X.mg x = some (.int n t)) (hd : (x == ("__debug__" : Str)) = false := by decide) : PE X (.Name x pos) (tC (.int n)) := by
  obtain ⟨t, hm⟩ := h
  exact pe_glob hg hm ⟨t, rfl⟩ hd
theorem pe_gStr {n : Str} (hg : Gl X x) (h : ∃ t, X.mg x = some (.str n t)) (hd : (x == ("__debug__" : Str)) = false := by decide) : PE X (.Name x pos) (tC (.str n)) := by
  obtain ⟨t, hm⟩ := h
  exact pe_glob hg hm ⟨t, rfl⟩ hd
end
end L2
set_option maxHeartbeats 4000000
/-! Kinds of values, numbers; the defs is_number, is_integer, require_integer -/
namespace Lf
open PySem L2
/-- the built-in kind of a value -/
inductive Kd (H : Hp) : V → String → Prop
  | non : Kd H .non "NoneType"
  | bl (b : Bool) : Kd H (.bl b) "bool"
  | int (i : Int) : Kd H (.int i) "int"
  | str (x : Str) : Kd H (.str x) "str"
  | lst {a : Addr} {xs : List V} (e : H a = some (.lst xs)) : Kd H (.ref a) "list"
  | tup {a : Addr} {xs : List V} (e : H a = some (.tup xs)) : Kd H (.ref a) "tuple"
  | dic {a : Addr} {kvs : List (Key × V)} (e : H a = some (.dK kvs)) : Kd H (.ref a) "dict"
theorem Kd.ty {H : Hp} {v : V} {t : String} (K : PySem.W.Frag) (k : Kd H v t) : TyX K H v (.type t) := by
  cases k with
  | non => exact .base .non
  | bl b => exact .base (.bl b)
  | int i => exact .base (.int i)
  | str x => exact .base (.str x)
  | lst e => exact .base (.lst e)
  | tup e => exact .base (.tup e)
  | dic e => exact .base (.dK e)
theorem Kd.same {H H' : Hp} {v : V} {t : String} (s : Same H H') (k : Kd H v t) : Kd H' v t := by
  cases k with
  | non => exact .non
  | bl b => exact .bl b
  | int i => exact .int i
  | str x => exact .str x
  | lst e => exact .lst (s _ _ e)
  | tup e => exact .tup (s _ _ e)
  | dic e => exact .dic (s _ _ e)
def numV : V → Bool
  | .int _ => true
  | _ => false
def lim : Int := 1000000000000000000000000000000
def intV : V → Bool
  | .int i => decide (-lim < i) && decide (i < lim)
  | _ => false
theorem Kd.int_ {H : Hp} {v : V} {t : String} (k : Kd H v t) : kitB t "int" = some (numV v || t == "bool") := by
  cases k <;> (first | rfl | decide +kernel)
theorem Kd.bool_ {H : Hp} {v : V} {t : String} (k : Kd H v t) : kitB t "bool" = some (t == "bool") := by
  cases k <;> (first | rfl | decide +kernel)
theorem Kd.tuple_ {H : Hp} {v : V} {t : String} (k : Kd H v t) : kitB t "tuple" = some (t == "tuple") := by
  cases k <;> (first | rfl | decide +kernel)
theorem Kd.num_ {H : Hp} {v : V} {t : String} (k : Kd H v t) : (if (numV v || t == "bool") = true then (!(t == "bool")) else false) = numV v := by
  cases k <;> (first | rfl | decide +kernel)
theorem if_so {c : Bool} {A B : Prop} (hc : c = true) (h : A) : if c = true then A else B := by
  rw [if_pos hc]
  exact h
theorem if_no {c : Bool} {A B : Prop} (hc : c = false) (h : B) : if c = true then A else B := by
  rw [hc, if_neg Bool.false_ne_true]
  exact h
def spIsNumber : Sp := fun vs H Q _ => ∃ v t, vs = [v] ∧ Kd H v t ∧ Q (.bl (numV v)) H
def spIsInteger : Sp := fun vs H Q _ => ∃ v t, vs = [v] ∧ Kd H v t ∧ Q (.bl (intV v)) H
def spReqInt (CN : Addr) : Sp := fun vs H Q E => ∃ v t, vs = [v] ∧ Kd H v t ∧ (intV v = true → Q .non H) ∧
  (intV v = false → ∀ d, H d = none → E (.ref CN) (some d) (upd H d (.xd [("value", v)])))
/-- the builtins' names that are not bound by the text, the constants -/
structure NumT (K : PySem.W.Frag) (mg : Str → Option Value) : Prop where
  n_isinstance : mg "isinstance" = none
  n_int : mg "int" = none
  n_bool : mg "bool" = none
  g_LIMIT : ∃ t, mg "LIMIT" = some (.int lim t)
section
variable {P : Program} {w : World} {K : PySem.W.Frag} {mg : Str → Option Value} {base : Heap} {st : Stmt}
end
end Lf
set_option maxHeartbeats 4000000
/-! Methods and properties as one fact each; sizes of ints -/
namespace L2
open PySem PySem.Spec PyProof.Rows
/-- the method m of the class at C, by its text -/
def Dm (K : PySem.W.Frag) (C : Addr) (m qual : Str) (st : Stmt) : Prop := ∃ f fd, Fun K m qual st f fd ∧ Meth K C m f
/-- the property m of the class at C, by its getter's text -/
def Dp_ (K : PySem.W.Frag) (C : Addr) (m qual : Str) (st : Stmt) : Prop := ∃ p f fd, Fun K m qual st f fd ∧ PropOf K C m p f
def MethOk (P : Program) (w : World) (K : PySem.W.Frag) (mg : Str → Option Value) (base : Heap) (CX : CXT) (k : Nat) (C : Addr) (m : Str) (ps : List Str) (sp : Sp) : Prop :=
  ∃ f fd, Meth K C m f ∧ Binds K fd ps [] ∧ FnOk P w K mg base CX k f fd ps sp
def PropOk (P : Program) (w : World) (K : PySem.W.Frag) (mg : Str → Option Value) (base : Heap) (CX : CXT) (k : Nat) (C : Addr) (m : Str) (ps : List Str) (sp : Sp) : Prop :=
  ∃ p f fd, PropOf K C m p f ∧ Binds K fd ps [] ∧ FnOk P w K mg base CX k f fd ps sp
section
variable {P : Program} {w : World} {K : PySem.W.Frag} {mg : Str → Option Value} {base : Heap} {C : Addr} {x qual : Str} {st : Stmt} {N ps : List Str} {k : Nat} {sp : Sp}
theorem Dm.ok (D : Dm K C x qual st) (S : FnScope N ps (defScope st))
    (bd : ∀ (kV doc pm : Value) (an : Option Addr) (cdv ct : Value) (us : List Value), us.length = ps.length → bindArgs (PySem.W.fnOf x qual (defArgs st) (defBody st) (defScope st) .none kV doc pm an cdv ct) ⟨us, []⟩ = pure (ps.zip us))
    (len : ∀ vs H Q E, sp vs H Q E → vs.length = ps.length)
    (hbody : ∀ (f : Addr) (cdv : Value) (A : Around) (outer : List Env) (s : Shared) (H : Hp) (vs : List V) (Q : VK) (E : XK), Room k (A.deeper (envOfC qual (defScope st) s.heap.objs.size f cdv)) → sp vs H Q E →
      ∃ t, PSs (cxOf CX0 P w K mg base N qual (defScope st) f cdv A outer s H E).nox (defBody st) t ∧ t { nx := fun _ H' => Q .non H', rt := Q } (start N vs) H) : MethOk P w K mg base CX0 (k + 1) C x ps sp := by
  obtain ⟨f, fd, F, hm⟩ := D
  exact ⟨f, fd, hm, F.binds bd, F.ok S len (hbody f)⟩
theorem Dp_.ok (D : Dp_ K C x qual st) (S : FnScope N ps (defScope st))
    (bd : ∀ (kV doc pm : Value) (an : Option Addr) (cdv ct : Value) (us : List Value), us.length = ps.length → bindArgs (PySem.W.fnOf x qual (defArgs st) (defBody st) (defScope st) .none kV doc pm an cdv ct) ⟨us, []⟩ = pure (ps.zip us))
    (len : ∀ vs H Q E, sp vs H Q E → vs.length = ps.length)
    (hbody : ∀ (f : Addr) (cdv : Value) (A : Around) (outer : List Env) (s : Shared) (H : Hp) (vs : List V) (Q : VK) (E : XK), Room k (A.deeper (envOfC qual (defScope st) s.heap.objs.size f cdv)) → sp vs H Q E →
      ∃ t, PSs (cxOf CX0 P w K mg base N qual (defScope st) f cdv A outer s H E).nox (defBody st) t ∧ t { nx := fun _ H' => Q .non H', rt := Q } (start N vs) H) : PropOk P w K mg base CX0 (k + 1) C x ps sp := by
  obtain ⟨p, f, fd, F, hm⟩ := D
  exact ⟨p, f, fd, hm, F.binds bd, F.ok S len (hbody f)⟩
end
section
variable {X : Cx} {CX : CXT} {k : Nat} {C : Addr} {ps : List Str} {sp : Sp} {E : XK} {m : Str} {p pos apos : Pos} {o e : Expr} {es : List Expr} {ta : TE} {t : TA}
def tMethD (C : Addr) (m : Str) (sp : Sp) (E : XK) (ta : TE) (t : TA) : TE := fun σ H Q => ta σ H fun x H1 => ∃ a dx fs, x = .ref a ∧ H1 a = some (.ins C dx fs) ∧ fs.lookup m = none ∧ t σ H1 fun vs H2 => sp (x :: vs) H2 Q E
theorem meth_nil {ta : TE} {t : TA} {σ : St} {H : Hp} {Q : VK} (h : tMethD C m sp E ta t σ H Q) : tMeth C m sp [] E ta t σ H Q := by
  have e : tMethD C m sp E ta t = tMeth C m sp [] E ta t := by
    funext σ H Q
    unfold tMethD tMeth
    simp only [List.append_nil]
  rw [← e]
  exact h
theorem pe_methD {pl : Sem Bool} (he : PE X o ta) (c : Cls X.K C) (D : MethOk X.prog X.w X.K X.mg X.base CX k C m ps sp) (hr : Room k X.A) (hx : Passes CX X E) (ha : PA X (e :: es) t)
    (hst : starEach (e :: es) X.env = (false, eval e X.env) :: starEach es X.env := by rfl) (hpl : (backTo pos (starEach es X.env)).any (·.1) = false := by rfl)
    (ht : eval (.Call (.Attribute o m apos) (e :: es) [] pos) X.env = (do
      let ov ← eval o X.env
      standAt apos.atName
      let (f, first) ← holding [ov] (getMethod ov m pl)
      callWith pos f first (backTo pos (starEach (e :: es) X.env)) (backToKw pos (keywordEach [] X.env))) := by rfl) :
    PE X (.Call (.Attribute o m apos) (e :: es) [] pos) (tMethD C m sp E ta t) := by
  obtain ⟨f, fd, hm, hb, F⟩ := D
  exact ⟨fun pins s σ H Q I h => (pe_meth he c hm F hr hb .nil hx ha hst hpl ht).run pins s σ H Q I (meth_nil h)⟩
theorem pe_methD0 {pl : Sem Bool} (he : PE X o ta) (c : Cls X.K C) (D : MethOk X.prog X.w X.K X.mg X.base CX k C m ps sp) (hr : Room k X.A) (hx : Passes CX X E)
    (ht : eval (.Call (.Attribute o m apos) [] [] pos) X.env = (do
      let ov ← eval o X.env
      standAt apos.atName
      let (f, first) ← holding [ov] (getMethod ov m pl)
      callWith pos f first (backTo pos (starEach [] X.env)) (backToKw pos (keywordEach [] X.env))) := by rfl) :
    PE X (.Call (.Attribute o m apos) [] [] pos) (tMethD C m sp E ta tNil) := by
  obtain ⟨f, fd, hm, hb, F⟩ := D
  exact ⟨fun pins s σ H Q I h => (pe_meth0 he c hm F hr hb .nil hx ht).run pins s σ H Q I (meth_nil h)⟩
/-- e.f, a property -/
theorem pe_propD (he : PE X e ta) (c : Cls X.K C) (D : PropOk X.prog X.w X.K X.mg X.base CX k C m ps sp) (hr : Room (k + 1) X.A) (hx : Passes CX X.nox E)
    (hab : attributeBase e m X.env (eval e X.env) = eval e X.env := by rfl) : PE X (.Attribute e m pos) (tProp C sp [] E ta) := by
  obtain ⟨p, f, fd, hm, hb, F⟩ := D
  exact pe_prop he c hm F hr hb .nil hx hab
/-- // by any great divisor but 0 -/
def CDivV (_ j : Int) : Prop := j ≠ 0 ∧ j.natAbs.log2 < 9000
theorem op_fdivV : OpR X (binaryOp .FloorDiv) (rI CDivV fun i j => .int (i.fdiv j)) := opI fun _ _ _ _ _ _ _ hc q => floordiv_int hc.1 q (.inl (PyProof.noPylong_of_log2 hc.2))
end
end L2
namespace Lf
open PySem L2
/-! ### sizes -/
def Bd (n : Nat) (i : Int) : Prop := i.natAbs < 2 ^ n
theorem Bd.mono {n m : Nat} {i : Int} (h : Bd n i) (hm : n ≤ m) : Bd m i := Nat.lt_of_lt_of_le h (Nat.pow_le_pow_right (by decide) hm)
theorem Bd.add {n m : Nat} {i j : Int} (h : Bd n i) (h' : Bd n j) (hm : n + 1 ≤ m) : Bd m (i + j) := by
  refine Bd.mono (n := n + 1) ?_ hm
  unfold Bd at *
  have := Int.natAbs_add_le i j
  rw [Nat.pow_succ]
  omega
theorem Bd.neg {n : Nat} {i : Int} (h : Bd n i) : Bd n (-i) := by
  unfold Bd at *
  rw [Int.natAbs_neg]
  exact h
theorem Bd.sub {n m : Nat} {i j : Int} (h : Bd n i) (h' : Bd n j) (hm : n + 1 ≤ m) : Bd m (i - j) := by
  rw [Int.sub_eq_add_neg]
  exact Bd.add h h'.neg hm
theorem Bd.mul {n m k : Nat} {i j : Int} (h : Bd n i) (h' : Bd m j) (hk : n + m ≤ k) : Bd k (i * j) := Bd.mono (wide_lt h h') hk
theorem Bd.ok {n m : Nat} {i j : Int} (h : Bd n i) (h' : Bd m j) (h0 : 0 < n) (h1 : 0 < m) (hs : n + m ≤ 1000000) : CMulW i j := wide_mul h h' h0 h1 hs
theorem Bd.div {n : Nat} {i j : Int} (h : Bd n i) : Bd n (i / j) := Nat.lt_of_le_of_lt (Int.natAbs_ediv_le_natAbs i j) h
theorem Bd.dok {n : Nat} {i j : Int} (h : Bd n j) (hj : j ≠ 0) (h0 : 0 < n) (h9 : n ≤ 9000) : CDivV i j := ⟨hj, Nat.lt_of_lt_of_le (PySem.Flt.log2_lt_of h0 h) h9⟩
theorem Bd.dpos {n : Nat} {i j : Int} (h : Bd n j) (hj : 0 < j) (h0 : 0 < n) (h9 : n ≤ 9000) : CDivW i j := wide_div hj h h0 h9
theorem Bd.lit {n : Nat} {i : Int} (h : i.natAbs < 2 ^ n) : Bd n i := h
end Lf
set_option maxHeartbeats 4000000
/-! bool(x), x an instance whose class has a __bool__ of its own -/
namespace LfB
open PySem PySem.Spec PyProof.Rows
section
variable {prog : Program} {w : World} {A : Around} {E : Value → Shared → Prop} {s : Shared} {K : PySem.W.Frag} {x C D f : Addr} {ox od : Obj} {odd : Option Obj}
theorem truthy_own {Q : Bool → Shared → Prop} (X : K.In s.heap) (I : PySem.W.InstAt s.heap x ox C odd) (hs : PySem.W.findIn K (.ref C) "__bool__" = some (some (.ref f))) (hf : PySem.W.isFn K (.ref f) = true)
    (h : wpAny (model prog w) A (call (.ref f) [.ref x]) (fun r s₁ => ∃ b, r = Value.bool b ∧ Q b s₁) E s) : wpAny (model prog w) A (truthy (.ref x)) Q E s := by
  unfold truthy
  have key : wpAny (model prog w) A (callSpecial? (.ref x) (Str.ofString "__bool__")) (fun r s₁ => ∃ b, r = some (Value.bool b) ∧ Q b s₁) E s :=
    PySem.W.special_fn X I hs (beq_iff_eq.mp hf) (wpAny_mono h (fun r s' ⟨b, e, q⟩ => ⟨b, by rw [e], q⟩) fun _ _ y => y)
  first
    | refine wpAny_bind (wpAny_mono key (fun r s' hr => ?_) fun _ _ y => y)
    | refine wpAny_bind (wpAny_pure (wpAny_bind (wpAny_mono key (fun r s' hr => ?_) fun _ _ y => y)))
  obtain ⟨b, rfl, q⟩ := hr
  first
    | exact wpAny_pure q
    | exact wpAny_bind (wpAny_pure q)
theorem type_bool : isType (.type "bool") = pure true := rfl
theorem bool_own {Q : Value → Shared → Prop} (X : K.In s.heap) (I : PySem.W.InstAt s.heap x ox C odd) (hs : PySem.W.findIn K (.ref C) "__bool__" = some (some (.ref f))) (hf : PySem.W.isFn K (.ref f) = true)
    (h : wpAny (model prog w) A.in1.in1 (call (.ref f) [.ref x]) (fun r s₁ => ∃ b, r = Value.bool b ∧ Q r s₁) E s) : wpAny (model prog w) A (call (.type "bool") [.ref x]) Q E s := by
  refine callType_codes (T := "bool") (Bi := Builtin.«object.__init__») (Q₁ := fun r s₁ => ∃ b, r = Value.bool b ∧ Q r s₁) PySem.F.called_bool (PySem.F.typeCall_bool_1 _) PySem.F.entry_object_init ?_ ?_
  · refine codeAny_of_tree ?_
    show wpAny _ A.in1.in1 (do checkBuiltinCall "bool.__new__" ⟨[.type "bool", .ref x], []⟩; again (.builtin "bool.__new__" ⟨[.type "bool", .ref x], []⟩)) _ _ s
    refine wpAny_bind (wpAny_of_eq (PySem.F.newCall_bool_1 _) (wpAny_pure ⟨plainId_quiet (by decide +kernel) _, codeAny_builtin PySem.F.entry_bool_new ?_⟩))
    rw [Around.under_plainId (by decide +kernel) _]
    unfold Builtin.«bool.__new__»
    refine wpAny_bind (wpAny_of_eq (a := true) type_bool ?_)
    refine PySem.W.KFB.if_not rfl ?_
    refine wpAny_bind (wpAny_of_eq (a := true) PySem.F.conv_sub_bool ?_)
    refine PySem.W.KFB.if_not rfl ?_
    refine wpAny_bind (wpAny_of_eq (a := [.ref x]) rfl ?_)
    refine wpAny_bind (truthy_own X I hs hf (wpAny_mono h (fun r s₁ hr => ?_) fun _ _ y => y))
    obtain ⟨b, rfl, hq⟩ := hr
    refine ⟨b, rfl, ?_⟩
    exact wpAny_pure ⟨b, rfl, hq⟩
  · rintro obj s₁ ⟨b, rfl, hq⟩
    exact ⟨PySem.typeIs_bool _ _, PySem.F.args_object_init_2 _ _, object_init_meets PySem.F.called_bool.init.lookup PySem.F.called_bool.made (by decide) prog w A.in1 _ s₁ ⟨PySem.typeIs_bool _ _, rfl, hq⟩⟩
end
end LfB
namespace L2
open PySem PySem.Spec PyProof.Rows
section
variable {X : Cx} {CX : CXT} {pins : List (Addr × Obj)} {σ : St} {H : Hp} {s : Shared} {C : Addr} {ps : List Str} {m : Str} {n : Nat} {sp : Sp} {E : XK}
theorem run_fnAt {A : Around} {Q : VK} {g : Addr} {fd : FuncData} {us : List Value} {ws : List V} (F : FnOk X.prog X.w X.K X.mg X.base CX n g fd ps sp) (hb : Binds X.K fd ps []) (hr : Room n A) (e0 : Env0 X.prog X.w X.K X.mg X.base A X.stack s H) (hx : Passes CX X E) (I : Inv X pins σ H s) (r : Vals ws us) (h : sp ws H Q E) :
    codeAny (model X.prog X.w) A (.call (.ref g) ⟨us, []⟩) (fun r s' => match r with | .ok (.ret v) => EP X pins σ Q v s' | .ok _ => False | .error e => X.xe e s') s := by
  have hl : us.length = ps.length := by rw [← r.length]; exact F.len _ _ _ _ h
  have b := hb s us I.kIn (by rw [List.append_nil]; exact hl)
  rw [List.append_nil] at b
  refine codeAny_mono (F.run A X.stack s H ⟨us, []⟩ us ws Q E hr e0 b r h) fun r s' hq => ?_
  cases r with
  | error e => exact hx pins σ H s e s' I hq
  | ok fl =>
    cases fl with
    | ret u => exact I.after hq
    | next => exact False.elim hq
    | brk => exact False.elim hq
    | cont => exact False.elim hq
/-- bool(x) of an instance with an own __bool__ -/
def rBoolOwn (C : Addr) (sp : Sp) (E : XK) : List V → Hp → VK → Prop := fun xs H Q => ∃ a dx fs, xs = [V.ref a] ∧ H a = some (.ins C dx fs) ∧ sp [.ref a] H (fun z H' => ∃ b, z = .bl b ∧ Q z H') E
theorem call_boolOwn (D : MethOk X.prog X.w X.K X.mg X.base CX n C "__bool__" ps sp) (hr : Room (n + 2) X.A) (hx : Passes CX X E) : CallR X (.type "bool") (rBoolOwn C sp E) := by
  obtain ⟨f, fd, hm, hb, F⟩ := D
  intro pins s σ H xs us Q I r h
  obtain ⟨a, dx, fs, rfl, hsl, q⟩ := h
  obtain ⟨u, rfl, ru⟩ := r.one
  cases (show u = Value.ref a from ru)
  obtain ⟨mA, O, _⟩ := ins_get I.hok hsl
  obtain ⟨od, J, _⟩ := O.look
  have hr2 : Room n X.A.in1.in1 := (show Room (n + 1) X.A.in1 from Room.in1 hr).in1
  refine LfB.bool_own I.kIn J hm.at_ hm.fn (wpAny_mono (wpAny_call (run_fnAt (us := [.ref a]) (ws := [.ref a]) F hb hr2 I.env0.in1.in1 hx I (.cons rfl .nil) q)) (fun w s' z => ?_) fun _ _ x => x)
  obtain ⟨z', H', I', rz, b, eb, qz⟩ := z
  subst eb
  cases (show w = Value.bool b from rz)
  exact ⟨b, rfl, .bl b, H', I', rfl, qz⟩
end
end L2
set_option maxHeartbeats 4000000
/-! An instance's own __bool__ as a test, its own __contains__ -/
namespace L2
open PySem PySem.Spec PyProof.Rows
section
variable {X : Cx} {CX : CXT} {C : Addr} {ps : List Str} {n : Nat} {sp : Sp} {E : XK}
def rTruOwn (C : Addr) (sp : Sp) (E : XK) : V → Hp → (Bool → Hp → Prop) → Prop := fun x H Q => ∃ a dx fs, x = V.ref a ∧ H a = some (.ins C dx fs) ∧ sp [.ref a] H (fun z H' => ∃ b, z = .bl b ∧ Q b H') E
theorem tru_own (D : MethOk X.prog X.w X.K X.mg X.base CX n C "__bool__" ps sp) (hr : Room n X.A) (hx : Passes CX X E) : TruR X (rTruOwn C sp E) := by
  obtain ⟨f, fd, hm, hb, F⟩ := D
  intro pins s σ H x v Q I r h
  obtain ⟨a, dx, fs, rfl, hsl, q⟩ := h
  cases (show v = Value.ref a from r)
  obtain ⟨mA, O, _⟩ := ins_get I.hok hsl
  obtain ⟨od, J, _⟩ := O.look
  refine LfB.truthy_own I.kIn J hm.at_ hm.fn (wpAny_mono (wpAny_call (run_fnAt (us := [.ref a]) (ws := [.ref a]) F hb hr I.env0 hx I (.cons rfl .nil) q)) (fun w s' z => ?_) fun _ _ x => x)
  obtain ⟨z', H', I', rz, b, eb, qz⟩ := z
  subst eb
  cases (show w = Value.bool b from rz)
  exact ⟨b, rfl, H', I', qz⟩
def tNotR (r : V → Hp → (Bool → Hp → Prop) → Prop) (ta : TE) : TE := fun σ H Q => ta σ H fun x H1 => r x H1 fun k H2 => Q (.bl (!k)) H2
theorem pe_notR {a : Expr} {ta : TE} {pos : Pos} {r : V → Hp → (Bool → Hp → Prop) → Prop} (ha : PE X a ta) (hr : TruR X r) : PE X (.UnaryOp .Not a pos) (tNotR r ta) := by
  refine ⟨fun pins s σ H Q I h => ?_⟩
  refine UnaryOp_ (thn (ha.run pins s σ H _ I h) fun v s1 ⟨x, H1, I1, r1, q1⟩ => ?_)
  exact not_of (thn (hr pins s1 σ H1 x v (fun c H2 => Q (.bl (!c)) H2) I1 r1 q1) fun c s2 ⟨H2, I2, q2⟩ => ⟨.bl (!c), H2, I2, rfl, q2⟩)
/-- x in o, o an instance with a __contains__ of its own -/
def rInOwn (C : Addr) (sp : Sp) (E : XK) : R2 := fun x y H Q => ∃ a dx fs, y = V.ref a ∧ H a = some (.ins C dx fs) ∧ sp [.ref a, x] H (fun z H' => ∃ b, z = .bl b ∧ Q (.bl b) H') E
def rNiOwn (C : Addr) (sp : Sp) (E : XK) : R2 := fun x y H Q => ∃ a dx fs, y = V.ref a ∧ H a = some (.ins C dx fs) ∧ sp [.ref a, x] H (fun z H' => ∃ b, z = .bl b ∧ Q (.bl (!b)) H') E
theorem op_inOwn (D : MethOk X.prog X.w X.K X.mg X.base CX n C "__contains__" ps sp) (hr : Room n X.A) (hx : Passes CX X E) : OpR X (compareOp .In) (rInOwn C sp E) := by
  obtain ⟨f, fd, hm, hb, F⟩ := D
  intro pins s σ H x y v u Q I rx ry h
  obtain ⟨a, dx, fs, rfl, hsl, q⟩ := h
  cases (show u = Value.ref a from ry)
  obtain ⟨mA, O, _⟩ := ins_get I.hok hsl
  obtain ⟨od, J, _⟩ := O.look
  obtain ⟨mf, fr⟩ := I.fr
  refine PySem.W.in_K fr I.ok.mod.kin J hm.at_ hm.fn (wpAny_mono (wpAny_call (run_fnAt (us := [.ref a, v]) (ws := [.ref a, x]) F hb hr I.env0 hx I (.cons rfl (.cons rx .nil)) q)) (fun w s' z => ?_) fun _ _ x => x)
  obtain ⟨z', H', I', rz, b, eb, qz⟩ := z
  subst eb
  cases (show w = Value.bool b from rz)
  exact wpAny_pure ⟨.bl b, H', I', rfl, qz⟩
theorem op_notInOwn (D : MethOk X.prog X.w X.K X.mg X.base CX n C "__contains__" ps sp) (hr : Room n X.A) (hx : Passes CX X E) : OpR X (compareOp .NotIn) (rNiOwn C sp E) := by
  obtain ⟨f, fd, hm, hb, F⟩ := D
  intro pins s σ H x y v u Q I rx ry h
  obtain ⟨a, dx, fs, rfl, hsl, q⟩ := h
  cases (show u = Value.ref a from ry)
  obtain ⟨mA, O, _⟩ := ins_get I.hok hsl
  obtain ⟨od, J, _⟩ := O.look
  obtain ⟨mf, fr⟩ := I.fr
  refine PySem.W.notIn_K fr I.ok.mod.kin J hm.at_ hm.fn (wpAny_mono (wpAny_call (run_fnAt (us := [.ref a, v]) (ws := [.ref a, x]) F hb hr I.env0 hx I (.cons rfl (.cons rx .nil)) q)) (fun w s' z => ?_) fun _ _ x => x)
  obtain ⟨z', H', I', rz, b, eb, qz⟩ := z
  subst eb
  cases (show w = Value.bool b from rz)
  exact wpAny_pure ⟨.bl (!b), H', I', rfl, qz⟩
end
end L2
set_option maxHeartbeats 4000000
/-! x == y, two instances of a class with an own __eq__, any answer -/
namespace L2
open PySem PySem.Spec PyProof.Rows
section
variable {X : Cx} {CX : CXT} {C : Addr} {ps : List Str} {n : Nat} {sp : Sp} {E : XK}
def rEqOwn (C : Addr) (sp : Sp) (E : XK) : R2 := fun x y H Q => ∃ a b dx dy fs gs, x = V.ref a ∧ y = V.ref b ∧ H a = some (.ins C dx fs) ∧ H b = some (.ins C dy gs) ∧ sp [.ref a, .ref b] H (fun z H' => ∃ k, z = .bl k ∧ Q (.bl k) H') E
theorem op_eqOwn (D : MethOk X.prog X.w X.K X.mg X.base CX n C "__eq__" ps sp) (hr : Room n X.A) (hx : Passes CX X E) : OpR X (compareOp .Eq) (rEqOwn C sp E) := by
  obtain ⟨f, fd, hm, hb, F⟩ := D
  intro pins s σ H x y v u Q I rx ry h
  obtain ⟨a, b, dx, dy, fs, gs, rfl, rfl, ha, hb', q⟩ := h
  cases (show v = Value.ref a from rx)
  cases (show u = Value.ref b from ry)
  obtain ⟨mA, J, _⟩ := ins_get I.hok ha
  obtain ⟨mB, J', _⟩ := ins_get I.hok hb'
  obtain ⟨od, J, _⟩ := J.look
  obtain ⟨od', J', _⟩ := J'.look
  obtain ⟨m, hF⟩ := I.fr
  show wpAny (model X.prog X.w) X.A (richCompare .Eq (.ref a) (.ref b)) (EP X pins σ Q) X.xe s
  refine PySem.W.cmp_K (op := .Eq) (tb := .ref C) hr.units0 hF I.ok.mod.kin J J'.type (by simp [PySem.W.notFirst]) hm.at_ hm.fn (wpAny_mono (wpAny_call (run_fnAt (us := [.ref a, .ref b]) (ws := [.ref a, .ref b]) F hb hr I.env0 hx I (.cons rfl (.cons rfl .nil)) q)) (fun w s' z => ?_) fun _ _ x => x)
  obtain ⟨z', H', I', rz, k, ek, qz⟩ := z
  subst ek
  cases (show w = Value.bool k from rz)
  exact ⟨.bl k, H', I', rfl, qz⟩
end
end L2
set_option maxHeartbeats 4000000
/-! Texts of tuples: what a def promises where no repr is under way (A.guards = some []). fn_ofG and law_callG are the library's fn_of and law_call with that one more premise. -/
namespace L2
open PySem PySem.Spec PyProof.Rows
structure FnOkG (P : Program) (w : World) (K : PySem.W.Frag) (mg : Str → Option Value) (base : Heap) (CX : CXT) (k : Nat) (f : Addr) (fd : FuncData) (ps : List Str) (sp : Sp) : Prop where
  len : ∀ vs H Q E, sp vs H Q E → vs.length = ps.length
  run : ∀ (A : Around) (outer : List Env) (s : Shared) (H : Hp) (args : Args) (us : List Value) (vs : List V) (Q : VK) (E : XK), A.guards = some [] → Room k A → Env0 P w K mg base A outer s H → BindsTo s fd args (ps.zip us) → Vals vs us → sp vs H Q E →
    codeAny (model P w) A (.call (.ref f) args) (CR CX outer P w H s Q E) s
theorem deeper_guards {A : Around} {env : Env} (h : A.guards = some []) : (A.deeper env).guards = some [] := h
theorem fn_ofG {CX : CXT} {P : Program} {w : World} {K : PySem.W.Frag} {mg : Str → Option Value} {base : Heap} {k : Nat} {f : Addr} {name qual : Str} {params : Arguments} {body : List Stmt} {scope : Scope} {dV kV doc pm cdv ct oc : Value} {an od : Option Addr}
    {osl : Array (Option Value)} {N ps : List Str} {sp : Sp} (lk : K.lookup f = some ⟨oc, od, .func (PySem.W.fnOf name qual params body scope dV kV doc pm an cdv ct), osl⟩) (hcd : PySem.W.codeIn K cdv qual = true) (S : FnScope N ps scope)
    (len : ∀ vs H Q E, sp vs H Q E → vs.length = ps.length)
    (hbody : ∀ (A : Around) (outer : List Env) (s : Shared) (H : Hp) (vs : List V) (Q : VK) (E : XK), (A.deeper (envOfC qual scope s.heap.objs.size f cdv)).guards = some [] → Room k (A.deeper (envOfC qual scope s.heap.objs.size f cdv)) → sp vs H Q E →
      ∃ t, PSs (cxOf CX P w K mg base N qual scope f cdv A outer s H E) body t ∧ t { nx := fun _ H' => Q .non H', rt := Q } (start N vs) H) :
    FnOkG P w K mg base CX (k + 1) f (PySem.W.fnOf name qual params body scope dV kV doc pm an cdv ct) ps sp := by
  refine ⟨len, fun A outer s H args us vs Q E hg hr e0 hb r hsp => ?_⟩
  have hl := len _ _ _ _ hsp
  have KX : K.In s.heap := e0.mod.kin.keeps fun b o e => (e0.bs b o e).1
  have lim : s.heap.NoLimit := e0.mod.nolimit.keeps fun b o e => (e0.bs b o e).1
  have hkind : ∀ y ∈ ps.zip us, scope.names.lookup y.1 = some .local ∨ (scope.names.lookup y.1 = some .cell ∧ ((cellsFrom (s.heap.objs.size + 1) scope.names []).lookup y.1).isSome = true) := fun ⟨n, v⟩ hy => by
    rcases S.par n (List.of_mem_zip hy).1 with q | q
    · exact .inl q
    · exact .inr ⟨q, PySem.W.cellsFrom_some _ _ _ (.inl q)⟩
  refine codeAny_call_function hr.depth (KX _ _ lk) rfl S.co S.gen rfl (PySem.W.codeRec_of KX hcd) (hb _ _ _ _ ?_)
  refine wpAny_newFunctionEnv_cells S.kind hkind fun env he s1 x => ?_
  subst he
  refine ⟨lim.keeps x.toInCall.keep, codeAny_func ?_⟩
  obtain ⟨t, ht, hq⟩ := hbody A outer s H vs Q E hg (hr.deeper _) hsp
  have I : Inv (cxOf CX P w K mg base N qual scope f cdv A outer s H E) [] (start N vs) H s1 := inv_start S hr.hd e0 hl r x
  refine wpAny_mono (ht.run [] s1 (start N vs) H _ I hq) (fun fl s' hs => ?_) fun e s' hs => hs
  have fin : ∀ {σ' : St} {H' : Hp} {v : V} {u : Value}, Inv (cxOf CX P w K mg base N qual scope f cdv A outer s H E) [] σ' H' s' → RelV v u → Q v H' → CE outer P w H s Q u s' :=
    fun {σ' H' v u} J rv q => ⟨v, H', J.os, J.bare, J.base, J.hok, rv, q⟩
  cases fl with
  | ret u =>
    obtain ⟨v, σ', H', J, rv, q⟩ := hs
    exact fin J rv q
  | next =>
    obtain ⟨σ', H', J, q⟩ := hs
    exact fin (v := V.non) (u := Value.none) J rfl q
  | brk =>
    obtain ⟨_, _, _, q⟩ := hs
    exact False.elim q
  | cont =>
    obtain ⟨_, _, _, q⟩ := hs
    exact False.elim q
theorem law_callG {P : Program} {w : World} {K : PySem.W.Frag} {mg mb : Str → Option Value} {CX : CXT} {k : Nat} {fa a : Addr} {fd : FuncData} {x : Str} {sp : Sp} {s₁ : Shared} {vs : List Value} {ns : List Int}
    (KX : K.In s₁.heap) (hns : s₁.heap.Ns mainGlobals mg) (hb : s₁.heap.Ns builtinsNs mb) (hbb : ∀ x : Str, x ≠ "__name__" → mb x = bootBuiltins x) (hlim : s₁.heap.NoLimit) (hg : s₁.gens = #[])
    (ha : s₁.heap.get? a = some { cls := .type "list", data := .seq vs.toArray }) (hi : IntsAre vs ns) (hl : ns.length ≤ sizeLine) (hr : Room k callerA)
    (F : ∀ base : Heap, K.In base → base.Ns mainGlobals mg → FnOkG P w K mg base CX k fa fd [x] sp) (hbind : ∀ (s : Shared) (u : Value), BindsTo s fd ⟨[u], []⟩ [(x, u)])
    (hsp : ∀ H : Hp, Only H → SqL K H a (ns.map V.int) → sp [.ref a] H (fun v _ => v = .bl true) fun _ _ _ => False)
    (hCX : ∀ H e s', CX [] H s₁ (fun _ _ _ => False) e s' → False) :
    codeAny (model P w) callerA (.call (.ref fa) ⟨[.ref a], []⟩) (fun r s' => r = .ok (.ret (.bool true)) ∧ OldK s₁.heap s'.heap ∧ s'.os = s₁.os ∧ AllBare s'.gens) s₁ := by
  have rv := vals_ints hi
  have lenV := hi.length
  -- from an abstract heap in which nothing but the script may be tracked
  have core : ∀ H : Hp, Only H → SqL K H a (ns.map V.int) → HOk P w H s₁.heap → (∀ b, H b ≠ none → b = a) → (H a ≠ none → K.lookup a = none) →
      codeAny (model P w) callerA (.call (.ref fa) ⟨[.ref a], []⟩) (fun r s' => r = .ok (.ret (.bool true)) ∧ OldK s₁.heap s'.heap ∧ s'.os = s₁.os ∧ AllBare s'.gens) s₁ := by
    intro H hO hS hok hA hK
    have base_of : ∀ {b : Addr} {o : Obj}, s₁.heap.get? b = some o → H b = none → (hidT s₁.heap H).get? b = some o := fun e n => hidT_get e n
    have noA : ∀ {b : Addr} {o : Obj} {es : Array DictEntry} {ep : Nat}, s₁.heap.get? b = some o → o.data = .dict es ep → H b = none := fun {b o es ep} e d => by
      cases q : H b with
      | none => rfl
      | some u =>
        have e' : b = a := hA b (by rw [q]; simp)
        subst e'
        rw [ha] at e; cases e
        have d' : Data.seq vs.toArray _ = Data.dict es ep := d
        cases d'
    have nsK : ∀ {b : Addr} {m : Str → Option Value}, s₁.heap.Ns b m → (hidT s₁.heap H).Ns b m := fun {b m} ⟨o, es, ep, e, d, r⟩ => ⟨o, es, ep, base_of e (noA e d), d, r⟩
    have hKb : K.In (hidT s₁.heap H) := fun b o e => base_of (KX b o e) (by
      cases q : H b with
      | none => rfl
      | some u =>
        have e' : b = a := hA b (by rw [q]; simp)
        subst e'
        rw [hK (by rw [q]; simp)] at e; cases e)
    have hM : Mod K mg (hidT s₁.heap H) := ⟨hKb, nsK hns, ⟨mb, nsK hb, hbb⟩, let ⟨mc, h1, h2⟩ := hlim; ⟨mc, nsK h1, h2⟩⟩
    have e0 : Env0 P w K mg (hidT s₁.heap H) callerA [] s₁ H := ⟨rfl, hM, fun b o e => of_hidT e, Nat.le_of_eq (hidT_size _ _), trivial, fun b hb => absurd (show b ∈ ([] : List Addr) from hb) (by simp), hok, .of_eq hg⟩
    refine codeAny_mono ((F _ hKb (nsK hns)).run callerA [] s₁ H ⟨[.ref a], []⟩ [.ref a] [.ref a] _ _ rfl hr e0 (hbind s₁ (.ref a)) (.cons rfl .nil) (hsp H hO hS)) fun r s' h => ?_
    cases r with
    | error e => exact (hCX H e s' h).elim
    | ok fl =>
      cases fl with
      | next => exact False.elim h
      | brk => exact False.elim h
      | cont => exact False.elim h
      | ret u =>
        obtain ⟨v, H', os, bare, un, hok', r', q⟩ := h
        have q' : v = .bl true := q
        subst q'
        obtain rfl : u = Value.bool true := r'
        refine ⟨rfl, OldK.of_keep fun b o e => ?_, os, bare⟩
        cases q : H b with
        | none => exact un.keep b o e q (by intro z; exact absurd (show b ∈ ([] : List Addr) from z) (by simp)) (by simp)
        | some u =>
          rcases hO b with z | ⟨ob, xs, z⟩
          · rw [q] at z; cases z
          · have z2 := un.frzs b ob _ z
            obtain ⟨e1, _⟩ := hok b _ z
            obtain ⟨e2, _⟩ := hok' b _ z2
            rw [e] at e1; cases e1
            exact e2
  cases hk : K.lookup a with
  | some o =>
    -- the script is one of the module's own objects
    have e := KX a o hk
    rw [ha] at e
    cases e
    refine core (fun _ => none) (fun _ => .inl rfl) (.inr ⟨_, vs.toArray, _, hk, rfl, rfl, rfl, by rw [List.size_toArray, lenV]; exact hl, by simpa using rv⟩) (fun b u z => by have z' : (none : Option HO) = some u := z; cases z') (fun b z => absurd rfl z) fun z => absurd rfl z
  | none =>
    refine core (fun b => if b = a then some (.frz { cls := .type "list", data := .seq vs.toArray } (.lst (ns.map V.int))) else none) (fun b => ?_) (.inl (.inr ⟨{ cls := .type "list", data := .seq vs.toArray }, if_pos rfl⟩)) (fun b u z => ?_) (fun b z => ?_) fun _ => hk
    · by_cases hb : b = a
      · exact .inr ⟨_, _, if_pos hb⟩
      · exact .inl (if_neg hb)
    · by_cases hb : b = a
      · have z' := (if_pos hb).symm.trans z
        cases z'
        subst hb
        exact ⟨ha, by rw [List.length_map]; exact hl, vs, _, rv, ha⟩
      · have z' := (if_neg hb).symm.trans z
        cases z'
    · by_cases hb : b = a
      · exact hb
      · exact absurd (if_neg hb) z
theorem walk_ofKG {l : PySem.W.OpenLaw} {n k : Nat} {q : Program} {loose : List Str} {XP : (Str → Option Value) → Heap → Prop} {YP : World → Heap → Prop} {d : DefRec} {K : Params → PySem.W.Frag} {CX : CXT} {sp : PySem.W.Frag → Sp} {x : Str}
    (hn : l.most = some n) (hn2 : n ≤ sizeLine) (hdf : d.params.defaults = []) (hr : Room k callerA)
    (hY : ∀ (w : World) (h : Heap), YP w h → (K w.params).In h)
    (F : ∀ (w : World) (mg : Str → Option Value) (fa : Addr) (h : Heap), (K w.params).In h → h.Ns mainGlobals mg → mg d.name = some (.ref fa) →
      ∃ fd : FuncData, (∀ (s : Shared) (u : Value), BindsTo s fd ⟨[u], []⟩ [(x, u)]) ∧
        ∀ base : Heap, (K w.params).In base → base.Ns mainGlobals mg → FnOkG l.prog w (K w.params) mg base CX k fa fd [x] (sp (K w.params)))
    (hsp : ∀ (K : PySem.W.Frag) (H : Hp) (a : Addr) (ns : List Int), ns.length ≤ n → Only H → SqL K H a (ns.map V.int) → sp K [.ref a] H (fun v _ => v = .bl true) fun _ _ _ => False)
    (hCX : ∀ (H : Hp) (s : Shared) (e : Value) (s' : Shared), CX [] H s (fun _ _ _ => False) e s' → False) :
    PySem.W.WalkO q loose XP YP l.row.toRowW d [] (fun f vs => PySem.call f vs) := by
  refine Att.attach_call hn hdf fun w s₀ s₁ mg mb fa o pm cd doc a vs ns G Y ho hd hcd hmg hobj hints hlen hg => ?_
  have KX := hY w _ Y
  obtain ⟨fd, hb, hF⟩ := F w mg fa _ KX G.T.g hmg
  exact law_callG KX G.T.g G.T.b G.T.builtins G.T.nolimit hg hobj hints (Nat.le_trans hlen hn2) hr hF hb (fun H hO hS => hsp (K w.params) H a ns hlen hO hS) fun H e s' => hCX H s₁ e s'
def DefOkG (P : Program) (w : World) (K : PySem.W.Frag) (mg : Str → Option Value) (base : Heap) (CX : CXT) (k : Nat) (x : Str) (ps : List Str) (sp : Sp) : Prop :=
  ∃ f fd, mg x = some (.ref f) ∧ PySem.W.keepIn K (.ref f) = true ∧ Binds K fd ps [] ∧ FnOkG P w K mg base CX k f fd ps sp
def MethOkG (P : Program) (w : World) (K : PySem.W.Frag) (mg : Str → Option Value) (base : Heap) (CX : CXT) (k : Nat) (C : Addr) (m : Str) (ps : List Str) (sp : Sp) : Prop :=
  ∃ f fd, Meth K C m f ∧ Binds K fd ps [] ∧ FnOkG P w K mg base CX k f fd ps sp
section
variable {P : Program} {w : World} {K : PySem.W.Frag} {mg : Str → Option Value} {base : Heap}
theorem Fun.okG {x qual : Str} {st : Stmt} {f : Addr} {fd : FuncData} {N ps : List Str} {k : Nat} {sp : Sp} (F : Fun K x qual st f fd) (S : FnScope N ps (defScope st)) (len : ∀ vs H Q E, sp vs H Q E → vs.length = ps.length)
    (hbody : ∀ (cdv : Value) (A : Around) (outer : List Env) (s : Shared) (H : Hp) (vs : List V) (Q : VK) (E : XK), (A.deeper (envOfC qual (defScope st) s.heap.objs.size f cdv)).guards = some [] → Room k (A.deeper (envOfC qual (defScope st) s.heap.objs.size f cdv)) → sp vs H Q E →
      ∃ t, PSs (cxOf CX0 P w K mg base N qual (defScope st) f cdv A outer s H E).nox (defBody st) t ∧ t { nx := fun _ H' => Q .non H', rt := Q } (start N vs) H) : FnOkG P w K mg base CX0 (k + 1) f fd ps sp := by
  obtain ⟨oc, od, kV, doc, pm, an, cdv, ct, osl, rfl, lk, hcd⟩ := F.ex
  refine fn_ofG lk hcd S len fun A outer s H vs Q E hg hr hsp => ?_
  obtain ⟨t, h, q⟩ := hbody cdv A outer s H vs Q E hg hr hsp
  exact ⟨t, h.nox, q⟩
theorem Df.okG {x : Str} {st : Stmt} {N ps : List Str} {k : Nat} {sp : Sp} (D : Df K mg x st) (S : FnScope N ps (defScope st))
    (bd : ∀ (kV doc pm : Value) (an : Option Addr) (cdv ct : Value) (us : List Value), us.length = ps.length → bindArgs (PySem.W.fnOf x x (defArgs st) (defBody st) (defScope st) .none kV doc pm an cdv ct) ⟨us, []⟩ = pure (ps.zip us))
    (len : ∀ vs H Q E, sp vs H Q E → vs.length = ps.length)
    (hbody : ∀ (f : Addr) (cdv : Value) (A : Around) (outer : List Env) (s : Shared) (H : Hp) (vs : List V) (Q : VK) (E : XK), (A.deeper (envOfC x (defScope st) s.heap.objs.size f cdv)).guards = some [] → Room k (A.deeper (envOfC x (defScope st) s.heap.objs.size f cdv)) → sp vs H Q E →
      ∃ t, PSs (cxOf CX0 P w K mg base N x (defScope st) f cdv A outer s H E).nox (defBody st) t ∧ t { nx := fun _ H' => Q .non H', rt := Q } (start N vs) H) : DefOkG P w K mg base CX0 (k + 1) x ps sp := by
  obtain ⟨f, fd, F, hm⟩ := D
  exact ⟨f, fd, hm, F.kp, F.binds bd, F.okG S len (hbody f)⟩
theorem Dm.okG {C : Addr} {x qual : Str} {st : Stmt} {N ps : List Str} {k : Nat} {sp : Sp} (D : Dm K C x qual st) (S : FnScope N ps (defScope st))
    (bd : ∀ (kV doc pm : Value) (an : Option Addr) (cdv ct : Value) (us : List Value), us.length = ps.length → bindArgs (PySem.W.fnOf x qual (defArgs st) (defBody st) (defScope st) .none kV doc pm an cdv ct) ⟨us, []⟩ = pure (ps.zip us))
    (len : ∀ vs H Q E, sp vs H Q E → vs.length = ps.length)
    (hbody : ∀ (f : Addr) (cdv : Value) (A : Around) (outer : List Env) (s : Shared) (H : Hp) (vs : List V) (Q : VK) (E : XK), (A.deeper (envOfC qual (defScope st) s.heap.objs.size f cdv)).guards = some [] → Room k (A.deeper (envOfC qual (defScope st) s.heap.objs.size f cdv)) → sp vs H Q E →
      ∃ t, PSs (cxOf CX0 P w K mg base N qual (defScope st) f cdv A outer s H E).nox (defBody st) t ∧ t { nx := fun _ H' => Q .non H', rt := Q } (start N vs) H) : MethOkG P w K mg base CX0 (k + 1) C x ps sp := by
  obtain ⟨f, fd, F, hm⟩ := D
  exact ⟨f, fd, hm, F.binds bd, F.okG S len (hbody f)⟩
end
section
variable {X : Cx} {CX : CXT} {pins : List (Addr × Obj)} {σ : St} {H : Hp} {s : Shared} {C : Addr} {ps : List Str} {m x : Str} {n k : Nat} {sp : Sp} {E : XK} {p pos : Pos} {e : Expr} {es : List Expr} {t : TA} {te : TE}
theorem run_fnAtG {A : Around} {Q : VK} {g : Addr} {fd : FuncData} {us : List Value} {ws : List V} (F : FnOkG X.prog X.w X.K X.mg X.base CX n g fd ps sp) (hb : Binds X.K fd ps []) (hg : A.guards = some []) (hr : Room n A) (e0 : Env0 X.prog X.w X.K X.mg X.base A X.stack s H) (hx : Passes CX X E) (I : Inv X pins σ H s) (r : Vals ws us) (h : sp ws H Q E) :
    codeAny (model X.prog X.w) A (.call (.ref g) ⟨us, []⟩) (fun r s' => match r with | .ok (.ret v) => EP X pins σ Q v s' | .ok _ => False | .error e => X.xe e s') s := by
  have hl : us.length = ps.length := by rw [← r.length]; exact F.len _ _ _ _ h
  have b := hb s us I.kIn (by rw [List.append_nil]; exact hl)
  rw [List.append_nil] at b
  refine codeAny_mono (F.run A X.stack s H ⟨us, []⟩ us ws Q E hg hr e0 b r h) fun r s' hq => ?_
  cases r with
  | error e => exact hx pins σ H s e s' I hq
  | ok fl =>
    cases fl with
    | ret u => exact I.after hq
    | next => exact False.elim hq
    | brk => exact False.elim hq
    | cont => exact False.elim hq
theorem pe_callDG (D : DefOkG X.prog X.w X.K X.mg X.base CX k x ps sp) (hgd : X.A.guards = some []) (hr : Room k X.A) (hx : Passes CX X E) (ha : PA X (e :: es) t) (hg : Gl X x := by rfl) (hdb : (x == ("__debug__" : Str)) = false := by decide)
    (he : starEach (e :: es) X.env = (false, eval e X.env) :: starEach es X.env := by rfl) (hpl : (backTo pos (starEach es X.env)).any (·.1) = false := by rfl) :
    PE X (.Call (.Name x p) (e :: es) [] pos) (tCallD sp E t) := by
  obtain ⟨f, fd, hm, hk, hb, F⟩ := D
  refine ⟨fun pins s σ H Q I h => ?_⟩
  refine wpAny_Call_Name_kw (ld_glob I hg hm ?_ hdb)
  refine PySem.W.callWith_K (h₀ := X.base) I.ok.mod.kin hk (thn (ha.run pos pins s σ H _ I h) fun us s1 ⟨vs, H1, I1, r, q⟩ => ⟨I1.kIn, ?_⟩) he hpl
  exact wpAny_call (run_fnAtG F hb hgd hr I1.env0 hx I1 r q)
/-- str(x) of an instance with an own __str__ -/
def rStrOwn (C : Addr) (sp : Sp) (E : XK) : List V → Hp → VK → Prop := fun xs H Q => ∃ a dx fs, xs = [V.ref a] ∧ H a = some (.ins C dx fs) ∧ sp [.ref a] H (fun z H' => ∃ b, z = .str b ∧ Q z H') E
theorem call_strOwn (D : MethOkG X.prog X.w X.K X.mg X.base CX n C "__str__" ps sp) (hgd : X.A.guards = some []) (hr : Room (n + 2) X.A) (hx : Passes CX X E) : CallR X (.type "str") (rStrOwn C sp E) := by
  obtain ⟨f, fd, hm, hb, F⟩ := D
  intro pins s σ H xs us Q I r h
  obtain ⟨a, dx, fs, rfl, hsl, q⟩ := h
  obtain ⟨u, rfl, ru⟩ := r.one
  cases (show u = Value.ref a from ru)
  obtain ⟨mA, O, _⟩ := ins_get I.hok hsl
  obtain ⟨od, J, _⟩ := O.look
  have hr2 : Room n X.A.in1.in1 := (show Room (n + 1) X.A.in1 from Room.in1 hr).in1
  have hu : X.A.in1.in1.units < cLine := by have := hr2.un; omega
  refine PySem.W.kso_call hu I.kIn J hm.at_ hm.fn (wpAny_mono (wpAny_call (run_fnAtG (us := [.ref a]) (ws := [.ref a]) F hb hgd hr2 I.env0.in1.in1 hx I (.cons rfl .nil) q)) (fun w s' z => ?_) fun _ _ x => x)
  obtain ⟨z', H', I', rz, b, eb, qz⟩ := z
  subst eb
  obtain ⟨tk, rfl⟩ := (show ∃ tk, w = Value.str b tk from rz)
  exact ⟨.str b, H', I', ⟨tk, rfl⟩, qz⟩
/-- str(t), t read as data -/
def rStrD (K : PySem.W.Frag) : List V → Hp → VK → Prop := fun xs H Q => ∃ (a : Addr) (d : PyData), xs = [V.ref a] ∧ Dp K H (.ref a) d ∧ d.showable = true ∧ d.hasDict = false ∧ d.depth ≤ 32 ∧ d.shown.length ≤ sizeLine ∧ Q (.str d.shown) H
theorem call_strD (hgd : X.A.guards = some []) (hr : Room n X.A) : CallR X (.type "str") (rStrD X.K) := by
  intro pins s σ H xs us Q I r h
  obtain ⟨a, d, rfl, hd, h1, h2, h3, h4, q⟩ := h
  obtain ⟨u, rfl, ru⟩ := r.one
  cases (show u = Value.ref a from ru)
  obtain ⟨as, rd⟩ := Dp.reads I d _ _ hd rfl
  have hu := hr.units
  exact str_of_reads rd h1 (fun z => by rw [h2] at z; cases z) hgd (by omega) (fun b o e => e) (fun h' u tk hk => ⟨.str d.shown, H, I.kept hk, ⟨u, rfl⟩, q⟩) h4
/-- {t} in an f-string, t read as data -/
def tFmtD (K : PySem.W.Frag) (te : TE) : TE := fun σ H Q => te σ H fun x H1 => ∃ (a : Addr) (d : PyData), x = .ref a ∧ Dp K H1 (.ref a) d ∧ d.showable = true ∧ d.hasDict = false ∧ d.depth ≤ 32 ∧ d.shown.length ≤ sizeLine ∧ Q (.str d.shown) H1
theorem pe_fmtD (hgd : X.A.guards = some []) (hr : Room n X.A) (he : PE X e te) : PE X (.FormattedValue e (-1) none pos) (tFmtD X.K te) := by
  refine ⟨fun pins s σ H Q I h => ?_⟩
  refine wpAny_FormattedValue_plain (thn (he.run pins s σ H _ I h) fun v s1 hv => ?_)
  obtain ⟨x, H1, I1, r1, a, d, rfl, hd, h1, h2, h3, h4, q⟩ := hv
  cases r1
  obtain ⟨as, rd⟩ := Dp.reads I1 d _ _ hd rfl
  have hu := hr.units
  exact formatField_of_reads rd h1 (fun z => by rw [h2] at z; cases z) hgd (by omega) (fun b o e => e) (fun h' u tk hk => ⟨.str d.shown, H1, I1.kept hk, ⟨u, rfl⟩, q⟩) h4
end
end L2
set_option maxHeartbeats 4000000
/-! The end of a law with one table of code objects (a def with lambdas), where no repr is under way. law_callT1 follows the library's law_callTs, for one table and with the premise of LfGuard. -/
namespace LfT
open PySem PySem.Spec PyProof.Rows L2 LamX
/-- what may be tracked at the law's own call: the script and the table -/
def H0 (a T : Addr) (o : Obj) (xs : List V) : Hp := fun b => if b = T then some (.tbl #[]) else if b = a then some (.frz o (.lst xs)) else none
section
variable {P : Program} {w : World} {K : PySem.W.Frag} {mg mb : Str → Option Value} {CX : CXT} {k : Nat} {fa a c T : Addr} {fd : FuncData} {x : Str} {sp : Sp} {s₁ : Shared} {vs : List Value} {ns : List Int}
theorem law_core {H : Hp} (KX : K.In s₁.heap) (hns : s₁.heap.Ns mainGlobals mg) (hb : s₁.heap.Ns builtinsNs mb) (hbb : ∀ x : Str, x ≠ "__name__" → mb x = bootBuiltins x) (hlim : s₁.heap.NoLimit) (hg : s₁.gens = #[])
    (hT : s₁.heap.get? T = some { cls := .none, data := .fields #[] }) (nT : K.lookup T = none) (C : PySem.W.CodeHd s₁.heap c T)
    (hbm : ∃ (bm : Addr) (ob : Obj), mg "__builtins__" = some (.ref bm) ∧ bm ≠ builtinsNs ∧ s₁.heap.get? bm = some ob ∧ ob.cls = .type "module" ∧ ob.dict = some builtinsNs ∧ ob.data = .plain)
    (ha : s₁.heap.get? a = some { cls := .type "list", data := .seq vs.toArray }) (hr : Room k callerA)
    (F : ∀ base : Heap, K.In base → base.Ns mainGlobals mg → TabB base mg c T → FnOkG P w K mg base CX k fa fd [x] sp) (hbind : ∀ (s : Shared) (u : Value), BindsTo s fd ⟨[u], []⟩ [(x, u)])
    (hsp : sp [.ref a] H (fun v _ => v = .bl true) fun _ _ _ => False) (hCX : ∀ H e s', CX [] H s₁ (fun _ _ _ => False) e s' → False)
    (hH : H T = some (.tbl #[])) (hO : ∀ b u, H b = some u → b = T ∨ (b = a ∧ K.lookup a = none ∧ ∃ o xs, u = .frz o (.lst xs))) (hok : HOk P w H s₁.heap) :
    codeAny (model P w) callerA (.call (.ref fa) ⟨[.ref a], []⟩) (fun r s' => r = .ok (.ret (.bool true)) ∧ OldK s₁.heap s'.heap ∧ s'.os = s₁.os ∧ AllBare s'.gens) s₁ := by
  have free : ∀ {b : Addr} {o : Obj}, s₁.heap.get? b = some o → (∀ us n, o.data ≠ .seq us n) → o.data ≠ .fields #[] → H b = none := fun {b o} e n1 n2 => by
    cases q : H b with
    | none => rfl
    | some u =>
      rcases hO b u q with z | ⟨z, _⟩
      · rw [z, hT] at e; cases e; exact (n2 rfl).elim
      · rw [z, ha] at e; cases e; exact (n1 _ _ rfl).elim
  have put : ∀ {b : Addr} {o : Obj}, s₁.heap.get? b = some o → H b = none → (hidT s₁.heap H).get? b = some o := fun e n => hidT_get e n
  have nsK : ∀ {b : Addr} {m : Str → Option Value}, s₁.heap.Ns b m → (hidT s₁.heap H).Ns b m := fun {b m} ⟨o, es, ep, e, d, r⟩ =>
    ⟨o, es, ep, put e (free e (fun us n z => by rw [d] at z; cases z) fun z => by rw [d] at z; cases z), d, r⟩
  have inB : K.In (hidT s₁.heap H) := fun b o e => put (KX b o e) (by
    cases q : H b with
    | none => rfl
    | some u =>
      rcases hO b u q with z | ⟨z, z2, _⟩
      · rw [z, nT] at e; cases e
      · rw [z, z2] at e; cases e)
  have TB : TabB (hidT s₁.heap H) mg c T := by
    refine ⟨?_, ?_, fun z => ?_⟩
    · obtain ⟨o, us, f, tf, fl, tg, inF, tx, tt, e1, r1, r2, r3, r4⟩ := C
      exact ⟨o, us, f, tf, fl, tg, inF, tx, tt, put e1 (free e1 (fun us n z => by rw [r2] at z; cases z) fun z => by rw [r2] at z; cases z; simp at r3), r1, r2, r3, r4⟩
    · obtain ⟨bm, ob, b1, b2, b3, b4, b5, b6⟩ := hbm
      refine ⟨bm, ob, b1, b2, fun q => ?_, fun q => ?_, put b3 (free b3 (fun us n z => by rw [b6] at z; cases z) fun z => by rw [b6] at z; cases z), b4, b5, b6⟩
      · obtain ⟨o, es, ep, e, hd, _⟩ := hns
        rw [q, e] at b3; cases b3; rw [hd] at b6; cases b6
      · rw [q, hT] at b3; cases b3; cases b6
    · obtain ⟨o, es, ep, e, hd, _⟩ := hns
      rw [z, hT] at e; cases e; cases hd
  have md : L2.Mod K mg (hidT s₁.heap H) := ⟨inB, nsK hns, ⟨mb, nsK hb, hbb⟩, let ⟨mc, h1, h2⟩ := hlim; ⟨mc, nsK h1, h2⟩⟩
  have e0 : Env0 P w K mg (hidT s₁.heap H) callerA [] s₁ H := ⟨rfl, md, fun b o e => of_hidT e, Nat.le_of_eq (hidT_size _ _), trivial, fun b z => absurd (show b ∈ ([] : List Addr) from z) (by simp), hok, .of_eq hg⟩
  refine codeAny_mono ((F _ inB (nsK hns) TB).run callerA [] s₁ H ⟨[.ref a], []⟩ [.ref a] [.ref a] _ _ rfl hr e0 (hbind s₁ (.ref a)) (.cons rfl .nil) hsp) fun r s' z => ?_
  cases r with
  | error e => exact (hCX H e s' z).elim
  | ok fl =>
    cases fl with
    | next => exact False.elim z
    | brk => exact False.elim z
    | cont => exact False.elim z
    | ret u =>
      obtain ⟨v, H', os, bare, un, hok', r', q⟩ := z
      obtain rfl : v = .bl true := q
      obtain rfl : u = Value.bool true := r'
      have same : ∀ b o, b ≠ T → s₁.heap.get? b = some o → s'.heap.get? b = some o := fun b o nb e => by
        cases q : H b with
        | none => exact un.keep b o e q (by intro z; exact absurd (show b ∈ ([] : List Addr) from z) (by simp)) (by simp)
        | some u =>
          rcases hO b u q with z | ⟨_, _, ob, xs, rfl⟩
          · exact absurd z nb
          · obtain ⟨e1, _⟩ := hok b _ q
            obtain ⟨e2, _⟩ := hok' b _ (un.frzs b ob _ q)
            rw [e] at e1; cases e1
            exact e2
      obtain ⟨more, hm⟩ : ∃ more : Array Value, s'.heap.get? T = some { cls := .none, data := .fields more } := by
        obtain ⟨more, z⟩ := un.tbls T #[] hH
        exact ⟨_, hok' T _ z⟩
      refine ⟨rfl, ⟨fun b o e => ?_, fun b o e => ?_⟩, os, bare⟩
      · by_cases nb : b = T
        · subst nb
          rw [hT] at e; cases e
          exact .inr (.inl ⟨(C.tab hT).isCodeTable, rfl, #[], more, rfl, by rw [Array.empty_append]; exact hm⟩)
        · exact .inl (same b o nb e)
      · by_cases nb : b = T
        · subst nb
          exact ⟨_, hm⟩
        · exact ⟨o, same b o nb e⟩
theorem law_callT1 (KX : K.In s₁.heap) (hns : s₁.heap.Ns mainGlobals mg) (hb : s₁.heap.Ns builtinsNs mb) (hbb : ∀ x : Str, x ≠ "__name__" → mb x = bootBuiltins x) (hlim : s₁.heap.NoLimit) (hg : s₁.gens = #[])
    (hT : s₁.heap.get? T = some { cls := .none, data := .fields #[] }) (nT : K.lookup T = none) (C : PySem.W.CodeHd s₁.heap c T)
    (hbm : ∃ (bm : Addr) (ob : Obj), mg "__builtins__" = some (.ref bm) ∧ bm ≠ builtinsNs ∧ s₁.heap.get? bm = some ob ∧ ob.cls = .type "module" ∧ ob.dict = some builtinsNs ∧ ob.data = .plain)
    (ha : s₁.heap.get? a = some { cls := .type "list", data := .seq vs.toArray }) (hi : IntsAre vs ns) (hl : ns.length ≤ sizeLine) (hr : Room k callerA)
    (F : ∀ base : Heap, K.In base → base.Ns mainGlobals mg → TabB base mg c T → FnOkG P w K mg base CX k fa fd [x] sp) (hbind : ∀ (s : Shared) (u : Value), BindsTo s fd ⟨[u], []⟩ [(x, u)])
    (hsp : ∀ H : Hp, H T = some (.tbl #[]) → SqL K H a (ns.map V.int) → sp [.ref a] H (fun v _ => v = .bl true) fun _ _ _ => False) (hCX : ∀ H e s', CX [] H s₁ (fun _ _ _ => False) e s' → False) :
    codeAny (model P w) callerA (.call (.ref fa) ⟨[.ref a], []⟩) (fun r s' => r = .ok (.ret (.bool true)) ∧ OldK s₁.heap s'.heap ∧ s'.os = s₁.os ∧ AllBare s'.gens) s₁ := by
  have rv := vals_ints hi
  have lenV := hi.length
  have ne : a ≠ T := fun z => by
    rw [z, hT] at ha
    have q : Data.fields #[] = Data.seq vs.toArray _ := congrArg Obj.data (Option.some.inj ha)
    cases q
  cases hk : K.lookup a with
  | some o =>
    have e := KX a o hk
    rw [ha] at e
    cases e
    refine law_core (H := fun b => if b = T then some (.tbl #[]) else none) KX hns hb hbb hlim hg hT nT C hbm ha hr F hbind (hsp _ (if_pos rfl) (.inr ⟨_, vs.toArray, _, hk, rfl, rfl, rfl, by rw [List.size_toArray, lenV]; exact hl, by simpa using rv⟩)) hCX (if_pos rfl) (fun b u z => ?_) (fun b u z => ?_)
    · by_cases q : b = T
      · exact .inl q
      · have z' := (if_neg q).symm.trans z
        cases z'
    · by_cases q : b = T
      · have z' := (if_pos q).symm.trans z
        cases z'
        subst q
        exact hT
      · have z' := (if_neg q).symm.trans z
        cases z'
  | none =>
    refine law_core (H := H0 a T { cls := .type "list", data := .seq vs.toArray } (ns.map V.int)) KX hns hb hbb hlim hg hT nT C hbm ha hr F hbind (hsp _ (if_pos rfl) (.inl (.inr ⟨_, (if_neg ne).trans (if_pos rfl)⟩))) hCX (if_pos rfl) (fun b u z => ?_) (fun b u z => ?_)
    · by_cases q : b = T
      · exact .inl q
      · have z1 := (if_neg q).symm.trans z
        by_cases q2 : b = a
        · have z' := (if_pos q2).symm.trans z1
          cases z'
          exact .inr ⟨q2, hk, _, _, rfl⟩
        · have z' := (if_neg q2).symm.trans z1
          cases z'
    · by_cases q : b = T
      · have z' := (if_pos q).symm.trans z
        cases z'
        subst q
        exact hT
      · have z1 := (if_neg q).symm.trans z
        by_cases q2 : b = a
        · have z' := (if_pos q2).symm.trans z1
          cases z'
          subst q2
          exact ⟨ha, by rw [List.length_map]; exact hl, vs, _, rv, ha⟩
        · have z' := (if_neg q2).symm.trans z1
          cases z'
end
/-- the walk: the def y of the text has the lambdas -/
theorem walk_ofT1 {l : PySem.W.OpenLaw} {n k : Nat} {q : Program} {loose : List Str} {XP : (Str → Option Value) → Heap → Prop} {YP : World → Heap → Prop} {d : DefRec} {K : Params → PySem.W.Frag} {CX : CXT} {sp : PySem.W.Frag → Addr → Sp} {x y : Str} {dy : DefRec}
    (hn : l.most = some n) (hn2 : n ≤ sizeLine) (hdf : d.params.defaults = []) (hr : Room k callerA) (hrec : (recsOf q).find? (fun e => e.name == y) = some dy)
    (hY : ∀ (w : World) (h : Heap), YP w h → (K w.params).In h)
    (F : ∀ (w : World) (mg : Str → Option Value) (fa : Addr) (h : Heap), (K w.params).In h → h.Ns mainGlobals mg → mg d.name = some (.ref fa) →
      ∃ (fd : FuncData) (c T : Addr), PySem.W.tabIn (K w.params) y = some (c, T) ∧ (K w.params).lookup T = none ∧ (∀ (s : Shared) (u : Value), BindsTo s fd ⟨[u], []⟩ [(x, u)]) ∧
        ∀ base : Heap, (K w.params).In base → base.Ns mainGlobals mg → TabB base mg c T → FnOkG l.prog w (K w.params) mg base CX k fa fd [x] (sp (K w.params) T))
    (hsp : ∀ (K : PySem.W.Frag) (H : Hp) (a T : Addr) (ns : List Int), ns.length ≤ n → H T = some (.tbl #[]) → SqL K H a (ns.map V.int) → sp K T [.ref a] H (fun v _ => v = .bl true) fun _ _ _ => False)
    (hCX : ∀ (H : Hp) (s : Shared) (e : Value) (s' : Shared), CX [] H s (fun _ _ _ => False) e s' → False) :
    PySem.W.WalkO q loose XP YP l.row.toRowW d [] (fun f vs => PySem.call f vs) := by
  refine Att.attach_call hn hdf fun w s₀ s₁ mg mb fa o pm cd doc a vs ns G Y ho hd hcd hmg hobj hints hlen hg => ?_
  have KX := hY w _ Y
  obtain ⟨fd, c, T, ht, nT, hb, hF⟩ := F w mg fa _ KX G.T.g hmg
  obtain ⟨C, hT⟩ := PySem.W.tab_of G.T KX hrec ht
  exact law_callT1 KX G.T.g G.T.b G.T.builtins G.T.nolimit hg hT nT C G.T.bmain hobj hints (Nat.le_trans hlen hn2) hr hF hb (fun H hH hS => hsp (K w.params) H a T ns hlen hH hS) fun H e s' => hCX H s₁ e s'
end LfT
set_option maxHeartbeats 4000000
/-! x(lambda: e) where x is «def x(a): try: return a() / except E: return 'text'», with few premises; a def whose code object is known -/
namespace LfT
open PySem PySem.Spec PyProof.Rows L2 LamX
def DfC (K : PySem.W.Frag) (mg : Str → Option Value) (x : Str) (st : Stmt) (c : Addr) : Prop := ∃ f fd, Fun K x x st f fd ∧ mg x = some (.ref f) ∧ fd.code = .ref c
section
variable {P : Program} {w : World} {K : PySem.W.Frag} {mg : Str → Option Value} {base : Heap}
theorem DfC.okG {x : Str} {st : Stmt} {c : Addr} {N ps : List Str} {k : Nat} {sp : Sp} (D : DfC K mg x st c) (S : FnScope N ps (defScope st))
    (bd : ∀ (kV doc pm : Value) (an : Option Addr) (cdv ct : Value) (us : List Value), us.length = ps.length → bindArgs (PySem.W.fnOf x x (defArgs st) (defBody st) (defScope st) .none kV doc pm an cdv ct) ⟨us, []⟩ = pure (ps.zip us))
    (len : ∀ vs H Q E, sp vs H Q E → vs.length = ps.length)
    (hbody : ∀ (f : Addr) (A : Around) (outer : List Env) (s : Shared) (H : Hp) (vs : List V) (Q : VK) (E : XK), (A.deeper (envOfC x (defScope st) s.heap.objs.size f (.ref c))).guards = some [] → Room k (A.deeper (envOfC x (defScope st) s.heap.objs.size f (.ref c))) → sp vs H Q E →
      ∃ t, PSs (cxOf CX0 P w K mg base N x (defScope st) f (.ref c) A outer s H E).nox (defBody st) t ∧ t { nx := fun _ H' => Q .non H', rt := Q } (start N vs) H) : DefOkG P w K mg base CX0 (k + 1) x ps sp := by
  obtain ⟨f, fd, F, hm, hc⟩ := D
  refine ⟨f, fd, hm, F.kp, F.binds bd, ?_⟩
  obtain ⟨oc, od, kV, doc, pm, an, cdv, ct, osl, rfl, lk, hcd⟩ := F.ex
  obtain rfl : cdv = .ref c := hc
  refine fn_ofG lk hcd S len fun A outer s H vs Q E hg hr hsp => ?_
  obtain ⟨t, h, q⟩ := hbody f A outer s H vs Q E hg hr hsp
  exact ⟨t, h.nox, q⟩
end
section
variable {X : Cx}
theorem pe_told {x a e ret : Str} {st : Stmt} {Ng : List Str} {j : Nat} {p1 p2 p3 p4 p5 p6 p7 p8 p lpos pos : Pos} {c P CS : Addr} {k : Nat} {params : Arguments} {body : Expr} {scope : Scope} {t : XK → TE} (D : Df X.K X.mg x st)
    (hst : defBody st = [.Try [.Return (some (.Call (.Name a p1) [] [] p2)) p3] [.ExceptHandler (some (.Name e p4)) none [.Return (some (.Constant (.str ret) j p5)) p6] p7] [] [] p8])
    (Sg : FnScope Ng [a] (defScope st)) (hNg : Ng[0]? = some a) (hva : Vis (defScope st) a)
    (bd : ∀ (kV doc pm : Value) (an : Option Addr) (cdv ct : Value) (us : List Value), us.length = [a].length → bindArgs (PySem.W.fnOf x x (defArgs st) (defBody st) (defScope st) .none kV doc pm an cdv ct) ⟨us, []⟩ = pure ([a].zip us))
    (hge : (defScope st).names.lookup e = some .globalImplicit) (hme : X.mg e = some (.ref CS)) (h0 : ∀ f : Addr, (L2.start Ng [V.ref f])[0]? = some (some (V.ref f)))
    (TB : TabB X.base X.mg c P) (hcode : X.env.code = .ref c) (hg : Gl X x) (hr : Room (k + 2) X.A) (L : LamS X.env.scope scope) (hdef : defaultsOf params X.env = ([], []))
    (hbind : ∀ (q : Str) (cl : List (Str × Addr)) (pm cv ctv : Value), bindArgs (PySem.W.kla_fn "<lambda>" q params body scope cl pm cv ctv) ⟨[], []⟩ = pure [])
    (hbody : ∀ (A : Around) (outer : List Env) (s : Shared) (H : Hp) (E : XK) (f c' : Addr), Room k (A.deeper (lamEnv X scope s.heap.objs.size f c')) → PE (lamCx X A outer s H E scope f c') body (t E))
    (hde : (e == ("__debug__" : Str)) = false := by decide) (hdb : (x == ("__debug__" : Str)) = false := by decide) (hd : (a == ("__debug__" : Str)) = false := by decide) (hcd : (a == ("__classdict__" : Str)) = false := by decide) :
    PE X (.Call (.Name x p) [.Lambda params body scope lpos] [] pos) (tLam [(P, X.env.qual ++ "<lambda>")] (TTold X.K CS ret) t) := by
  obtain ⟨g, fd, F, hm⟩ := D
  have hb := F.binds bd
  obtain ⟨oc, od, kV, doc, pm, an, cdv, ct, osl, rfl, lk, hcg⟩ := F.ex
  refine pe_lamcall hg hm F.kp lk hcg hb Sg hNg hva ?_ TB hcode (by simp) (fun p hp _ => by cases List.mem_singleton.mp hp; rfl) hr L hdef hbind hbody hdb hd hcd
  rw [hst]
  exact told_gives hge hme hde h0
end
end LfT
set_option maxHeartbeats 4000000
/-! match over a tuple: sequence patterns of names, perhaps a last *name, with a guard -/
namespace L2
open PySem PySem.Spec PyProof.Rows
/-- the patterns are plain names -/
def Caps (ps : List Pattern) (ns : List Str) : Prop := Paired (fun p n => ∃ q, p = Pattern.MatchAs none (some n) q) ps ns
section
variable {M : Model} {A : Around} {E : Value → Shared → Prop} {s : Shared} {env : Env}
theorem each_caps {ns : List Str} {ps more : List Pattern} {us rest : List Value} {Q : Option (List (Str × Value)) → Shared → Prop} (c : Caps ps ns) (hl : us.length = ns.length)
    (h : wpAny M A (matchEach more env rest) (fun r s1 => match r with | none => False | some bs => Q (some (ns.zip us ++ bs)) s1) E s) : wpAny M A (matchEach (ps ++ more) env (us ++ rest)) Q E s := by
  induction ns generalizing ps us Q with
  | nil =>
    cases c
    cases us with
    | nil =>
      refine wpAny_mono h (fun r s1 z => ?_) fun _ _ z => z
      cases r with
      | none => exact z.elim
      | some bs => exact z
    | cons u us => cases hl
  | cons n ns ih =>
    cases c with
    | cons c0 c1 =>
      obtain ⟨q, rfl⟩ := c0
      cases us with
      | nil => cases hl
      | cons u us =>
        refine wpAny_matchEach_cons (wpAny_matchPattern_Capture ?_)
        show wpAny M A (matchEach _ env (us ++ rest)) _ E s
        refine ih c1 (by simpa using hl) (wpAny_mono h (fun r s1 z => ?_) fun _ _ z => z)
        cases r with
        | none => exact z.elim
        | some bs => exact z
end
section
variable {prog : Program} {w : World} {A : Around} {E : Value → Shared → Prop} {s : Shared}
/-- the items of a tuple, the last ones as a new list -/
theorem unpack_last {l : Addr} {items : Array Value} {i : Nat} {Q : List Value → Shared → Prop} (hh : A.handled = none) (hl : IsTup s.heap l items) (hi : i ≤ items.size) (hz : items.size ≤ sizeLine)
    (h : ∀ (h' : Heap) (tk : Nat), (∀ b o, s.heap.get? b = some o → h'.get? b = some o) → Q (items.toList.take i ++ [.ref h'.objs.size]) { s with heap := h'.push { cls := .type "list", data := .seq (items.toList.drop i).toArray }, toks := tk }) : wpAny (model prog w) A (unpackItems (.ref l) (i + 1) (some i)) Q E s := by
  have ne : l ≠ s.heap.objs.size := by obtain ⟨o, ho, _⟩ := hl; exact Nat.ne_of_lt (Heap.lt_size ho)
  unfold unpackItems
  refine wpAny_bind ?_
  unfold notIterableAtAll
  refine wpAny_bind (wpAny_specialOf (T := "tuple") hl.typeIs PyProof.Rows.slot_tuple_iter.lookup (wpAny_pure ?_))
  rw [if_neg (by simp)]
  refine wpAny_bind (wpAny_holding (iter_tuple (t := l) hl ?_))
  refine wpAny_bind (wpAny_holding (draw_tuple (t := l) ne i 0 _ _ ⟨_, Heap.get?_push_size _ rfl, rfl, rfl⟩ (hl.push _) (by omega) fun h1 it1 sb1 => ?_))
  have hl1 : IsTup h1 l items := (hl.push _).extBut sb1.extBut ne
  rw [Nat.zero_add] at it1
  obtain ⟨oi, hoi, _⟩ := id it1
  obtain ⟨ol, hol, _⟩ := id hl1
  rw [List.drop_zero]
  have fl : (items.toList.take i).length = i := by rw [List.length_take, Array.length_toList]; omega
  rw [if_neg (by omega)]
  refine wpAny_bind (wpAny_holding (PySem.W.kun_collect (T := "tuple_iterator") (s := { s with heap := h1 }) (.inr (.inr (.inr rfl))) (Walks.tuple (A := A.in1) hh s.heap.objs.size l ne items) (fun j u st => st.1.typeIs) hi ⟨it1, hl1⟩ (Heap.lt_size hoi) (Heap.lt_size hol) (fun h2 tk hk => ?_) hz))
  have e0 : i + 1 - 1 - i = 0 := by omega
  dsimp only
  rw [e0, if_neg (by omega), Nat.sub_zero, List.take_length, List.drop_length]
  refine wpAny_bind (wpAny_newList (wpAny_pure ?_) (by rw [List.length_drop, Array.length_toList]; omega))
  rw [List.append_nil]
  exact h h2 tk fun b o e => hk b o (Nat.ne_of_lt (Heap.lt_size e)) (sb1.extBut b o (Nat.ne_of_lt (Heap.lt_size e)) (Heap.get?_push_of_some _ e))
end
section
variable {X : Cx}
/-- the cases, from the subject's value on -/
structure PMc (X : Cx) (cs : List MatchCase) (t : V → TS) : Prop where
  run : ∀ (first : Bool) (pins : List (Addr × Obj)) (s : Shared) (σ : St) (H : Hp) (D : Ends) (v : V) (u : Value), Inv X pins σ H s → RelV v u → t v D σ H → wpAny (model X.prog X.w) X.A (matchCases cs X.env u first) (SP X pins D) X.xe s
theorem pmc_nil : PMc X [] (fun _ D σ H => D.nx σ H) := ⟨fun _ pins s σ H D v u I r h => wpAny_matchCases_nil ⟨σ, H, I, h⟩⟩
def tMatch (te : TE) (t : V → TS) : TS := fun D σ H => te σ H fun v H1 => t v D σ H1
theorem ps_match {e : Expr} {cs : List MatchCase} {pos : Pos} {te : TE} {t : V → TS} (he : PE X e te) (hc : PMc X cs t) : PS X (.Match e cs pos) (tMatch te t) := by
  refine ⟨fun pins s σ H D I h => wpAny_Match (thn (he.run pins s σ H _ I h) fun u s1 ⟨v, H1, I1, r1, q1⟩ => ?_)⟩
  exact hc.run true pins s1 σ H1 D v u I1 r1 q1
/-- names bound in order -/
structure PNs (X : Cx) (ns : List Str) (t : TGs) : Prop where
  run : ∀ (pins : List (Addr × Obj)) (s : Shared) (σ : St) (H : Hp) (vs : List V) (us : List Value) (Q : St → Hp → Prop), Inv X pins σ H s → Vals vs us → t vs σ H Q →
    wpAny (model X.prog X.w) X.A (assignInOrder (ns.map fun n => bindName X.env n) us) (fun _ s' => ∃ σ' H', Inv X pins σ' H' s' ∧ Q σ' H') X.xe s
theorem pns_nil : PNs X [] gNil := by
  refine ⟨fun pins s σ H vs us Q I r h => ?_⟩
  obtain ⟨rfl, h⟩ := h
  cases r
  exact PyProof.Rows.assignInOrder_nil ⟨σ, H, I, h⟩
theorem pns_cons {i : Nat} {x : Str} {ns : List Str} {u : TGs} (hN : X.N.Nodup) (hi : X.N[i]? = some x) (hx : Loc X.env.scope x) (h2 : PNs X ns u) (hf : X.fn x = true ∨ X.env.scope.names.lookup x = some .local := by first | exact .inl rfl | exact .inr rfl | assumption) : PNs X (x :: ns) (gCons (gName i) u) := by
  refine ⟨fun pins s σ H vs us Q I r h => ?_⟩
  obtain ⟨v, vr, rfl, h⟩ := h
  cases r with
  | cons r0 rr =>
    refine PyProof.Rows.assignInOrder_cons (wpAny_bindName (store_ok I hN hi hx r0 (fun s' I' => ?_) hf))
    exact h2.run pins s' _ H vr _ Q I' rr h
theorem caps_len {ps : List Pattern} {ns : List Str} (c : Caps ps ns) : ps.length = ns.length := by
  induction c with
  | nil => rfl
  | cons _ _ ih => rw [List.length_cons, List.length_cons, ih]
theorem zip_names (env : Env) : ∀ (ns : List Str) (us : List Value), us.length = ns.length → ((ns.zip us).map fun (n, _) => bindName env n) = (ns.map fun n => bindName env n) ∧ (ns.zip us).map (·.2) = us
  | [], [], _ => ⟨rfl, rfl⟩
  | n :: ns, u :: us, h => by
    obtain ⟨h1, h2⟩ := zip_names env ns us (by simpa using h)
    rw [List.zip_cons_cons, List.map_cons, List.map_cons, List.map_cons, h1, h2]
    exact ⟨rfl, rfl⟩
def tAfter (tg : TT) (tb : TS) (r : V → TS) (v : V) (D : Ends) : St → Hp → Prop := fun σ1 H1 => tg σ1 H1 fun b H2 => if b = true then tb D σ1 H2 else r v D σ1 H2
def tCase (K : PySem.W.Frag) (n : Nat) (g : TGs) (tg : TT) (tb : TS) (r : V → TS) : V → TS := fun v D σ H => ∃ a xs, v = .ref a ∧ SqT K H a xs ∧ (xs.length = n → g xs σ H (tAfter tg tb r v D)) ∧ (xs.length ≠ n → r v D σ H)
theorem pmc_case {ps : List Pattern} {ns : List Str} {n : Nat} {gd : Expr} {body : List Stmt} {rest : List MatchCase} {pos : Pos} {g : TGs} {tg : TT} {tb : TS} {r : V → TS} (hc : X.calm = true) (cp : Caps ps ns) (hl : ps.length = n) (hn : PNs X ns g) (hg : PT X gd tg) (hb : PSs X body tb) (hr : PMc X rest r)
    (hstar : ps.findIdx? (·.isStar) = none := by rfl) (hwild : (ps.all fun p => p.isWildcard || (p.isStar && p.names.isEmpty)) = false := by rfl) : PMc X (⟨.MatchSequence ps pos, some gd, body⟩ :: rest) (tCase X.K n g tg tb r) := by
  refine ⟨fun first pins s σ H D v u I rv h => ?_⟩
  obtain ⟨a, xs, rfl, hs, h1, h2⟩ := h
  cases rv
  obtain ⟨its, rvs, ht, hz⟩ := I.tuple hs
  have zl : sizeLine = 2 ^ 24 := rfl
  have hsz : its.toArray.size = xs.length := by rw [List.size_toArray, ← rvs.length]
  refine wpAny_matchCases_cons ?_
  by_cases hm : xs.length = n
  · refine matchSeq_tuple_hit ht (by rw [hsz]; omega) (by rw [hsz, hl, hm]) ?_ hstar hwild
    rw [show ps.length = its.toArray.size by rw [hsz, hl, hm]]
    refine unpackItems_tuple (I.ok.hd hc) ht fun h' he => ?_
    have I1 : Inv X pins σ H { s with heap := h', toks := s.toks + 1 + 1 } := I.kept fun b o e => he b o (Nat.ne_of_lt (Heap.lt_size e)) e
    have el : its.length = ns.length := by rw [← rvs.length, hm, ← hl, caps_len cp]
    have hh := each_caps (M := model X.prog X.w) (A := X.A) (E := X.xe) (s := { s with heap := h', toks := s.toks + 1 + 1 }) (env := X.env) (more := []) (rest := []) (us := its) (Q := fun r s₁ => match r with
          | none => wpAny (model X.prog X.w) X.A (matchCases rest X.env (.ref a) false) (SP X pins D) X.xe s₁
          | some bs => wpAny (model X.prog X.w) X.A (assignInOrder (bs.map fun (n, _) => bindName X.env n) (bs.map (·.2))) (fun _ s₂ =>
              wpAny (model X.prog X.w) X.A (isTrue gd X.env (eval gd X.env)) (fun ok s₃ => if ok then wpAny (model X.prog X.w) X.A (execs body X.env) (SP X pins D) X.xe s₃ else wpAny (model X.prog X.w) X.A (matchCases rest X.env (.ref a) false) (SP X pins D) X.xe s₃) X.xe s₂) X.xe s₁) cp el
        (by
          refine wpAny_pure ?_
          dsimp only
          rw [List.append_nil, (zip_names X.env _ _ el).1, (zip_names X.env _ _ el).2]
          refine thn (hn.run pins _ σ H xs its _ I1 rvs (h1 hm)) fun _ s2 ⟨σ2, H2, I2, q2⟩ => ?_
          refine thn (hg.run pins s2 σ2 H2 _ I2 q2) fun ok s3 ⟨H3, I3, q3⟩ => ?_
          cases ok with
          | true => exact hb.run pins s3 σ2 H3 D I3 q3
          | false => exact hr.run false pins s3 σ2 H3 D (.ref a) _ I3 rfl q3)
    rw [List.append_nil, List.append_nil] at hh
    exact hh
  · refine matchSeq_tuple_miss ht (by rw [hsz]; omega) (by rw [hsz, hl]; exact hm) ?_ hstar hwild
    exact hr.run false pins _ σ H D (.ref a) _ (I.kept (t' := s.toks + 1 + 1) fun b o e => e) rfl (h2 hm)
/-- a last *name -/
def tCaseS (K : PySem.W.Frag) (n : Nat) (g : TGs) (tg : TT) (tb : TS) (r : V → TS) : V → TS := fun v D σ H => ∃ a xs, v = .ref a ∧ SqT K H a xs ∧ (n ≤ xs.length → ∀ p, H p = none → g (xs.take n ++ [.ref p]) σ (upd H p (.lst (xs.drop n))) (tAfter tg tb r v D)) ∧ (xs.length < n → r v D σ H)
theorem pmc_caseS {ps : List Pattern} {ns : List Str} {x : Str} {q : Pos} {n : Nat} {gd : Expr} {body : List Stmt} {rest : List MatchCase} {pos : Pos} {g : TGs} {tg : TT} {tb : TS} {r : V → TS} (hc : X.calm = true) (cp : Caps ps ns) (hl : ps.length = n) (h0 : 0 < n) (hn : PNs X (ns ++ [x]) g) (hg : PT X gd tg) (hb : PSs X body tb) (hr : PMc X rest r)
    (hstar : (ps ++ [Pattern.MatchStar (some x) q]).findIdx? (·.isStar) = some n := by rfl) (hwild : ((ps ++ [Pattern.MatchStar (some x) q]).all fun p => p.isWildcard || (p.isStar && p.names.isEmpty)) = false := by rfl)
    (hnm : (((ps ++ [Pattern.MatchStar (some x) q])[n]?).elim [] (·.names)).isEmpty = false := by rfl) : PMc X (⟨.MatchSequence (ps ++ [Pattern.MatchStar (some x) q]) pos, some gd, body⟩ :: rest) (tCaseS X.K n g tg tb r) := by
  refine ⟨fun first pins s σ H D v u I rv h => ?_⟩
  obtain ⟨a, xs, rfl, hs, h1, h2⟩ := h
  cases rv
  obtain ⟨its, rvs, ht, hz⟩ := I.tuple hs
  have zl : sizeLine = 2 ^ 24 := rfl
  have hsz : its.toArray.size = xs.length := by rw [List.size_toArray, ← rvs.length]
  have hpl : (ps ++ [Pattern.MatchStar (some x) q]).length = n + 1 := by rw [List.length_append, hl]; rfl
  refine wpAny_matchCases_cons ?_
  by_cases hm : n ≤ xs.length
  · refine PySem.W.kun_seqT ht (by rw [hsz]; omega) hstar hwild hnm (by rw [hpl]; omega) (by rw [hpl, hsz]; omega) ?_
    rw [hpl]
    refine unpack_last (I.ok.hd hc) ht (by rw [hsz]; omega) (by rw [hsz]; exact hz) fun h' tk hk => ?_
    have I0 : Inv X pins σ H { s with heap := h', toks := tk } := I.kept hk
    have hf : H h'.objs.size = none := I0.hok.fresh (Nat.le_refl _)
    have rd : Vals (xs.drop n) (its.drop n) := rvs.drop n
    have I1 : Inv X pins σ (upd H h'.objs.size (.lst (xs.drop n))) { s with heap := h'.push { cls := .type "list", data := .seq (its.toArray.toList.drop n).toArray }, toks := tk } :=
      I0.laid (t' := tk) (fun b o e => Heap.get?_push_of_some _ e) (Nat.le_refl _) ⟨by rw [List.length_drop]; omega, its.drop n, 0, rd, Heap.get?_push_size _ rfl⟩
    have rt : Vals (xs.take n ++ [.ref h'.objs.size]) (its.take n ++ [.ref h'.objs.size]) := (rvs.take n).append (.cons rfl .nil)
    have tl : (its.take n).length = ns.length := by rw [List.length_take, ← rvs.length, ← caps_len cp, hl]; omega
    have el : (its.take n ++ [Value.ref h'.objs.size]).length = (ns ++ [x]).length := by rw [List.length_append, List.length_append, tl]; rfl
    refine each_caps cp (us := its.take n) (rest := [.ref h'.objs.size]) tl (PySem.W.kun_each (wpAny_matchEach_nil ?_))
    have ez : ns.zip (its.take n) ++ ((some x).map fun y => (y, Value.ref h'.objs.size)).toList = (ns ++ [x]).zip (its.take n ++ [Value.ref h'.objs.size]) := by rw [List.zip_append tl.symm]; rfl
    dsimp only
    rw [List.append_nil, ez, (zip_names X.env _ _ el).1, (zip_names X.env _ _ el).2]
    refine thn (hn.run pins _ σ _ _ _ _ I1 rt (h1 hm _ hf)) fun _ s2 ⟨σ2, H2, I2, q2⟩ => ?_
    refine thn (hg.run pins s2 σ2 H2 _ I2 q2) fun ok s3 ⟨H3, I3, q3⟩ => ?_
    cases ok with
    | true => exact hb.run pins s3 σ2 H3 D I3 q3
    | false => exact hr.run false pins s3 σ2 H3 D (.ref a) _ I3 rfl q3
  · refine PySem.W.kun_fewT ht (by rw [hsz]; omega) hstar (by rw [hpl]; omega) (by rw [hpl, hsz]; omega) ?_
    exact hr.run false pins _ σ H D (.ref a) _ (I.kept (t' := s.toks + 1 + 1) fun b o e => e) rfl (h2 (by omega))
end
end L2
namespace L2
open PySem PySem.Spec PyProof.Rows
section
variable {X : Cx}
theorem pmc_caseT {pats ps : List Pattern} {ns : List Str} {x : Str} {q : Pos} {n : Nat} {gd : Expr} {body : List Stmt} {rest : List MatchCase} {pos : Pos} {g : TGs} {tg : TT} {tb : TS} {r : V → TS} (hc : X.calm = true) (hp : pats = ps ++ [Pattern.MatchStar (some x) q]) (cp : Caps ps ns) (hl : ps.length = n) (h0 : 0 < n) (hn : PNs X (ns ++ [x]) g) (hg : PT X gd tg) (hb : PSs X body tb) (hr : PMc X rest r)
    (hstar : pats.findIdx? (·.isStar) = some n := by rfl) (hwild : (pats.all fun p => p.isWildcard || (p.isStar && p.names.isEmpty)) = false := by rfl)
    (hnm : ((pats[n]?).elim [] (·.names)).isEmpty = false := by rfl) : PMc X (⟨.MatchSequence pats pos, some gd, body⟩ :: rest) (tCaseS X.K n g tg tb r) := by
  subst hp
  exact pmc_caseS hc cp hl h0 hn hg hb hr hstar hwild hnm
end
end L2
namespace L2
open PySem
/-- a case, with a word about where the next one begins -/
theorem tCase_cut {K : PySem.W.Frag} {n : Nat} {g : TGs} {tg : TT} {tb : TS} {r : V → TS} {D : Ends} {σ : St} {H : Hp} {a : Addr} {xs : List V} (Mid : St → Hp → Prop) (hq : SqT K H a xs) (yes : xs.length = n → ∀ r' : V → TS, (∀ σ1 H1, Mid σ1 H1 → r' (.ref a) D σ1 H1) → g xs σ H (tAfter tg tb r' (.ref a) D))
    (no : xs.length ≠ n → Mid σ H) (rest : ∀ σ1 H1, Mid σ1 H1 → r (.ref a) D σ1 H1) : tCase K n g tg tb r (.ref a) D σ H := ⟨a, xs, rfl, hq, fun h => yes h r rest, fun h => rest _ _ (no h)⟩
end L2
set_option maxHeartbeats 4000000
/-! Data of any depth in the heap (tuples, lists, texts, ints, bools, None, empty dicts), and what evaluates to data -/
namespace Lf
open PySem L2 Evl
mutual
inductive Da (H : Hp) : V → PyData → Prop
  | non : Da H .non .none
  | bl (b : Bool) : Da H (.bl b) (.bool b)
  | int (i : Int) : Da H (.int i) (.int i)
  | str (x : Str) (h : x.length ≤ 1000) : Da H (.str x) (.str x)
  | lst {a : Addr} {xs : List V} {ds : List PyData} (e : H a = some (.lst xs)) (h : DaAll H xs ds) : Da H (.ref a) (.list ds)
  | tup {a : Addr} {xs : List V} {ds : List PyData} (e : H a = some (.tup xs)) (h : DaAll H xs ds) : Da H (.ref a) (.tuple ds)
  | dic {a : Addr} (e : H a = some (.dK [])) : Da H (.ref a) (.dict [])
inductive DaAll (H : Hp) : List V → List PyData → Prop
  | nil : DaAll H [] []
  | cons {v : V} {vs : List V} {d : PyData} {ds : List PyData} (h : Da H v d) (t : DaAll H vs ds) : DaAll H (v :: vs) (d :: ds)
end
section
variable {H H' : Hp}
mutual
theorem Da.mono (x : Ex H H') : ∀ (d : PyData) (v : V), Da H v d → Da H' v d
  | .none, _, h => by cases h; exact .non
  | .bool b, _, h => by cases h; exact .bl _
  | .int i, _, h => by cases h; exact .int _
  | .str s, _, h => by cases h with | str _ hl => exact .str _ hl
  | .list ds, _, h => by cases h with | lst e ha => exact .lst (x _ _ e) (DaAll.mono x ds _ ha)
  | .tuple ds, _, h => by cases h with | tup e ha => exact .tup (x _ _ e) (DaAll.mono x ds _ ha)
  | .dict _, _, h => by cases h with | dic e => exact .dic (x _ _ e)
theorem DaAll.mono (x : Ex H H') : ∀ (ds : List PyData) (vs : List V), DaAll H vs ds → DaAll H' vs ds
  | [], _, h => by cases h; exact .nil
  | d :: ds, _, h => by cases h with | cons h t => exact .cons (Da.mono x d _ h) (DaAll.mono x ds _ t)
end
theorem Da.up {d : PyData} {v : V} (h : Da H v d) (x : Ex H H') : Da H' v d := Da.mono x d v h
theorem DaAll.up {ds : List PyData} {vs : List V} (h : DaAll H vs ds) (x : Ex H H') : DaAll H' vs ds := DaAll.mono x ds vs h
theorem DaAll.len {ds : List PyData} {vs : List V} (h : DaAll H vs ds) : vs.length = ds.length := by
  induction ds generalizing vs with
  | nil => cases h; rfl
  | cons d ds ih => cases h with | cons _ t => rw [List.length_cons, List.length_cons, ih t]
theorem DaAll.app {ds es : List PyData} {vs us : List V} (h : DaAll H vs ds) (h2 : DaAll H us es) : DaAll H (vs ++ us) (ds ++ es) := by
  induction ds generalizing vs with
  | nil => cases h; exact h2
  | cons d ds ih => cases h with | cons h t => exact .cons h (ih t)
theorem DaAll.at {ds : List PyData} {vs : List V} (h : DaAll H vs ds) {i : Nat} {v : V} (e : vs[i]? = some v) : ∃ d, ds[i]? = some d ∧ Da H v d := by
  induction ds generalizing vs i with
  | nil => cases h; simp at e
  | cons d ds ih =>
    cases h with
    | cons h t =>
      cases i with
      | zero => cases e; exact ⟨d, rfl, h⟩
      | succ i => exact ih t (by simpa using e)
theorem DaAll.get {ds : List PyData} {vs : List V} (h : DaAll H vs ds) {i : Nat} {d : PyData} (e : ds[i]? = some d) : ∃ v, vs[i]? = some v ∧ Da H v d := by
  induction ds generalizing vs i with
  | nil => simp at e
  | cons d' ds ih =>
    cases h with
    | cons h t =>
      cases i with
      | zero => cases e; exact ⟨_, rfl, h⟩
      | succ i => exact ih t (by simpa using e)
theorem DaAll.drop {ds : List PyData} {vs : List V} (h : DaAll H vs ds) : ∀ n : Nat, DaAll H (vs.drop n) (ds.drop n) := by
  induction ds generalizing vs with
  | nil => intro n; cases h; simp; exact .nil
  | cons d ds ih =>
    intro n
    cases h with
    | cons h t =>
      cases n with
      | zero => exact .cons h t
      | succ n => exact ih t n
theorem DaAll.take {ds : List PyData} {vs : List V} (h : DaAll H vs ds) : ∀ n : Nat, DaAll H (vs.take n) (ds.take n) := by
  induction ds generalizing vs with
  | nil => intro n; cases h; simp; exact .nil
  | cons d ds ih =>
    intro n
    cases h with
    | cons h t =>
      cases n with
      | zero => exact .nil
      | succ n => exact .cons h (ih t n)
theorem DaAll.ixN {ds : List PyData} {vs : List V} (h : DaAll H vs ds) {n : Int} {d : PyData} (e : atI ds n = some d) : ∃ v, atI vs n = some v ∧ Da H v d := by
  unfold atI at e ⊢
  rw [h.len]
  cases z : L2.ixN ds.length n with
  | none => rw [z] at e; cases e
  | some j => rw [z] at e; exact h.get e
/-- the kind of data -/
def kd : PyData → String
  | .none => "NoneType"
  | .bool _ => "bool"
  | .int _ => "int"
  | .str _ => "str"
  | .list _ => "list"
  | .tuple _ => "tuple"
  | .dict _ => "dict"
theorem Da.kd {d : PyData} {v : V} (h : Da H v d) : Kd H v (kd d) := by
  cases h with
  | non => exact .non
  | bl b => exact .bl b
  | int i => exact .int i
  | str x _ => exact .str x
  | lst e _ => exact .lst e
  | tup e _ => exact .tup e
  | dic e => exact .dic e
theorem Da.bl_ {b : Bool} {v : V} (h : Da H v (.bool b)) : v = .bl b := by cases h; rfl
theorem Da.int_ {i : Int} {v : V} (h : Da H v (.int i)) : v = .int i := by cases h; rfl
theorem Da.non_ {v : V} (h : Da H v .none) : v = .non := by cases h; rfl
theorem Da.str_ {x : Str} {v : V} (h : Da H v (.str x)) : v = .str x ∧ x.length ≤ 1000 := by cases h with | str _ h => exact ⟨rfl, h⟩
theorem Da.tup_ {ds : List PyData} {v : V} (h : Da H v (.tuple ds)) : ∃ a xs, v = .ref a ∧ H a = some (.tup xs) ∧ DaAll H xs ds := by cases h with | tup e h => exact ⟨_, _, rfl, e, h⟩
theorem Da.lst_ {ds : List PyData} {v : V} (h : Da H v (.list ds)) : ∃ a xs, v = .ref a ∧ H a = some (.lst xs) ∧ DaAll H xs ds := by cases h with | lst e h => exact ⟨_, _, rfl, e, h⟩
end
theorem Kd.str_k {H : Hp} {v : V} {t : String} (k : Kd H v t) : kitB t "str" = some (t == "str") := by
  cases k <;> (first | rfl | decide +kernel)
theorem Kd.list_k {H : Hp} {v : V} {t : String} (k : Kd H v t) : kitB t "list" = some (t == "list") := by
  cases k <;> (first | rfl | decide +kernel)
/-! ### a view G of the heap H: what is known of data; it grows by new data alone -/
def dataO : HO → Bool
  | .lst _ => true
  | .tup _ => true
  | .dK _ => true
  | _ => false
structure Gr (G H G' H' : Hp) : Prop where
  h : Ex H H'
  g : Ex G G'
  s : Ex G' H'
  n : ∀ a, H a ≠ none → G a = none → G' a = none
  t : ∀ a o, G' a = some o → G a = some o ∨ dataO o = true
section
variable {G H G1 H1 G2 H2 : Hp}
theorem Gr.refl (s : Ex G H) : Gr G H G H := ⟨Ex.refl _, Ex.refl _, s, fun _ _ h => h, fun _ _ h => .inl h⟩
theorem Gr.keep (s : Ex G H) (x : Ex H H1) : Gr G H G H1 := ⟨x, Ex.refl _, s.trans x, fun _ _ h => h, fun _ _ h => .inl h⟩
theorem Gr.trans (a : Gr G H G1 H1) (b : Gr G1 H1 G2 H2) : Gr G H G2 H2 := by
  refine ⟨a.h.trans b.h, a.g.trans b.g, b.s, fun c h1 h2 => b.n c (fun z => ?_) (a.n c h1 h2), fun c o h => ?_⟩
  · cases e : H c with
    | none => exact h1 e
    | some o => rw [a.h _ _ e] at z; cases z
  · rcases b.t c o h with h | h
    · exact a.t c o h
    · exact .inr h
theorem Gr.new {p : Addr} {o : HO} (s : Ex G H) (hp : H p = none) (ho : dataO o = true) : Gr G H (upd G p o) (upd H p o) := by
  have gp : G p = none := by
    cases e : G p with
    | none => rfl
    | some o => rw [s _ _ e] at hp; cases hp
  refine ⟨Ex.new hp, Ex.new gp, fun a u h => ?_, fun a h1 h2 => ?_, fun a u h => ?_⟩
  · by_cases e : a = p
    · subst e
      rw [upd_same] at h ⊢
      exact h
    · rw [upd_ne e] at h ⊢
      exact s _ _ h
  · rw [upd_ne (fun e => h1 (by rw [e]; exact hp))]
    exact h2
  · by_cases e : a = p
    · subst e
      rw [upd_same] at h
      cases h
      exact .inr ho
    · rw [upd_ne e] at h
      exact .inl h
/-- an object that the view does not know may change -/
theorem Gr.mut {p : Addr} {o : HO} (r : Gr G H G1 H1) (hp : G p = none) (hh : H p ≠ none) : Ex G1 (upd H1 p o) := fun a u h => by
  rw [upd_ne (fun e => by rw [e, r.n p hh hp] at h; cases h)]
  exact r.s _ _ h
end
/-! ### what evaluates to data -/
def EvD (te : TE) (σ : L2.St) (G : Hp) (d : PyData) : Prop := ∀ G1 H1, Ex G G1 → Ex G1 H1 → ∀ Q : VK, (∀ v G2 H2, Gr G1 H1 G2 H2 → Da G2 v d → Q v H2) → te σ H1 Q
def EvDs (ta : TA) (σ : L2.St) (G : Hp) (ds : List PyData) : Prop := ∀ G1 H1, Ex G G1 → Ex G1 H1 → ∀ Q : List V → Hp → Prop, (∀ vs G2 H2, Gr G1 H1 G2 H2 → DaAll G2 vs ds → Q vs H2) → ta σ H1 Q
section
variable {K : PySem.W.Frag} {σ : L2.St} {G H G' : Hp} {ta tb te tl : TE} {t u : TT} {tA tr : TA} {d e : PyData} {ds es : List PyData} {v : V}
theorem EvD.mono (x : Ex G G') (h : EvD te σ G d) : EvD te σ G' d := fun G1 H1 a b Q q => h G1 H1 (x.trans a) b Q q
theorem EvD.is (h : EvD te σ G d) (e' : d = e) : EvD te σ G e := e' ▸ h
theorem EvD.go (h : EvD te σ G d) (s : Ex G H) {Q : VK} (k : ∀ v G2 H2, Gr G H G2 H2 → Da G2 v d → Q v H2) : te σ H Q := h G H (Ex.refl _) s Q k
theorem evd_var {i : Nat} (hi : σ[i]? = some (some v)) (h : Da G v d) : EvD (tVar i) σ G d := fun G1 H1 x s Q q => ⟨v, hi, q v G1 H1 (Gr.refl s) (h.up x)⟩
theorem evd_of (h : Ev te σ G v) (hd : ∀ G, Da G v d) : EvD te σ G d := fun G1 H1 x s Q q => h H1 (x.trans s) _ fun H2 x2 => q v G1 H2 (Gr.keep s x2) (hd G1)
theorem EvD.bl_ {b : Bool} (h : EvD te σ G (.bool b)) : Ev te σ G (.bl b) := fun H1 x Q q => h G H1 (Ex.refl _) x _ fun v G2 H2 r hd => by rw [hd.bl_]; exact q H2 r.h
theorem EvD.int_ {i : Int} (h : EvD te σ G (.int i)) : Ev te σ G (.int i) := fun H1 x Q q => h G H1 (Ex.refl _) x _ fun v G2 H2 r hd => by rw [hd.int_]; exact q H2 r.h
theorem EvD.str_ {s : Str} (h : EvD te σ G (.str s)) : Ev te σ G (.str s) := fun H1 x Q q => h G H1 (Ex.refl _) x _ fun v G2 H2 r hd => by rw [hd.str_.1]; exact q H2 r.h
theorem EvD.non_ (h : EvD te σ G .none) : Ev te σ G .non := fun H1 x Q q => h G H1 (Ex.refl _) x _ fun v G2 H2 r hd => by rw [hd.non_]; exact q H2 r.h
theorem evd_bl {b : Bool} (h : Ev te σ G (.bl b)) : EvD te σ G (.bool b) := evd_of h fun _ => .bl b
theorem evd_int {i : Int} (h : Ev te σ G (.int i)) : EvD te σ G (.int i) := evd_of h fun _ => .int i
theorem evd_str {s : Str} (h : Ev te σ G (.str s)) (hl : s.length ≤ 1000) : EvD te σ G (.str s) := evd_of h fun _ => .str s hl
theorem evd_non (h : Ev te σ G .non) : EvD te σ G .none := evd_of h fun _ => .non
theorem evd_nil : EvDs tNil σ G [] := fun G1 H1 _ s Q q => q [] G1 H1 (Gr.refl s) .nil
theorem evd_cons (h : EvD te σ G d) (hr : EvDs tr σ G ds) : EvDs (tCons te tr) σ G (d :: ds) := fun G1 H1 x s Q q => h G1 H1 x s _ fun v G2 H2 r hd => hr G2 H2 (x.trans r.g) r.s _ fun vs G3 H3 r2 hds => q (v :: vs) G3 H3 (r.trans r2) (.cons (hd.up r2.g) hds)
theorem evd_tup (h : EvDs tA σ G ds) (hl : ds.length ≤ 100000) : EvD (tTup tA) σ G (.tuple ds) := fun G1 H1 x s Q q => h G1 H1 x s _ fun vs G2 H2 r hds =>
  ⟨by rw [hds.len]; exact sz_of hl, fun p hp => have n := Gr.new (o := .tup vs) r.s hp rfl; q (.ref p) _ _ (r.trans n) (.tup upd_same (hds.up n.g))⟩
theorem evd_lst (h : EvDs tA σ G ds) (hl : ds.length ≤ 100000) : EvD (tLst tA) σ G (.list ds) := fun G1 H1 x s Q q => h G1 H1 x s _ fun vs G2 H2 r hds =>
  ⟨by rw [hds.len]; exact sz_of hl, fun p hp => have n := Gr.new (o := .lst vs) r.s hp rfl; q (.ref p) _ _ (r.trans n) (.lst upd_same (hds.up n.g))⟩
theorem evd_ixT {n : Int} (ha : EvD ta σ G (.tuple ds)) (hb : Ev tb σ G (.int n)) (hi : atI ds n = some d) : EvD (tOp (rIxT K) ta tb) σ G d := fun G1 H1 x s Q q => ha G1 H1 x s _ fun v G2 H2 r hd => hb H2 ((x.trans r.g).trans r.s) _ fun H3 x3 => by
  obtain ⟨a, xs, rfl, e, hs⟩ := hd.tup_
  obtain ⟨w, hw, hdw⟩ := hs.ixN hi
  exact ⟨a, xs, n, w, rfl, rfl, SqT.of (x3 _ _ (r.s _ _ e)), hw, q w G2 H3 (r.trans (Gr.keep r.s x3)) hdw⟩
theorem evd_ixL {n : Int} (ha : EvD ta σ G (.list ds)) (hb : Ev tb σ G (.int n)) (hi : atI ds n = some d) : EvD (tOp (rIxL K) ta tb) σ G d := fun G1 H1 x s Q q => ha G1 H1 x s _ fun v G2 H2 r hd => hb H2 ((x.trans r.g).trans r.s) _ fun H3 x3 => by
  obtain ⟨a, xs, rfl, e, hs⟩ := hd.lst_
  obtain ⟨w, hw, hdw⟩ := hs.ixN hi
  exact ⟨a, xs, n, w, rfl, rfl, SqL.of (x3 _ _ (r.s _ _ e)), hw, q w G2 H3 (r.trans (Gr.keep r.s x3)) hdw⟩
theorem evd_if {b : Bool} (h : EvT t σ G b) (h1 : b = true → EvD ta σ G d) (h2 : b = false → EvD tb σ G d) : EvD (tIf t ta tb) σ G d := fun G1 H1 x s Q q => h H1 (x.trans s) _ fun H2 x2 => by
  cases b with
  | true =>
    show ta σ H2 Q
    exact h1 rfl G1 H2 x (s.trans x2) Q fun v G3 H3 r hd => q v G3 H3 ((Gr.keep s x2).trans r) hd
  | false =>
    show tb σ H2 Q
    exact h2 rfl G1 H2 x (s.trans x2) Q fun v G3 H3 r hd => q v G3 H3 ((Gr.keep s x2).trans r) hd
/-- t[lo:hi] of a tuple -/
theorem cut_da {H : Hp} {vs : List V} {ds : List PyData} (h : DaAll H vs ds) (lo hi : Option Int) : DaAll H (cutV vs lo hi) ((ds.drop (HT.sIx ds.length 0 lo)).take (HT.sIx ds.length ds.length hi - HT.sIx ds.length 0 lo)) := by
  unfold cutV
  rw [h.len]
  exact (h.drop _).take _
def cutD (ds : List PyData) (lo hi : Option Int) : List PyData := (ds.drop (HT.sIx ds.length 0 lo)).take (HT.sIx ds.length ds.length hi - HT.sIx ds.length 0 lo)
theorem cutD_from (ds : List PyData) (n : Nat) : cutD ds (some (n : Int)) none = ds.drop n := by
  unfold cutD
  rw [HT.sIx_nat, HT.sIx_none]
  by_cases h : n ≤ ds.length
  · rw [Nat.min_eq_left h, List.take_of_length_le (by rw [List.length_drop]; omega)]
  · rw [Nat.min_eq_right (by omega), List.drop_length, List.drop_of_length_le (by omega)]
    simp
theorem cutD_to (ds : List PyData) (n : Nat) : cutD ds none (some (n : Int)) = ds.take n := by
  unfold cutD
  rw [HT.sIx_nat, HT.sIx_none, List.drop_zero, Nat.sub_zero]
  by_cases h : n ≤ ds.length
  · rw [Nat.min_eq_left h]
  · rw [Nat.min_eq_right (by omega), List.take_length, List.take_of_length_le (by omega)]
theorem evd_sl {tlo thi : TO} {lo hi : Option Int} (h : EvD te σ G (.tuple ds)) (h1 : EvO tlo σ G lo) (h2 : EvO thi σ G hi) : EvD (tSl (rSlA K) te tlo thi) σ G (.tuple (cutD ds lo hi)) := fun G1 H1 x s Q q =>
  h G1 H1 x s _ fun v G2 H2 r hd => h1 H2 ((x.trans r.g).trans r.s) _ fun H3 x3 => h2 H3 (((x.trans r.g).trans r.s).trans x3) _ fun H4 x4 => by
    obtain ⟨a, xs, rfl, e, hs⟩ := hd.tup_
    have r4 := r.trans (Gr.keep r.s (x3.trans x4))
    have e4 := r4.s _ _ e
    refine ⟨a, xs, rfl, SqT.of e4, fun hw => q _ G2 H4 r4 ?_, fun hw p hp => ?_⟩
    · have : cutD ds lo hi = ds := by
        rw [hs.len] at hw
        unfold cutD
        rw [hw.1, hw.2, List.drop_zero, Nat.sub_zero, List.take_length]
      rw [this]
      exact hd
    · have n := Gr.new (o := .tup (cutV xs lo hi)) r4.s hp rfl
      exact q (.ref p) _ _ (r4.trans n) (.tup upd_same ((cut_da hs lo hi).up n.g))
theorem EvO.none_ : EvO L2.tNoPart σ G none := fun H1 _ _ q => q H1 (Ex.refl _)
theorem EvO.some_ {n : Int} (h : Ev te σ G (.int n)) : EvO (L2.tPart te) σ G (some n) := fun H1 x Q q => h H1 x _ fun H2 x2 => ⟨n, rfl, q H2 x2⟩
/-- a + b of tuples -/
theorem evd_cat (ha : EvD ta σ G (.tuple ds)) (hb : EvD tb σ G (.tuple es)) (hl : ds.length + es.length ≤ 100000) : EvD (tOp (rCatA K) ta tb) σ G (.tuple (ds ++ es)) := fun G1 H1 x s Q q =>
  ha G1 H1 x s _ fun v G2 H2 r hd => hb G2 H2 (x.trans r.g) r.s _ fun w G3 H3 r2 he => by
    obtain ⟨a, xs, rfl, e1, h1⟩ := (hd.up r2.g).tup_
    obtain ⟨b, ys, rfl, e2, h2⟩ := he.tup_
    have r3 := r.trans r2
    refine ⟨a, b, xs, ys, rfl, rfl, SqT.of (r3.s _ _ e1), SqT.of (r3.s _ _ e2), by rw [h1.len, h2.len]; exact sz_of hl, fun z => ?_, fun _ z => ?_, fun _ _ p hp => ?_⟩
    · subst z
      cases h1
      exact q _ G3 H3 r3 he
    · subst z
      cases h2
      refine q _ G3 H3 r3 ?_
      rw [List.append_nil]
      exact hd.up r2.g
    · have n := Gr.new (o := .tup (xs ++ ys)) r3.s hp rfl
      exact q (.ref p) _ _ (r3.trans n) (.tup upd_same ((h1.app h2).up n.g))
/-- isinstance(x, T) -/
theorem ev_isi {T : String} {b : Bool} (h : EvD te σ G d) (hk : ∀ {H : Hp} {v : V}, Kd H v (kd d) → kitB (kd d) T = some b) : Ev (tCB (rIsi K) (tCons te (tCons (tC (.ty T)) tNil))) σ G (.bl b) := fun H1 x Q q => h G H1 (Ex.refl _) x _ fun v G2 H2 r hd =>
  ⟨v, .ty T, .type (kd d), .type T, b, rfl, .ty T, (hd.up r.s).kd.ty K, kit_ty (hk hd.kd), q H2 r.h⟩
theorem ev_isTup (h : EvD te σ G d) : Ev (tCB (rIsi K) (tCons te (tCons (tC (.ty "tuple")) tNil))) σ G (.bl (kd d == "tuple")) := ev_isi h fun k => k.tuple_
theorem ev_isStr (h : EvD te σ G d) : Ev (tCB (rIsi K) (tCons te (tCons (tC (.ty "str")) tNil))) σ G (.bl (kd d == "str")) := ev_isi h fun k => k.str_k
theorem ev_isBool (h : EvD te σ G d) : Ev (tCB (rIsi K) (tCons te (tCons (tC (.ty "bool")) tNil))) σ G (.bl (kd d == "bool")) := ev_isi h fun k => k.bool_
theorem ev_isInt (h : EvD te σ G d) : Ev (tCB (rIsi K) (tCons te (tCons (tC (.ty "int")) tNil))) σ G (.bl (kd d == "int" || kd d == "bool")) := by
  refine ev_isi h fun k => ?_
  cases d <;> (first | rfl | decide +kernel)
/-- len -/
theorem ev_lenT (h : EvD te σ G (.tuple ds)) : Ev (tCB (fun xs H Q => ∃ p ys, xs = [V.ref p] ∧ (SqL K H p ys ∨ SqT K H p ys) ∧ Q (.int ys.length) H) (tCons te tNil)) σ G (.int (ds.length : Int)) := fun H1 x Q q => h G H1 (Ex.refl _) x _ fun v G2 H2 r hd => by
  obtain ⟨a, xs, rfl, e, hs⟩ := hd.tup_
  refine ⟨a, xs, rfl, .inr (SqT.of (r.s _ _ e)), ?_⟩
  rw [hs.len]
  exact q H2 r.h
theorem ev_lenL (h : EvD te σ G (.list ds)) : Ev (tCB (fun xs H Q => ∃ p ys, xs = [V.ref p] ∧ (SqL K H p ys ∨ SqT K H p ys) ∧ Q (.int ys.length) H) (tCons te tNil)) σ G (.int (ds.length : Int)) := fun H1 x Q q => h G H1 (Ex.refl _) x _ fun v G2 H2 r hd => by
  obtain ⟨a, xs, rfl, e, hs⟩ := hd.lst_
  refine ⟨a, xs, rfl, .inl (SqL.of (r.s _ _ e)), ?_⟩
  rw [hs.len]
  exact q H2 r.h
/-! ### comprehensions -/
/-- what a comprehension has made: the list at D is behind the view -/
structure LcI (G1 H1 : Hp) (D : Addr) (H' : Hp) (ds : List PyData) : Prop where
  w : ∃ G' ys, Gr G1 H1 G' H' ∧ G' D = none ∧ H' D = some (.lst ys) ∧ DaAll G' ys ds
  fr : H1 D = none
theorem LcI.start {G1 H1 : Hp} {D : Addr} (s : Ex G1 H1) (hD : H1 D = none) : LcI G1 H1 D (upd H1 D (.lst [])) [] := by
  refine ⟨⟨G1, [], Gr.keep s (Ex.new hD), ?_, upd_same, .nil⟩, hD⟩
  cases e : G1 D with
  | none => rfl
  | some o => rw [s _ _ e] at hD; cases hD
theorem LcI.done {G1 H1 H' : Hp} {D : Addr} {ds : List PyData} (I : LcI G1 H1 D H' ds) : ∃ G2, Gr G1 H1 G2 H' ∧ Da G2 (.ref D) (.list ds) := by
  obtain ⟨G', ys, r, h1, h2, h3⟩ := I.w
  have x : Ex G' (upd G' D (.lst ys)) := Ex.new h1
  refine ⟨upd G' D (.lst ys), ⟨r.h, r.g.trans x, fun a o h => ?_, fun a e1 e2 => ?_, fun a o h => ?_⟩, .lst upd_same (h3.up x)⟩
  · by_cases e : a = D
    · subst e
      rw [upd_same] at h
      cases h
      exact h2
    · rw [upd_ne e] at h
      exact r.s _ _ h
  · rw [upd_ne (fun e => e1 (by rw [e]; exact I.fr))]
    exact r.n a e1 e2
  · by_cases e : a = D
    · subst e
      rw [upd_same] at h
      cases h
      exact .inr rfl
    · rw [upd_ne e] at h
      exact r.t a o h
/-- an element that is taken -/
theorem LcI.put {G1 H1 H' : Hp} {D : Addr} {ds : List PyData} {te : TE} {σ : L2.St} {d : PyData} {N : Hp → Prop} (I : LcI G1 H1 D H' ds) (hl : ds.length ≤ 50000) (he : EvD te σ G1 d) (k : ∀ H2, LcI G1 H1 D H2 (ds ++ [d]) → N H2) :
    te σ H' fun y H4 => ∃ acc, H4 D = some (.lst acc) ∧ acc.length < sizeLine ∧ N (upd H4 D (.lst (acc ++ [y]))) := by
  obtain ⟨G', ys, r, h1, h2, h3⟩ := I.w
  refine he G' H' r.g r.s _ fun v G2 H2 r2 hd => ⟨ys, r2.h _ _ h2, ?_, k _ ⟨⟨G2, ys ++ [v], ?_, ?_, upd_same, (h3.up r2.g).app (.cons hd .nil)⟩, I.fr⟩⟩
  · rw [h3.len]
    exact Nat.lt_of_le_of_lt hl (by decide)
  · have nD : G2 D = none := r2.n D (by rw [h2]; simp) h1
    have r3 := r.trans r2
    exact ⟨Ex.mut r3.h I.fr, r3.g, fun a o h => by rw [upd_ne (fun e => by rw [e, nD] at h; cases h)]; exact r3.s _ _ h, r3.n, r3.t⟩
  · exact r2.n D (by rw [h2]; simp) h1
theorem LcI.test {G1 H1 H' : Hp} {D : Addr} {ds : List PyData} {t : TT} {σ : L2.St} {b : Bool} {R : Bool → Hp → Prop} (I : LcI G1 H1 D H' ds) (h : EvT t σ G1 b) (k : ∀ H2, LcI G1 H1 D H2 ds → R b H2) : t σ H' R := by
  obtain ⟨G', ys, r, h1, h2, h3⟩ := I.w
  exact h H' (r.g.trans r.s) _ fun H2 x2 => k H2 ⟨⟨G', ys, r.trans (Gr.keep r.s x2), h1, x2 _ _ h2, h3⟩, I.fr⟩
theorem LcI.sub {G1 H1 H' : Hp} {D : Addr} {ds : List PyData} (I : LcI G1 H1 D H' ds) : Ex G1 H' := by
  obtain ⟨G', ys, r, _⟩ := I.w
  exact r.g.trans r.s
theorem take_da {α : Type} {ds : List α} {i : Nat} {d : α} (h : ds[i]? = some d) : ds.take (i + 1) = ds.take i ++ [d] := by
  rw [List.take_add_one, h]
  rfl
/-- one turn of a comprehension -/
theorem LcI.turn {α : Type} {G1 H1 H' : Hp} {D : Addr} {as : List α} {i : Nat} {x : α} {p : α → Bool} {f : α → PyData} {t : TT} {te : TE} {σ : L2.St} {N : Hp → Prop} (I : LcI G1 H1 D H' (((as.take i).filter p).map f)) (hi : as[i]? = some x) (hz : as.length ≤ 50000) (ht : EvT t σ G1 (p x)) (he : p x = true → EvD te σ G1 (f x))
    (k : ∀ H2, LcI G1 H1 D H2 (((as.take (i + 1)).filter p).map f) → N H2) : t σ H' fun b H3 => if b = true then te σ H3 fun y H4 => ∃ acc, H4 D = some (.lst acc) ∧ acc.length < sizeLine ∧ N (upd H4 D (.lst (acc ++ [y]))) else N H3 := by
  refine I.test ht fun H2 I2 => ?_
  have e : ((as.take (i + 1)).filter p).map f = ((as.take i).filter p).map f ++ (if p x = true then [f x] else []) := by
    rw [take_da hi, List.filter_append, List.map_append]
    cases hp : p x with
    | false => rw [List.filter_cons_of_neg (by rw [hp]; exact Bool.false_ne_true)]; rfl
    | true => rw [List.filter_cons_of_pos hp]; rfl
  cases hp : p x with
  | false =>
    rw [if_neg Bool.false_ne_true]
    refine k H2 ?_
    rw [e, hp, if_neg Bool.false_ne_true, List.append_nil]
    exact I2
  | true =>
    rw [if_pos rfl]
    refine I2.put ?_ (he hp) fun H3 I3 => k H3 ?_
    · rw [List.length_map]
      have := List.length_filter_le p (as.take i)
      have := List.length_take_le i as
      have := (List.getElem?_eq_some_iff.mp hi).1
      omega
    · rw [e, hp, if_pos rfl]
      exact I3
/-- [e for x in l if c], l a list of data, a tuple, a text -/
theorem evd_lcL {j : Nat} {vs : List Nat} (p : PyData → Bool) (f : PyData → PyData) (h : EvD tl σ G (.list ds)) (hz : ds.length ≤ 50000) (hw : ∀ x, wipe ((wipe σ vs).set j (some x)) vs = wipe σ vs)
    (ht : ∀ d ∈ ds, ∀ v G1, Ex G G1 → Da G1 v d → EvT t ((wipe σ vs).set j (some v)) G1 (p d)) (he : ∀ d ∈ ds, p d = true → ∀ v G1, Ex G G1 → Da G1 v d → EvD te ((wipe σ vs).set j (some v)) G1 (f d)) :
    EvD (tLc (iList K tl) (gName j) t te vs) σ G (.list ((ds.filter p).map f)) := fun G0 H0 x0 s0 Q q => h G0 H0 x0 s0 _ fun v0 G1 H1 r1 hd => by
  obtain ⟨a, xs, rfl, ea, hs⟩ := hd.lst_
  refine ⟨a, rfl, ⟨xs, SqL.of (r1.s _ _ ea)⟩, fun D hD => lc_list (K := K) (a := a) (xs := xs) (fun i H' => LcI G1 H1 D H' (((ds.take i).filter p).map f)) (LcI.start r1.s hD) (fun i H' _ I => SqL.of (I.sub _ _ ea)) ?_ ?_⟩
  · rintro i x H' hx I
    obtain ⟨d, hdi, hdv⟩ := hs.at hx
    have mem := List.mem_of_getElem? hdi
    exact ⟨hw x, I.turn hdi hz (ht d mem x G1 (x0.trans r1.g) hdv) (fun hp => he d mem hp x G1 (x0.trans r1.g) hdv) fun H2 I2 => I2⟩
  · rintro H' I
    rw [hs.len, List.take_length] at I
    obtain ⟨G2, r2, h2⟩ := I.done
    exact q (.ref D) G2 H' (r1.trans r2) h2
theorem evd_lcT {j : Nat} {vs : List Nat} (p : PyData → Bool) (f : PyData → PyData) (h : EvD tl σ G (.tuple ds)) (hz : ds.length ≤ 50000) (hw : ∀ x, wipe ((wipe σ vs).set j (some x)) vs = wipe σ vs)
    (ht : ∀ d ∈ ds, ∀ v G1, Ex G G1 → Da G1 v d → EvT t ((wipe σ vs).set j (some v)) G1 (p d)) (he : ∀ d ∈ ds, p d = true → ∀ v G1, Ex G G1 → Da G1 v d → EvD te ((wipe σ vs).set j (some v)) G1 (f d)) :
    EvD (tLc (iTup K tl) (gName j) t te vs) σ G (.list ((ds.filter p).map f)) := fun G0 H0 x0 s0 Q q => h G0 H0 x0 s0 _ fun v0 G1 H1 r1 hd => by
  obtain ⟨a, xs, rfl, ea, hs⟩ := hd.tup_
  refine ⟨a, rfl, ⟨xs, SqT.of (r1.s _ _ ea)⟩, fun D hD => lc_tup (K := K) (a := a) (xs := xs) (fun i H' => LcI G1 H1 D H' (((ds.take i).filter p).map f)) (LcI.start r1.s hD) (fun i H' _ I => SqT.of (I.sub _ _ ea)) ?_ ?_⟩
  · rintro i x H' hx I
    obtain ⟨d, hdi, hdv⟩ := hs.at hx
    have mem := List.mem_of_getElem? hdi
    exact ⟨hw x, I.turn hdi hz (ht d mem x G1 (x0.trans r1.g) hdv) (fun hp => he d mem hp x G1 (x0.trans r1.g) hdv) fun H2 I2 => I2⟩
  · rintro H' I
    rw [hs.len, List.take_length] at I
    obtain ⟨G2, r2, h2⟩ := I.done
    exact q (.ref D) G2 H' (r1.trans r2) h2
def sgn1 (c : Nat) : Str := ⟨#[c]⟩
theorem evd_lcS {j : Nat} {vs : List Nat} {z : Str} (p : Nat → Bool) (f : Nat → PyData) (h : EvD tl σ G (.str z)) (hw : ∀ x, wipe ((wipe σ vs).set j (some x)) vs = wipe σ vs)
    (ht : ∀ c ∈ z.cps.toList, EvT t ((wipe σ vs).set j (some (.str (sgn1 c)))) G (p c)) (he : ∀ c ∈ z.cps.toList, p c = true → EvD te ((wipe σ vs).set j (some (.str (sgn1 c)))) G (f c)) :
    EvD (tLc (iStr tl) (gName j) t te vs) σ G (.list ((z.cps.toList.filter p).map f)) := fun G0 H0 x0 s0 Q q => h G0 H0 x0 s0 _ fun v0 G1 H1 r1 hd => by
  obtain ⟨rfl, hl⟩ := hd.str_
  have hsz : z.cps.toList.length ≤ 1000 := hl
  have tg : ∀ {c : Nat}, c ∈ z.cps.toList → EvT t ((wipe σ vs).set j (some (.str (sgn1 c)))) G1 (p c) := fun hc H a Q q => ht _ hc H ((x0.trans r1.g).trans a) Q q
  refine ⟨z, rfl, fun D hD => lc_it (walk_str (z := z)) (fun i H' => LcI G1 H1 D H' (((z.cps.toList.take i).filter p).map f)) (LcI.start r1.s hD) (fun _ _ _ _ => trivial) ?_ ?_⟩
  · rintro i x H' H'' hi I ⟨rfl, c, hc, rfl⟩
    have hc' : z.cps.toList[i]? = some c := by rw [Array.getElem?_toList]; exact hc
    have mem := List.mem_of_getElem? hc'
    exact ⟨hw _, I.turn hc' (by omega) (tg mem) (fun hp => (he c mem hp).mono (x0.trans r1.g)) fun H2 I2 => I2⟩
  · rintro H' I
    rw [show z.cps.size = z.cps.toList.length from rfl, List.take_length] at I
    obtain ⟨G2, r2, h2⟩ := I.done
    exact q (.ref D) G2 H' (r1.trans r2) h2
theorem et_yes {b : Bool} : EvT tYes σ G true := fun H1 _ Q q => q H1 (Ex.refl _)
/-- all([..]) -/
theorem da_bools {H : Hp} {vs : List V} {bs : List Bool} (h : DaAll H vs (bs.map PyData.bool)) : vs = bs.map V.bl := by
  induction bs generalizing vs with
  | nil => cases h; rfl
  | cons b bs ih => cases h with | cons h t => rw [h.bl_, ih t]; rfl
theorem da_ints {H : Hp} {vs : List V} {is : List Int} (h : DaAll H vs (is.map PyData.int)) : vs = is.map V.int := by
  induction is generalizing vs with
  | nil => cases h; rfl
  | cons b bs ih => cases h with | cons h t => rw [h.int_, ih t]; rfl
theorem ev_allD {bs : List Bool} (h : EvD te σ G (.list (bs.map PyData.bool))) : Ev (tCB (rAll K) (tCons te tNil)) σ G (.bl (bs.all id)) := fun H1 x Q q => h G H1 (Ex.refl _) x _ fun v G2 H2 r hd => by
  obtain ⟨a, xs, rfl, e, hs⟩ := hd.lst_
  cases da_bools hs
  exact ⟨a, bs, rfl, SqL.of (r.s _ _ e), q H2 r.h⟩
/-! ### calls: a promise by a plain function on data -/
def spF (F : List PyData → Option PyData) : Sp := fun vs H Q _ => ∃ G ds d, Ex G H ∧ DaAll G vs ds ∧ F ds = some d ∧ ∀ v G' H', Gr G H G' H' → Da G' v d → Q v H'
theorem evd_call {F : List PyData → Option PyData} {E : XK} (h : EvDs tA σ G ds) (hf : F ds = some d) : EvD (tCallD (spF F) E tA) σ G d := fun G1 H1 x s Q q => h G1 H1 x s _ fun vs G2 H2 r hds =>
  ⟨G2, ds, d, r.s, hds, hf, fun v G3 H3 r3 hd => q v G3 H3 (r.trans r3) hd⟩
/-! ### statements -/
variable {D : Ends} {tz tu tw : TS}
theorem q_asgD {i : Nat} (s : Ex G H) (h : EvD te σ G d) (k : ∀ v G1 H1, Gr G H G1 H1 → Da G1 v d → tz D (σ.set i (some v)) H1) : tSeq (tAsg te (gName i)) tz D σ H := h.go s k
theorem s_retD (s : Ex G H) (h : EvD te σ G d) (k : ∀ v G1 H1, Gr G H G1 H1 → Da G1 v d → D.rt v H1) : tRet te D σ H := h.go s k
theorem q_ifD {b : Bool} (s : Ex G H) (h : EvT t σ G b) (h1 : b = true → ∀ H1, Ex H H1 → tu { D with nx := tz D } σ H1) (h2 : b = false → ∀ H1, Ex H H1 → tw { D with nx := tz D } σ H1) : tSeq (tIfS t tu tw) tz D σ H := h H s _ fun H1 x => by
  cases b with
  | true =>
    show tu { D with nx := tz D } σ H1
    exact h1 rfl H1 x
  | false =>
    show tw { D with nx := tz D } σ H1
    exact h2 rfl H1 x
end
end Lf
set_option maxHeartbeats 4000000
/-! What is drawn: an expression that turns the wheel at L (a list that the view does not know) and evaluates to some data of which P holds -/
namespace Lf
open PySem L2 Evl
def ExB (L : Addr) (H H' : Hp) : Prop := ∀ a o, a ≠ L → H a = some o → H' a = some o
section
variable {Lm : List V → Prop} {L : Addr} {G H G1 H1 G2 H2 : Hp}
theorem ExB.refl : ExB L H H := fun _ _ _ h => h
theorem ExB.trans (a : ExB L H H1) (b : ExB L H1 H2) : ExB L H H2 := fun x o n h => b x o n (a x o n h)
theorem ExB.of (x : Ex H H1) : ExB L H H1 := fun a o _ h => x a o h
end
/-- the wheel at L, behind the view -/
structure At (Lm : List V → Prop) (L : Addr) (G H : Hp) : Prop where
  s : Ex G H
  f : G L = none
  l : ∃ xs, H L = some (.lst xs) ∧ Lm xs
structure GrB (Lm : List V → Prop) (L : Addr) (G H G' H' : Hp) : Prop where
  h : ExB L H H'
  g : Ex G G'
  n : ∀ a, H a ≠ none → G a = none → G' a = none
  t : ∀ a o, G' a = some o → G a = some o ∨ dataO o = true
  w : At Lm L G' H'
section
variable {Lm : List V → Prop} {L : Addr} {G H G1 H1 G2 H2 : Hp}
theorem At.up (w : At Lm L G H) (x : Ex H H1) : At Lm L G H1 := ⟨w.s.trans x, w.f, let ⟨xs, h, m⟩ := w.l; ⟨xs, x _ _ h, m⟩⟩
theorem At.some_ (w : At Lm L G H) : H L ≠ none := by
  obtain ⟨xs, h, _⟩ := w.l
  rw [h]
  exact fun z => by cases z
theorem GrB.of (w : At Lm L G H) (r : Gr G H G1 H1) : GrB Lm L G H G1 H1 := ⟨ExB.of r.h, r.g, r.n, r.t, r.s, r.n L w.some_ w.f, let ⟨xs, h, m⟩ := w.l; ⟨xs, r.h _ _ h, m⟩⟩
theorem GrB.refl (w : At Lm L G H) : GrB Lm L G H G H := GrB.of w (Gr.refl w.s)
theorem GrB.keep (w : At Lm L G H) (x : Ex H H1) : GrB Lm L G H G H1 := GrB.of w (Gr.keep w.s x)
theorem GrB.s (r : GrB Lm L G H G1 H1) : Ex G1 H1 := r.w.s
theorem GrB.trans (a : GrB Lm L G H G1 H1) (b : GrB Lm L G1 H1 G2 H2) : GrB Lm L G H G2 H2 := by
  refine ⟨a.h.trans b.h, a.g.trans b.g, fun c h1 h2 => b.n c (fun z => ?_) (a.n c h1 h2), fun c o h => ?_, b.w⟩
  · by_cases e : c = L
    · subst e
      exact a.w.some_ z
    · cases e2 : H c with
      | none => exact h1 e2
      | some o => rw [a.h _ _ e e2] at z; cases z
  · rcases b.t c o h with h | h
    · exact a.t c o h
    · exact .inr h
theorem GrB.gr (a : GrB Lm L G H G1 H1) (b : Gr G1 H1 G2 H2) : GrB Lm L G H G2 H2 := a.trans (GrB.of a.w b)
/-- the wheel turns -/
theorem GrB.turn (w : At Lm L G H) {xs : List V} (m : Lm xs) : GrB Lm L G H G (upd H L (.lst xs)) := by
  refine ⟨fun a o n h => by rw [upd_ne n]; exact h, Ex.refl _, fun _ _ h => h, fun _ _ h => .inl h, Ex.mut w.s w.f, w.f, xs, upd_same, m⟩
/-- an object that the view does not know may change -/
theorem GrB.mut {p : Addr} {o : HO} (r : GrB Lm L G H G1 H1) (hp : G p = none) (hh : H p ≠ none) (ne : p ≠ L) : At Lm L G1 (upd H1 p o) := by
  refine ⟨fun a u h => ?_, r.w.f, ?_⟩
  · rw [upd_ne (fun e => by rw [e, r.n p hh hp] at h; cases h)]
    exact r.s _ _ h
  · obtain ⟨xs, h, m⟩ := r.w.l
    exact ⟨xs, by rw [upd_ne (Ne.symm ne)]; exact h, m⟩
end
def Dr (Lm : List V → Prop) (L : Addr) (te : TE) (σ : L2.St) (G : Hp) (P : PyData → Prop) : Prop := ∀ G1 H1, Ex G G1 → At Lm L G1 H1 → ∀ Q : VK, (∀ v d G2 H2, GrB Lm L G1 H1 G2 H2 → P d → Da G2 v d → Q v H2) → te σ H1 Q
def DrS (Lm : List V → Prop) (L : Addr) (ta : TA) (σ : L2.St) (G : Hp) (R : List PyData → Prop) : Prop := ∀ G1 H1, Ex G G1 → At Lm L G1 H1 → ∀ Q : List V → Hp → Prop, (∀ vs ds G2 H2, GrB Lm L G1 H1 G2 H2 → R ds → DaAll G2 vs ds → Q vs H2) → ta σ H1 Q
/-- a test that comes out one way or the other -/
def DrT (Lm : List V → Prop) (L : Addr) (t : TT) (σ : L2.St) (G : Hp) (B : Bool → Prop) : Prop := ∀ G1 H1, Ex G G1 → At Lm L G1 H1 → ∀ Q : Bool → Hp → Prop, (∀ b G2 H2, GrB Lm L G1 H1 G2 H2 → B b → Q b H2) → t σ H1 Q
def isI (P : Int → Prop) (d : PyData) : Prop := ∃ i, d = .int i ∧ P i
def isB (P : Bool → Prop) (d : PyData) : Prop := ∃ i, d = .bool i ∧ P i
section
variable {K : PySem.W.Frag} {Lm : List V → Prop} {L : Addr} {σ : L2.St} {G G' H : Hp} {ta tb te tl : TE} {t u : TT} {tA tr : TA} {d e : PyData} {ds es : List PyData} {v : V} {P P' : PyData → Prop} {R R' : List PyData → Prop} {B : Bool → Prop}
theorem Dr.mono (x : Ex G G') (h : Dr Lm L te σ G P) : Dr Lm L te σ G' P := fun G1 H1 a w Q q => h G1 H1 (x.trans a) w Q q
theorem Dr.imp (h : Dr Lm L te σ G P) (i : ∀ d, P d → P' d) : Dr Lm L te σ G P' := fun G1 H1 a w Q q => h G1 H1 a w Q fun v d G2 H2 r p hd => q v d G2 H2 r (i d p) hd
theorem DrS.imp (h : DrS Lm L tA σ G R) (i : ∀ d, R d → R' d) : DrS Lm L tA σ G R' := fun G1 H1 a w Q q => h G1 H1 a w Q fun v d G2 H2 r p hd => q v d G2 H2 r (i d p) hd
theorem Dr.go (h : Dr Lm L te σ G P) (w : At Lm L G H) {Q : VK} (k : ∀ v d G2 H2, GrB Lm L G H G2 H2 → P d → Da G2 v d → Q v H2) : te σ H Q := h G H (Ex.refl _) w Q k
theorem dr_of (h : EvD te σ G d) : Dr Lm L te σ G (fun z => z = d) := fun G1 H1 a w Q q => h G1 H1 a w.s Q fun v G2 H2 r hd => q v d G2 H2 (GrB.of w r) rfl hd
theorem dr_int {i : Int} (h : Ev te σ G (.int i)) : Dr Lm L te σ G (isI fun z => z = i) := (dr_of (evd_int h)).imp fun d e => ⟨i, e, rfl⟩
theorem drs_of (h : EvDs tA σ G ds) : DrS Lm L tA σ G (fun z => z = ds) := fun G1 H1 a w Q q => h G1 H1 a w.s Q fun v G2 H2 r hd => q v ds G2 H2 (GrB.of w r) rfl hd
theorem drs_nil : DrS Lm L tNil σ G (fun ds => ds = []) := fun G1 H1 _ w Q q => q [] [] G1 H1 (GrB.refl w) rfl .nil
theorem drs_cons (h : Dr Lm L te σ G P) (hr : DrS Lm L tr σ G R) : DrS Lm L (tCons te tr) σ G (fun ds => ∃ d r, ds = d :: r ∧ P d ∧ R r) := fun G1 H1 x w Q q => h G1 H1 x w _ fun v d G2 H2 r p hd => hr G2 H2 (x.trans r.g) r.w _ fun vs ds G3 H3 r2 p2 hds => q (v :: vs) (d :: ds) G3 H3 (r.trans r2) ⟨d, ds, rfl, p, p2⟩ (.cons (hd.up r2.g) hds)
theorem dr_tup (h : DrS Lm L tA σ G R) (hl : ∀ ds, R ds → ds.length ≤ 100000) : Dr Lm L (tTup tA) σ G (fun d => ∃ ds, d = .tuple ds ∧ R ds) := fun G1 H1 x w Q q => h G1 H1 x w _ fun vs ds G2 H2 r p hds =>
  ⟨by rw [hds.len]; exact sz_of (hl _ p), fun a ha => have n := Gr.new (o := .tup vs) r.s ha rfl; q (.ref a) _ _ _ (r.gr n) ⟨ds, rfl, p⟩ (.tup upd_same (hds.up n.g))⟩
theorem dr_lst (h : DrS Lm L tA σ G R) (hl : ∀ ds, R ds → ds.length ≤ 100000) : Dr Lm L (tLst tA) σ G (fun d => ∃ ds, d = .list ds ∧ R ds) := fun G1 H1 x w Q q => h G1 H1 x w _ fun vs ds G2 H2 r p hds =>
  ⟨by rw [hds.len]; exact sz_of (hl _ p), fun a ha => have n := Gr.new (o := .lst vs) r.s ha rfl; q (.ref a) _ _ _ (r.gr n) ⟨ds, rfl, p⟩ (.lst upd_same (hds.up n.g))⟩
/-- l[i], i drawn -/
theorem dr_ixL (ha : Dr Lm L ta σ G (fun z => z = .list ds)) {B : Int → Prop} (hb : Dr Lm L tb σ G (isI B)) (hi : ∀ i, B i → 0 ≤ i ∧ i < ds.length) : Dr Lm L (tOp (rIxL K) ta tb) σ G (fun d => d ∈ ds) := fun G1 H1 x w Q q => ha G1 H1 x w _ fun v d G2 H2 r e hd => hb G2 H2 (x.trans r.g) r.w _ fun v2 d2 G3 H3 r3 ⟨i, ei, hB⟩ hd2 => by
  subst e
  subst ei
  obtain ⟨a, xs, rfl, e, hs⟩ := (hd.up r3.g).lst_
  cases hd2.int_
  obtain ⟨h0, h1⟩ := hi i hB
  have hn : i = ((i.toNat : Nat) : Int) := by omega
  have hd3 : ds[i.toNat]? = some ds[i.toNat] := List.getElem?_eq_getElem (by omega)
  obtain ⟨w3, hw, hdw⟩ := hs.get hd3
  refine ⟨a, xs, i, w3, rfl, rfl, SqL.of (r3.s _ _ e), ?_, q w3 _ G3 H3 (r.trans r3) (List.mem_of_getElem? hd3) hdw⟩
  rw [hn]
  exact atI_nat hw
/-- a one-place operation on ints, a two-place one -/
theorem dr_opI {f : Int → Int → Int} {A B : Int → Prop} (ha : Dr Lm L ta σ G (isI A)) (hb : Dr Lm L tb σ G (isI B)) : Dr Lm L (tOp (rI0 fun i j => .int (f i j)) ta tb) σ G (isI fun k => ∃ i j, A i ∧ B j ∧ k = f i j) := fun G1 H1 x w Q q => ha G1 H1 x w _ fun v d G2 H2 r ⟨i, ei, hA⟩ hd => hb G2 H2 (x.trans r.g) r.w _ fun v2 d2 G3 H3 r3 ⟨j, ej, hB⟩ hd2 => by
  subst ei
  subst ej
  cases hd.int_
  cases hd2.int_
  exact ⟨i, j, rfl, rfl, q _ _ G3 H3 (r.trans r3) ⟨_, rfl, i, j, hA, hB, rfl⟩ (.int _)⟩
theorem dr_opC {C : Int → Int → Prop} {f : Int → Int → Int} {A B : Int → Prop} (ha : Dr Lm L ta σ G (isI A)) (hb : Dr Lm L tb σ G (isI B)) (hc : ∀ i j, A i → B j → C i j) : Dr Lm L (tOp (rI C fun i j => .int (f i j)) ta tb) σ G (isI fun k => ∃ i j, A i ∧ B j ∧ k = f i j) := fun G1 H1 x w Q q => ha G1 H1 x w _ fun v d G2 H2 r ⟨i, ei, hA⟩ hd => hb G2 H2 (x.trans r.g) r.w _ fun v2 d2 G3 H3 r3 ⟨j, ej, hB⟩ hd2 => by
  subst ei
  subst ej
  cases hd.int_
  cases hd2.int_
  exact ⟨i, j, rfl, rfl, hc i j hA hB, q _ _ G3 H3 (r.trans r3) ⟨_, rfl, i, j, hA, hB, rfl⟩ (.int _)⟩
theorem dr_cmpI {f : Int → Int → Bool} {A B : Int → Prop} (ha : Dr Lm L ta σ G (isI A)) (hb : Dr Lm L tb σ G (isI B)) : Dr Lm L (tOp (rI0 fun i j => .bl (f i j)) ta tb) σ G (isB fun k => ∃ i j, A i ∧ B j ∧ k = f i j) := fun G1 H1 x w Q q => ha G1 H1 x w _ fun v d G2 H2 r ⟨i, ei, hA⟩ hd => hb G2 H2 (x.trans r.g) r.w _ fun v2 d2 G3 H3 r3 ⟨j, ej, hB⟩ hd2 => by
  subst ei
  subst ej
  cases hd.int_
  cases hd2.int_
  exact ⟨i, j, rfl, rfl, q _ _ G3 H3 (r.trans r3) ⟨_, rfl, i, j, hA, hB, rfl⟩ (.bl _)⟩
theorem dr_eqI {A B : Int → Prop} (ha : Dr Lm L ta σ G (isI A)) (hb : Dr Lm L tb σ G (isI B)) : Dr Lm L (tOp rEq ta tb) σ G (isB fun k => ∃ i j, A i ∧ B j ∧ k = decide (i = j)) := fun G1 H1 x w Q q => ha G1 H1 x w _ fun v d G2 H2 r ⟨i, ei, hA⟩ hd => hb G2 H2 (x.trans r.g) r.w _ fun v2 d2 G3 H3 r3 ⟨j, ej, hB⟩ hd2 => by
  subst ei
  subst ej
  cases hd.int_
  cases hd2.int_
  refine ⟨rfl, q _ (.bool (decide (i = j))) G3 H3 (r.trans r3) ⟨_, rfl, i, j, hA, hB, rfl⟩ ?_⟩
  have : decide (V.int i = V.int j) = decide (i = j) := by rw [decide_eq_decide]; simp
  rw [this]
  exact .bl _
theorem drt_test (h : Dr Lm L te σ G (isB B)) : DrT Lm L (tTest te) σ G B := fun G1 H1 x w Q q => h G1 H1 x w _ fun v d G2 H2 r ⟨b, e, hb⟩ hd => by
  subst e
  cases hd.bl_
  exact ⟨b, rfl, q b G2 H2 r hb⟩
theorem drt_of {b : Bool} (h : EvT t σ G b) : DrT Lm L t σ G (fun z => z = b) := fun G1 H1 x w Q q => h H1 (x.trans w.s) _ fun H2 x2 => q b G1 H2 (GrB.keep w x2) rfl
theorem DrT.imp {B' : Bool → Prop} (h : DrT Lm L t σ G B) (i : ∀ b, B b → B' b) : DrT Lm L t σ G B' := fun G1 H1 x w Q q => h G1 H1 x w Q fun b G2 H2 r hb => q b G2 H2 r (i b hb)
theorem drt_and {B' : Bool → Prop} (h : DrT Lm L t σ G B) (h2 : B true → DrT Lm L u σ G B') : DrT Lm L (tAnd t u) σ G (fun z => (z = true ∧ B true ∧ B' true) ∨ (z = false ∧ (B false ∨ (B true ∧ B' false)))) := fun G1 H1 x w Q q => h G1 H1 x w _ fun b G2 H2 r hb => by
  cases b with
  | false => exact q false G2 H2 r (.inr ⟨rfl, .inl hb⟩)
  | true =>
    show u σ H2 Q
    refine h2 hb G2 H2 (x.trans r.g) r.w _ fun c G3 H3 r3 hc => ?_
    cases c with
    | true => exact q true G3 H3 (r.trans r3) (.inl ⟨rfl, hb, hc⟩)
    | false => exact q false G3 H3 (r.trans r3) (.inr ⟨rfl, .inr ⟨hb, hc⟩⟩)
theorem drt_or {B' : Bool → Prop} (h : DrT Lm L t σ G B) (h2 : B false → DrT Lm L u σ G B') : DrT Lm L (tOr t u) σ G (fun z => (z = false ∧ B false ∧ B' false) ∨ (z = true ∧ (B true ∨ (B false ∧ B' true)))) := fun G1 H1 x w Q q => h G1 H1 x w _ fun b G2 H2 r hb => by
  cases b with
  | true => exact q true G2 H2 r (.inr ⟨rfl, .inl hb⟩)
  | false =>
    show u σ H2 Q
    refine h2 hb G2 H2 (x.trans r.g) r.w _ fun c G3 H3 r3 hc => ?_
    cases c with
    | false => exact q false G3 H3 (r.trans r3) (.inl ⟨rfl, hb, hc⟩)
    | true => exact q true G3 H3 (r.trans r3) (.inr ⟨rfl, .inr ⟨hb, hc⟩⟩)
theorem drt_not (h : DrT Lm L t σ G B) : DrT Lm L (tNot t) σ G (fun z => B (!z)) := fun G1 H1 x w Q q => h G1 H1 x w _ fun b G2 H2 r hb => q (!b) G2 H2 r (show B (!!b) by rw [Bool.not_not]; exact hb)
theorem dr_if (h : DrT Lm L t σ G B) (h1 : B true → Dr Lm L ta σ G P) (h2 : B false → Dr Lm L tb σ G P) : Dr Lm L (tIf t ta tb) σ G P := fun G1 H1 x w Q q => h G1 H1 x w _ fun b G2 H2 r hb => by
  cases b with
  | true =>
    show ta σ H2 Q
    exact h1 hb G2 H2 (x.trans r.g) r.w Q fun v d G3 H3 r3 p hd => q v d G3 H3 (r.trans r3) p hd
  | false =>
    show tb σ H2 Q
    exact h2 hb G2 H2 (x.trans r.g) r.w Q fun v d G3 H3 r3 p hd => q v d G3 H3 (r.trans r3) p hd
/-- a + b of tuples, tuple(l), list(t) -/
theorem dr_cat (ha : Dr Lm L ta σ G (fun d => ∃ ds, d = .tuple ds ∧ R ds)) (hb : Dr Lm L tb σ G (fun d => ∃ ds, d = .tuple ds ∧ R' ds)) (hl : ∀ ds es, R ds → R' es → ds.length + es.length ≤ 100000) : Dr Lm L (tOp (rCatA K) ta tb) σ G (fun d => ∃ ds es, d = .tuple (ds ++ es) ∧ R ds ∧ R' es) := fun G1 H1 x w Q q =>
  ha G1 H1 x w _ fun v d G2 H2 r ⟨ds, e1, p1⟩ hd => hb G2 H2 (x.trans r.g) r.w _ fun w' d' G3 H3 r2 ⟨es, e2, p2⟩ he => by
    subst e1
    subst e2
    obtain ⟨a, xs, rfl, e1, h1⟩ := (hd.up r2.g).tup_
    obtain ⟨b, ys, rfl, e2, h2⟩ := he.tup_
    have r3 := r.trans r2
    refine ⟨a, b, xs, ys, rfl, rfl, SqT.of (r3.s _ _ e1), SqT.of (r3.s _ _ e2), by rw [h1.len, h2.len]; exact sz_of (hl _ _ p1 p2), fun z => ?_, fun _ z => ?_, fun _ _ p hp => ?_⟩
    · subst z
      cases h1
      exact q _ _ G3 H3 r3 ⟨[], es, rfl, p1, p2⟩ he
    · subst z
      cases h2
      refine q _ _ G3 H3 r3 ⟨ds, [], rfl, p1, p2⟩ ?_
      rw [List.append_nil]
      exact hd.up r2.g
    · have n := Gr.new (o := .tup (xs ++ ys)) r3.s hp rfl
      exact q (.ref p) _ _ _ (r3.gr n) ⟨ds, es, rfl, p1, p2⟩ (.tup upd_same ((h1.app h2).up n.g))
/-- a call of a def that draws -/
def spDr (Lm : List V → Prop) (Pre : List PyData → Prop) (Post : List PyData → PyData → Prop) : Sp := fun vs H Q _ => ∃ L G us ds, vs = .ref L :: us ∧ At Lm L G H ∧ DaAll G us ds ∧ Pre ds ∧ ∀ v d G' H', GrB Lm L G H G' H' → Post ds d → Da G' v d → Q v H'
theorem spDr_len {Pre : List PyData → Prop} {Post : List PyData → PyData → Prop} {n : Nat} (hp : ∀ ds, Pre ds → ds.length = n) {vs : List V} {Q : VK} {E : XK} (h : spDr Lm Pre Post vs H Q E) : vs.length = n + 1 := by
  obtain ⟨L, G, us, ds, rfl, _, h2, h3, _⟩ := h
  rw [List.length_cons, h2.len, hp ds h3]
theorem dr_call {Pre : List PyData → Prop} {Post : List PyData → PyData → Prop} {i : Nat} {E : XK} (hL : σ[i]? = some (some (.ref L))) (h : DrS Lm L tA σ G R) (hp : ∀ ds, R ds → Pre ds) : Dr Lm L (tCallD (spDr Lm Pre Post) E (tCons (tVar i) tA)) σ G (fun d => ∃ ds, R ds ∧ Post ds d) := fun G1 H1 x w Q q =>
  ⟨_, hL, h G1 H1 x w _ fun vs ds G2 H2 r p hds => ⟨L, G2, vs, ds, rfl, r.w, hds, hp ds p, fun v d G3 H3 r3 po hd => q v d G3 H3 (r.trans r3) ⟨ds, p, po⟩ hd⟩⟩
/-- [e for x in range(n)], e drawn -/
theorem dr_lcR {j : Nat} {vs : List Nat} {ta : TA} {n : Int} (h : DrS Lm L ta σ G (fun ds => ds = [.int n])) (hn : 0 ≤ n ∧ n ≤ 10000) (hw : ∀ x, wipe ((wipe σ vs).set j (some x)) vs = wipe σ vs)
    (he : ∀ (i : Nat) G1, Ex G G1 → Dr Lm L te ((wipe σ vs).set j (some (.int (0 + (i : Int))))) G1 P) : Dr Lm L (tLc (iRng1 ta) (gName j) tYes te vs) σ G (fun d => ∃ ds, d = .list ds ∧ (ds.length : Int) = n ∧ ∀ d ∈ ds, P d) := fun G1 H1 x w Q q => h G1 H1 x w _ fun us ds G2 H2 r e hds => by
  subst e
  cases hds with
  | cons h0 t =>
    cases t
    cases h0.int_
    refine ⟨n, rfl, by omega, by omega, fun D hD => ?_⟩
    have gD : G2 D = none := by
      cases e : G2 D with
      | none => rfl
      | some o => rw [r.s _ _ e] at hD; cases hD
    have ne : D ≠ L := fun e => r.w.some_ (by rw [← e]; exact hD)
    refine lc_range (lo := 0) (n := n.toNat) (fun i H' => ∃ G' ys ds, GrB Lm L G2 H2 G' H' ∧ G' D = none ∧ H' D = some (.lst ys) ∧ DaAll G' ys ds ∧ ds.length = i ∧ ∀ d ∈ ds, P d) ⟨G2, [], [], GrB.keep r.w (Ex.new hD), gD, upd_same, .nil, rfl, fun d h => by cases h⟩ ?_ ?_
    · rintro i H' hi ⟨G', ys, ds, r3, e3, e4, h3, hl, hP⟩
      refine ⟨hw _, ?_⟩
      refine he i G' ((x.trans r.g).trans r3.g) G' H' (Ex.refl _) r3.w _ fun v d G4 H4 r4 p hd => ⟨ys, r4.h _ _ ne e4, ?_, ?_⟩
      · rw [h3.len, hl]
        exact Nat.lt_of_lt_of_le (by omega : i < 100000) (by decide)
      · have nD : G4 D = none := r4.n D (by rw [e4]; exact fun z => by cases z) e3
        have r5 := r3.trans r4
        refine ⟨G4, ys ++ [v], ds ++ [d], ⟨fun a o na ha => ?_, r5.g, r5.n, r5.t, Ex.mut r5.s nD, r5.w.f, ?_⟩, nD, upd_same, (h3.up r4.g).app (.cons hd .nil), by rw [List.length_append, hl]; rfl, fun z hz => ?_⟩
        · rw [upd_ne (fun e => by rw [e, hD] at ha; cases ha)]
          exact r5.h _ _ na ha
        · obtain ⟨xs, h, m⟩ := r5.w.l
          exact ⟨xs, by rw [upd_ne (Ne.symm ne)]; exact h, m⟩
        · rcases List.mem_append.mp hz with hz | hz
          · exact hP z hz
          · cases List.mem_singleton.mp hz
            exact p
    · rintro H' ⟨G', ys, ds, r3, e3, e4, h3, hl, hP⟩
      have xx : Ex G' (upd G' D (.lst ys)) := Ex.new e3
      refine q (.ref D) (.list ds) (upd G' D (.lst ys)) H' (r.trans ⟨r3.h, r3.g.trans xx, fun a e1 e2 => ?_, fun a o h => ?_, fun a o h => ?_, ?_, r3.w.l⟩) ⟨ds, rfl, by rw [hl]; omega, hP⟩ (.lst upd_same (h3.up xx))
      · rw [upd_ne (fun e => e1 (by rw [e]; exact hD))]
        exact r3.n a e1 e2
      · by_cases e : a = D
        · subst e
          rw [upd_same] at h
          cases h
          exact .inr rfl
        · rw [upd_ne e] at h
          exact r3.t a o h
      · by_cases e : a = D
        · subst e
          rw [upd_same] at h
          cases h
          exact e4
        · rw [upd_ne e] at h
          exact r3.s _ _ h
      · rw [upd_ne (Ne.symm ne)]
        exact r3.w.f
/-! ### statements -/
variable {D : Ends} {tz tu tw : TS}
theorem q_asgR {i : Nat} (w : At Lm L G H) (h : Dr Lm L te σ G P) (k : ∀ v d G1 H1, GrB Lm L G H G1 H1 → P d → Da G1 v d → tz D (σ.set i (some v)) H1) : tSeq (tAsg te (gName i)) tz D σ H := h.go w k
theorem s_retR (w : At Lm L G H) (h : Dr Lm L te σ G P) (k : ∀ v d G1 H1, GrB Lm L G H G1 H1 → P d → Da G1 v d → D.rt v H1) : tRet te D σ H := h.go w k
theorem q_ifR (w : At Lm L G H) (h : DrT Lm L t σ G B) (h1 : B true → ∀ G1 H1, GrB Lm L G H G1 H1 → tu { D with nx := tz D } σ H1) (h2 : B false → ∀ G1 H1, GrB Lm L G H G1 H1 → tw { D with nx := tz D } σ H1) : tSeq (tIfS t tu tw) tz D σ H := h G H (Ex.refl _) w _ fun b G1 H1 r hb => by
  cases b with
  | true =>
    show tu { D with nx := tz D } σ H1
    exact h1 hb G1 H1 r
  | false =>
    show tw { D with nx := tz D } σ H1
    exact h2 hb G1 H1 r
theorem q_parR {i j : Nat} (w : At Lm L G H) (h : DrS Lm L tA σ G R) (k : ∀ v1 v2 d1 d2 G1 H1, GrB Lm L G H G1 H1 → R [d1, d2] → Da G1 v1 d1 → Da G1 v2 d2 → tz D ((σ.set i (some v1)).set j (some v2)) H1) (hl : ∀ ds, R ds → ds.length = 2) : tSeq (tPar i j tA) tz D σ H := h G H (Ex.refl _) w _ fun vs ds G1 H1 r p hds => by
  match ds, hds, p, hl ds p with
  | [d1, d2], .cons h1 (.cons h2 .nil), p, _ => exact ⟨_, _, rfl, k _ _ d1 d2 G1 H1 r p h1 h2⟩
/-- a, b = e -/
theorem q_unpR {i j : Nat} (w : At Lm L G H) (h : Dr Lm L te σ G P) (hP : ∀ d, P d → ∃ d1 d2, d = .tuple [d1, d2]) (k : ∀ v1 v2 d1 d2 G1 H1, GrB Lm L G H G1 H1 → P (.tuple [d1, d2]) → Da G1 v1 d1 → Da G1 v2 d2 → tz D ((σ.set i (some v1)).set j (some v2)) H1) :
    tSeq (tAsg te (gTup K 2 (gCons (gName i) (gCons (gName j) gNil)))) tz D σ H := h.go w fun v d G1 H1 r p hd => by
  obtain ⟨d1, d2, rfl⟩ := hP d p
  obtain ⟨a, xs, rfl, e, hs⟩ := hd.tup_
  match xs, hs with
  | [v1, v2], .cons h1 (.cons h2 .nil) => exact ⟨a, [v1, v2], rfl, SqT.of (r.s _ _ e), rfl, v1, [v2], rfl, v2, [], rfl, rfl, k v1 v2 d1 d2 G1 H1 r p h1 h2⟩
end
end Lf
namespace L2
open PySem PySem.Spec PyProof.Rows
/-- a promise holds where more room is asked for -/
theorem ok_lvl {P : Program} {w : World} {K : PySem.W.Frag} {mg : Str → Option Value} {base : Heap} {CX : CXT} {k n : Nat} {x : Str} {ps : List Str} {sp : Sp} (D : DefOk P w K mg base CX k x ps sp) (h : k ≤ n) : DefOk P w K mg base CX n x ps sp := by
  obtain ⟨f, fd, hm, hk, hb, F⟩ := D
  exact ⟨f, fd, hm, hk, hb, ⟨F.len, fun A outer s H args us vs Q E hr => F.run A outer s H args us vs Q E (hr.mono h)⟩⟩
end L2
set_option maxHeartbeats 4000000
/-! x == 'text', x != 'text' of a value of any kind; t == (), t != () of a tuple of anything -/
namespace LfQ
open PySem PySem.SeqAt PySem.MeetsSeq
open AutoSeq1 (wpAny_loadPart')
section
variable {A : Around} {s : Shared}
theorem dict_eq_str (l : Addr) (o : Obj) (hc : o.cls = .type "dict") (b : Str) (u : Tok) : Meets (Builtin.«dict.__eq__» ⟨[.ref l, .str b u], []⟩) (fun _ R s => s.heap.get? l = some o ∧ R (.ok (.ret .notImplemented)) s) :=
  .of_wp fun prog w A R s h => by obtain ⟨hp, g, d, tk, os⟩ := s; obtain ⟨hl, h⟩ := h; have f1 := F.sub_str_dict; wp_walk using wpAny_loadPart' hl, wpAny_load hl; exact ⟨_, rfl, h⟩
theorem dict_ne_str (l : Addr) (o : Obj) (hc : o.cls = .type "dict") (b : Str) (u : Tok) : Meets (Builtin.«dict.__ne__» ⟨[.ref l, .str b u], []⟩) (fun _ R s => s.heap.get? l = some o ∧ R (.ok (.ret .notImplemented)) s) :=
  .of_wp fun prog w A R s h => by obtain ⟨hp, g, d, tk, os⟩ := s; obtain ⟨hl, h⟩ := h; have f1 := F.sub_str_dict; wp_walk using wpAny_loadPart' hl, wpAny_load hl; exact ⟨_, rfl, h⟩
theorem str_eq_dict (l : Addr) (o : Obj) (es : Array DictEntry) (n : Nat) (hd : o.data = .dict es n) (b : Str) (u : Tok) : Meets (Builtin.«str.__eq__» ⟨[.str b u, .ref l], []⟩) (fun _ R s => s.heap.get? l = some o ∧ R (.ok (.ret .notImplemented)) s) :=
  .of_wp fun prog w A R s h => by obtain ⟨hp, g, d, tk, os⟩ := s; obtain ⟨hl, h⟩ := h; obtain ⟨cls, dd, data, sl⟩ := o; simp only at hd; subst hd; wp_walk using wpAny_loadPart' hl, wpAny_load hl; exact ⟨_, rfl, h⟩
theorem str_ne_dict (l : Addr) (o : Obj) (es : Array DictEntry) (n : Nat) (hd : o.data = .dict es n) (b : Str) (u : Tok) : Meets (Builtin.«str.__ne__» ⟨[.str b u, .ref l], []⟩) (fun _ R s => s.heap.get? l = some o ∧ R (.ok (.ret .notImplemented)) s) :=
  .of_wp fun prog w A R s h => by obtain ⟨hp, g, d, tk, os⟩ := s; obtain ⟨hl, h⟩ := h; obtain ⟨cls, dd, data, sl⟩ := o; simp only at hd; subst hd; wp_walk using wpAny_loadPart' hl, wpAny_load hl; exact ⟨_, rfl, h⟩
theorem rc_dict_str {l : Addr} {o : Obj} {es : Array DictEntry} {n : Nat} (ho : s.heap.get? l = some o) (hc : o.cls = .type "dict") (hd : o.data = .dict es n) (b : Str) (u : Tok) (hu : A.units < cLine) : RcAt A s (.ref l) (.str b u) false := fun prog w E Q h =>
  rc_eq_decline_or (k := false) ⟨_, ho, hc⟩ (typeIs_str s b u) (by decide) F.sub_str_dict F.slot_dict_eq F.slot_str_eq_refl
    (fun _ hq => call_meets F.slot_dict_eq ⟨_, ho, hc⟩ F.entry_dict_eq (F.args_dict_eq_2 _ _) (dict_eq_str l o hc b u) ⟨ho, hq⟩)
    (fun _ hq => call_meets F.slot_str_eq_refl (typeIs_str s b u) F.entry_str_eq (F.args_str_eq_2 _ _) (str_eq_dict l o es n hd b u) ⟨ho, hq⟩)
    (fun _ hq => wpAny_of_eq (rfl : isSame (.ref l) (.str b u) = pure false) hq) (.inr hu) h
theorem rn_dict_str {l : Addr} {o : Obj} {es : Array DictEntry} {n : Nat} (ho : s.heap.get? l = some o) (hc : o.cls = .type "dict") (hd : o.data = .dict es n) (b : Str) (u : Tok) (hu : A.units < cLine) : RcNeAt A s (.ref l) (.str b u) true := fun prog w E Q h =>
  rc_ne_decline_or (k := false) ⟨_, ho, hc⟩ (typeIs_str s b u) (by decide) F.sub_str_dict F.slot_dict_ne F.slot_str_ne_refl
    (fun _ hq => call_meets F.slot_dict_ne ⟨_, ho, hc⟩ F.entry_dict_ne (F.args_dict_ne_2 _ _) (dict_ne_str l o hc b u) ⟨ho, hq⟩)
    (fun _ hq => call_meets F.slot_str_ne_refl (typeIs_str s b u) F.entry_str_ne (F.args_str_ne_2 _ _) (str_ne_dict l o es n hd b u) ⟨ho, hq⟩)
    (fun _ hq => wpAny_of_eq (rfl : isSame (.ref l) (.str b u) = pure false) hq) (.inr hu) h
end
end LfQ
namespace L2
open PySem PySem.Spec PyProof.Rows Lf
section
variable {X : Cx}
theorem dict_obj {pins : List (Addr × Obj)} {σ : St} {H : Hp} {s : Shared} {a : Addr} {kvs : List (Key × V)} (I : Inv X pins σ H s) (h : H a = some (.dK kvs)) : ∃ o es n, s.heap.get? a = some o ∧ o.cls = .type "dict" ∧ o.data = .dict es n := by
  obtain ⟨_, _, vs, kv, o, es, ep, ho, hx, hd, _⟩ := I.hok a _ h
  exact ⟨o, es, ep, ho, hx.1, hd⟩
def rEqS : R2 := fun x y H Q => ∃ (t : String) (z : Str), y = .str z ∧ Kd H x t ∧ Q (.bl (decide (x = .str z))) H
def rNeS : R2 := fun x y H Q => ∃ (t : String) (z : Str), y = .str z ∧ Kd H x t ∧ Q (.bl (!decide (x = .str z))) H
theorem op_eqS (hu : X.A.units < cLine) : OpR X (compareOp .Eq) rEqS := by
  intro pins s σ H x y v u Q I rx ry h
  obtain ⟨t, z, rfl, k, q⟩ := h
  cases k with
  | non => exact op_eq pins s σ H _ _ v u Q I rx ry ⟨rfl, q⟩
  | bl b => exact op_eq pins s σ H _ _ v u Q I rx ry ⟨rfl, q⟩
  | int i => exact op_eq pins s σ H _ _ v u Q I rx ry ⟨rfl, q⟩
  | str w => exact op_eq pins s σ H _ _ v u Q I rx ry ⟨rfl, q⟩
  | @lst a xs e =>
    cases rx
    obtain ⟨t', rfl⟩ := ry
    obtain ⟨its, rv, pl, _⟩ := I.list (SqL.of (K := X.K) e)
    exact SeqAt.RcAt.list_str z t' pl.isList hu X.prog X.w _ _ ⟨.bl false, H, I, rfl, by simpa using q⟩
  | @tup a xs e =>
    cases rx
    obtain ⟨t', rfl⟩ := ry
    obtain ⟨its, rv, pl, _⟩ := I.tuple (SqT.of (K := X.K) e)
    exact SeqAt.RcAt.tuple_str z t' pl hu X.prog X.w _ _ ⟨.bl false, H, I, rfl, by simpa using q⟩
  | @dic a kvs e =>
    cases rx
    obtain ⟨t', rfl⟩ := ry
    obtain ⟨o, es, n, h1, h2, h3⟩ := dict_obj I e
    exact LfQ.rc_dict_str h1 h2 h3 z t' hu X.prog X.w _ _ ⟨.bl false, H, I, rfl, by simpa using q⟩
theorem op_neS (hu : X.A.units < cLine) : OpR X (compareOp .NotEq) rNeS := by
  intro pins s σ H x y v u Q I rx ry h
  obtain ⟨t, z, rfl, k, q⟩ := h
  cases k with
  | non => exact op_ne pins s σ H _ _ v u Q I rx ry ⟨rfl, q⟩
  | bl b => exact op_ne pins s σ H _ _ v u Q I rx ry ⟨rfl, q⟩
  | int i => exact op_ne pins s σ H _ _ v u Q I rx ry ⟨rfl, q⟩
  | str w => exact op_ne pins s σ H _ _ v u Q I rx ry ⟨rfl, q⟩
  | @lst a xs e =>
    cases rx
    obtain ⟨t', rfl⟩ := ry
    obtain ⟨its, rv, pl, _⟩ := I.list (SqL.of (K := X.K) e)
    exact SeqAt.RcNeAt.list_str z t' pl.isList hu X.prog X.w _ _ ⟨.bl true, H, I, rfl, by simpa using q⟩
  | @tup a xs e =>
    cases rx
    obtain ⟨t', rfl⟩ := ry
    obtain ⟨its, rv, pl, _⟩ := I.tuple (SqT.of (K := X.K) e)
    exact SeqAt.RcNeAt.tuple_str z t' pl hu X.prog X.w _ _ ⟨.bl true, H, I, rfl, by simpa using q⟩
  | @dic a kvs e =>
    cases rx
    obtain ⟨t', rfl⟩ := ry
    obtain ⟨o, es, n, h1, h2, h3⟩ := dict_obj I e
    exact LfQ.rn_dict_str h1 h2 h3 z t' hu X.prog X.w _ _ ⟨.bl true, H, I, rfl, by simpa using q⟩
/-- a tuple and the empty one -/
def rEqE (K : PySem.W.Frag) : R2 := fun x y H Q => ∃ a b xs, x = .ref a ∧ y = .ref b ∧ SqT K H a xs ∧ SqT K H b [] ∧ Q (.bl (xs.isEmpty)) H
def rNeE (K : PySem.W.Frag) : R2 := fun x y H Q => ∃ a b xs, x = .ref a ∧ y = .ref b ∧ SqT K H a xs ∧ SqT K H b [] ∧ Q (.bl (!xs.isEmpty)) H
theorem op_eqE (hu : X.A.units < cLine) : OpR X (compareOp .Eq) (rEqE X.K) := by
  intro pins s σ H x y v u Q I rx ry h
  obtain ⟨a, b, xs, rfl, rfl, ha, hb, q⟩ := h
  cases rx
  cases ry
  obtain ⟨its, rv, pl, _⟩ := I.tuple ha
  obtain ⟨its2, rv2, pl2, _⟩ := I.tuple hb
  cases rv2
  refine SeqAt.RcAt.tuples (e := fun _ => true) pl pl2 hu (fun j h1 h2 => absurd h2 (by simp)) X.prog X.w _ _ ⟨.bl xs.isEmpty, H, I, ?_, q⟩
  cases rv <;> simp [RelV]
theorem op_neE (hu : X.A.units < cLine) : OpR X (compareOp .NotEq) (rNeE X.K) := by
  intro pins s σ H x y v u Q I rx ry h
  obtain ⟨a, b, xs, rfl, rfl, ha, hb, q⟩ := h
  cases rx
  cases ry
  obtain ⟨its, rv, pl, _⟩ := I.tuple ha
  obtain ⟨its2, rv2, pl2, _⟩ := I.tuple hb
  cases rv2
  refine SeqAt.RcNeAt.tuples (e := fun _ => true) pl pl2 hu (fun j h1 h2 => absurd h2 (by simp)) X.prog X.w _ _ ⟨.bl (!xs.isEmpty), H, I, ?_, q⟩
  cases rv <;> simp [RelV]
end
end L2
set_option maxHeartbeats 4000000
/-! l == [], l != [] of a list of anything; ** of a great int; chains of texts; t * n -/
namespace L2
open PySem PySem.Spec PyProof.Rows Lf
section
variable {X : Cx}
def rEqEL (K : PySem.W.Frag) : R2 := fun x y H Q => ∃ a b xs, x = .ref a ∧ y = .ref b ∧ SqL K H a xs ∧ SqL K H b [] ∧ Q (.bl (xs.isEmpty)) H
def rNeEL (K : PySem.W.Frag) : R2 := fun x y H Q => ∃ a b xs, x = .ref a ∧ y = .ref b ∧ SqL K H a xs ∧ SqL K H b [] ∧ Q (.bl (!xs.isEmpty)) H
theorem op_eqEL (hu : X.A.units < cLine) : OpR X (compareOp .Eq) (rEqEL X.K) := by
  intro pins s σ H x y v u Q I rx ry h
  obtain ⟨a, b, xs, rfl, rfl, ha, hb, q⟩ := h
  cases rx
  cases ry
  obtain ⟨its, rv, pl, _⟩ := I.list ha
  obtain ⟨its2, rv2, pl2, _⟩ := I.list hb
  cases rv2
  cases rv with
  | nil => exact SeqAt.RcAt.lists (e := fun _ => true) pl.isList pl2.isList rfl hu (fun j h1 h2 => absurd h2 (by simp)) X.prog X.w _ _ ⟨.bl true, H, I, rfl, q⟩
  | cons r rr => exact SeqAt.RcAt.lists_lengths pl.isList pl2.isList (by simp) hu X.prog X.w _ _ ⟨.bl false, H, I, rfl, q⟩
theorem op_neEL (hu : X.A.units < cLine) : OpR X (compareOp .NotEq) (rNeEL X.K) := by
  intro pins s σ H x y v u Q I rx ry h
  obtain ⟨a, b, xs, rfl, rfl, ha, hb, q⟩ := h
  cases rx
  cases ry
  obtain ⟨its, rv, pl, _⟩ := I.list ha
  obtain ⟨its2, rv2, pl2, _⟩ := I.list hb
  cases rv2
  cases rv with
  | nil => exact SeqAt.RcNeAt.lists (e := fun _ => true) pl.isList pl2.isList rfl hu (fun j h1 h2 => absurd h2 (by simp)) X.prog X.w _ _ ⟨.bl false, H, I, rfl, q⟩
  | cons r rr => exact SeqAt.RcNeAt.lists_lengths pl.isList pl2.isList (by simp) hu X.prog X.w _ _ ⟨.bl true, H, I, rfl, q⟩
def CPowX (i j : Int) : Prop := 0 ≤ j ∧ (Builtin.Int.intBits i : Int) * j ≤ 2 ^ 27
theorem op_powX : OpR X (binaryOp .Pow) (rI CPowX fun i j => .int (i ^ j.toNat)) := opI fun _ _ _ _ _ _ _ hc q => PyProof.Rows.pow_int hc.1 hc.2 q
def rLeS : R2 := fun x y H Q => ∃ i j : Str, x = .str i ∧ y = .str j ∧ Q (.bl (!decide (j.cps.toList < i.cps.toList))) H
theorem op_leS : OpR X (compareOp .LtE) rLeS := op_le_str
end
end L2
namespace Lf
open PySem L2 Evl
section
variable {K : PySem.W.Frag} {σ : L2.St} {G : Hp} {ta tb tc te : TE} {ds : List PyData} {d : PyData}
theorem ev_eqEL (ha : EvD ta σ G (.list ds)) : Ev (tOp (rEqEL K) ta (tLst tNil)) σ G (.bl ds.isEmpty) := fun H1 x Q q => ha G H1 (Ex.refl _) x _ fun v G2 H2 r hd => ⟨by decide, fun p hp => by
  obtain ⟨a, xs, rfl, e, hs⟩ := hd.lst_
  have x3 : Ex H2 (upd H2 p (.lst [])) := Ex.new hp
  refine ⟨a, p, xs, rfl, rfl, SqL.of (x3 _ _ (r.s _ _ e)), SqL.of upd_same, ?_⟩
  have : xs.isEmpty = ds.isEmpty := by cases hs <;> rfl
  rw [this]
  exact q _ (r.h.trans x3)⟩
theorem ev_neEL (ha : EvD ta σ G (.list ds)) : Ev (tOp (rNeEL K) ta (tLst tNil)) σ G (.bl (!ds.isEmpty)) := fun H1 x Q q => ha G H1 (Ex.refl _) x _ fun v G2 H2 r hd => ⟨by decide, fun p hp => by
  obtain ⟨a, xs, rfl, e, hs⟩ := hd.lst_
  have x3 : Ex H2 (upd H2 p (.lst [])) := Ex.new hp
  refine ⟨a, p, xs, rfl, rfl, SqL.of (x3 _ _ (r.s _ _ e)), SqL.of upd_same, ?_⟩
  have : xs.isEmpty = ds.isEmpty := by cases hs <;> rfl
  rw [this]
  exact q _ (r.h.trans x3)⟩
/-- a <= b <= c of texts -/
theorem ev_chainS {a b c : Str} (ha : Ev ta σ G (.str a)) (hb : Ev tb σ G (.str b)) (hc : Ev tc σ G (.str c)) : Ev (tChain rLeS rLeS ta tb tc) σ G (.bl (!decide (b.cps.toList < a.cps.toList) && !decide (c.cps.toList < b.cps.toList))) := fun H1 x Q q =>
  ha H1 x _ fun H2 x2 => hb H2 (x.trans x2) _ fun H3 x3 => ⟨a, b, rfl, rfl, _, rfl, by
    have q3 : ∀ H4, Ex H3 H4 → Q (.bl (!decide (b.cps.toList < a.cps.toList) && !decide (c.cps.toList < b.cps.toList))) H4 := fun H4 x4 => q H4 ((x2.trans x3).trans x4)
    generalize (!decide (b.cps.toList < a.cps.toList)) = fb at *
    cases fb with
    | false => rw [if_neg Bool.false_ne_true]; exact q3 H3 (Ex.refl _)
    | true => rw [if_pos rfl]; exact hc H3 ((x.trans x2).trans x3) _ fun H4 x4 => ⟨b, c, rfl, rfl, q3 H4 x4⟩⟩
/-- a + b, a * n of lists; t * n -/
theorem evd_catL {es : List PyData} (ha : EvD ta σ G (.list ds)) (hb : EvD tb σ G (.list es)) (hl : ds.length + es.length ≤ 100000) : EvD (tOp rCat ta tb) σ G (.list (ds ++ es)) := fun G1 H1 x s Q q =>
  ha G1 H1 x s _ fun v G2 H2 r hd => hb G2 H2 (x.trans r.g) r.s _ fun w G3 H3 r2 he => by
    obtain ⟨a, xs, rfl, e1, h1⟩ := (hd.up r2.g).lst_
    obtain ⟨b, ys, rfl, e2, h2⟩ := he.lst_
    have r3 := r.trans r2
    refine ⟨a, b, xs, ys, rfl, rfl, r3.s _ _ e1, r3.s _ _ e2, by rw [h1.len, h2.len]; exact sz_of hl, fun p hp => ?_⟩
    have n := Gr.new (o := .lst (xs ++ ys)) r3.s hp rfl
    exact q (.ref p) _ _ (r3.trans n) (.lst upd_same ((h1.app h2).up n.g))
theorem DaAll.rep {H : Hp} {vs : List V} (h : DaAll H vs ds) : ∀ n : Nat, DaAll H (List.replicate n vs).flatten (List.replicate n ds).flatten
  | 0 => .nil
  | n + 1 => by
    rw [List.replicate_succ, List.replicate_succ, List.flatten_cons, List.flatten_cons]
    exact h.app (DaAll.rep h n)
theorem evd_repL {n : Int} (ha : EvD ta σ G (.list ds)) (hb : Ev tb σ G (.int n)) (h0 : 0 ≤ n) (h1 : n ≤ 1000) (hl : ds.length ≤ 100) : EvD (tOp rRep ta tb) σ G (.list (List.replicate n.toNat ds).flatten) := fun G1 H1 x s Q q =>
  ha G1 H1 x s _ fun v G2 H2 r hd => hb H2 ((x.trans r.g).trans r.s) _ fun H3 x3 => by
    obtain ⟨a, xs, rfl, e1, h2⟩ := hd.lst_
    have r3 := r.trans (Gr.keep r.s x3)
    refine ⟨a, n, xs, rfl, rfl, r3.s _ _ e1, by omega, by omega, ?_, fun p hp => ?_⟩
    · rw [h2.len]
      exact Nat.le_trans (Nat.mul_le_mul hl (show n.toNat ≤ 1000 by omega)) (by decide)
    · have m := Gr.new (o := .lst (List.replicate n.toNat xs).flatten) r3.s hp rfl
      exact q (.ref p) _ _ (r3.trans m) (.lst upd_same ((h2.rep _).up m.g))
theorem evd_repT {n : Int} (ha : EvD ta σ G (.tuple ds)) (hb : Ev tb σ G (.int n)) (h0 : 2 ≤ n) (h1 : n ≤ 1000) (hl : ds.length ≤ 1000) (hn : ds ≠ []) : EvD (tOp (rRepT K) ta tb) σ G (.tuple (List.replicate n.toNat ds).flatten) := fun G1 H1 x s Q q =>
  ha G1 H1 x s _ fun v G2 H2 r hd => hb H2 ((x.trans r.g).trans r.s) _ fun H3 x3 => by
    obtain ⟨a, xs, rfl, e1, h2⟩ := hd.tup_
    have r3 := r.trans (Gr.keep r.s x3)
    refine ⟨a, n, xs, rfl, rfl, SqT.of (r3.s _ _ e1), fun z => ?_, h0, h1, by rw [h2.len]; exact hl, fun p hp => ?_⟩
    · subst z
      cases h2
      exact hn rfl
    · have m := Gr.new (o := .tup (List.replicate n.toNat xs).flatten) r3.s hp rfl
      exact q (.ref p) _ _ (r3.trans m) (.tup upd_same ((h2.rep _).up m.g))
end
end Lf
set_option maxHeartbeats 4000000
/-! repr(x), x read as data -/
namespace L2
open PySem PySem.Spec PyProof.Rows Lf
section
variable {X : Cx} {n : Nat}
def rReprD (K : PySem.W.Frag) : List V → Hp → VK → Prop := fun xs H Q => ∃ (v : V) (d : PyData), xs = [v] ∧ Dp K H v d ∧ d.showable = true ∧ d.hasDict = false ∧ d.depth ≤ 32 ∧ d.shown.length ≤ sizeLine ∧ Q (.str d.shown) H
theorem call_reprD (hgd : X.A.guards = some []) (hr : Room n X.A) : CallR X (.builtin "repr") (rReprD X.K) := by
  intro pins s σ H xs us Q I r h
  obtain ⟨v, d, rfl, hd, h1, h2, h3, h4, q⟩ := h
  obtain ⟨u, rfl, ru⟩ := r.one
  have hu := hr.units
  cases hd with
  | non =>
    cases ru
    exact PySem.P.repr_of_none ⟨.str _, H, I.tok _, ⟨_, rfl⟩, q⟩
  | bl b =>
    cases ru
    exact PySem.P.repr_of_bool ⟨.str _, H, I.tok _, ⟨_, rfl⟩, q⟩
  | int i =>
    obtain ⟨t, rfl⟩ := ru
    exact PySem.P.repr_of_int (of_decide_eq_true h1) ⟨.str _, H, I.tok _, ⟨_, rfl⟩, q⟩
  | str x =>
    obtain ⟨t, rfl⟩ := ru
    exact PySem.P.repr_of_str ⟨.str _, H, I.tok _, ⟨_, rfl⟩, q⟩ h4
  | lst a b =>
    cases ru
    obtain ⟨as, rd⟩ := Dp.reads I _ _ _ (Dp.lst a b) rfl
    exact repr_of_reads' rd h1 (fun z => by rw [h2] at z; cases z) hgd (by omega) (fun b o e => e) (fun h' u tk hk => ⟨.str _, H, I.kept hk, ⟨u, rfl⟩, q⟩) h4
  | tup a b =>
    cases ru
    obtain ⟨as, rd⟩ := Dp.reads I _ _ _ (Dp.tup a b) rfl
    exact repr_of_reads' rd h1 (fun z => by rw [h2] at z; cases z) hgd (by omega) (fun b o e => e) (fun h' u tk hk => ⟨.str _, H, I.kept hk, ⟨u, rfl⟩, q⟩) h4
end
end L2
namespace Lf
open PySem L2 Evl
/-! data without dicts, as the layer's own reading -/
mutual
def flatD : PyData → Bool
  | .list ds => flatDs ds
  | .tuple ds => flatDs ds
  | .dict _ => false
  | _ => true
def flatDs : List PyData → Bool
  | [] => true
  | d :: ds => flatD d && flatDs ds
end
mutual
theorem Da.dp {K : PySem.W.Frag} {H : Hp} : ∀ (d : PyData) (v : V), Da H v d → flatD d = true → Dp K H v d
  | .none, _, h, _ => by cases h; exact .non
  | .bool b, _, h, _ => by cases h; exact .bl _
  | .int i, _, h, _ => by cases h; exact .int _
  | .str s, _, h, _ => by cases h; exact .str _
  | .list ds, _, h, f => by cases h with | lst e ha => exact .lst (SqL.of e) (DaAll.dp ds _ ha (by rw [flatD] at f; exact f))
  | .tuple ds, _, h, f => by cases h with | tup e ha => exact .tup (SqT.of e) (DaAll.dp ds _ ha (by rw [flatD] at f; exact f))
  | .dict _, _, _, f => by rw [flatD] at f; cases f
theorem DaAll.dp {K : PySem.W.Frag} {H : Hp} : ∀ (ds : List PyData) (vs : List V), DaAll H vs ds → flatDs ds = true → DpAll K H vs ds
  | [], _, h, _ => by cases h; exact .nil
  | d :: ds, _, h, f => by cases h with | cons h t => rw [flatDs, Bool.and_eq_true] at f; exact .cons (Da.dp d _ h f.1) (DaAll.dp ds _ t f.2)
end
section
variable {K : PySem.W.Frag} {σ : L2.St} {G : Hp} {ta tb te : TE} {d e : PyData}
/-- repr(x) -/
theorem ev_repr (h : EvD te σ G d) (f : flatD d = true) (h1 : d.showable = true) (h2 : d.hasDict = false) (h3 : d.depth ≤ 32) (h4 : d.shown.length ≤ sizeLine) : Ev (tCB (rReprD K) (tCons te tNil)) σ G (.str d.shown) := fun H1 x Q q => h G H1 (Ex.refl _) x _ fun v G2 H2 r hd =>
  ⟨v, d, rfl, Da.dp d v (hd.up r.s) f, h1, h2, h3, h4, q H2 r.h⟩
theorem ev_reprB {b : Bool} (h : Ev te σ G (.bl b)) : Ev (tCB (rReprD K) (tCons te tNil)) σ G (.str (if b then "True" else "False")) := by
  cases b with
  | true => exact ev_repr (evd_bl h) rfl rfl rfl (by decide) (by decide)
  | false => exact ev_repr (evd_bl h) rfl rfl rfl (by decide) (by decide)
/-- x == y of data without dicts -/
theorem ev_eqD (ha : EvD ta σ G d) (hb : EvD tb σ G e) (f : flatD d = true) (f2 : flatD e = true) (s1 : SeqAt.shaped d = true) (s2 : SeqAt.shaped e = true) : Ev (tOp (rEqD K) ta tb) σ G (.bl (PyData.eqv d e)) := fun H1 x Q q => ha G H1 (Ex.refl _) x _ fun v G2 H2 r hd => hb G2 H2 r.g r.s _ fun w G3 H3 r3 he =>
  ⟨d, e, Da.dp d v (hd.up (r3.g.trans r3.s)) f, Da.dp e w (he.up r3.s) f2, s1, s2, q H3 (r.h.trans r3.h)⟩
theorem ev_neD (ha : EvD ta σ G d) (hb : EvD tb σ G e) (f : flatD d = true) (f2 : flatD e = true) (s1 : SeqAt.shaped d = true) (s2 : SeqAt.shaped e = true) : Ev (tOp (rNeD K) ta tb) σ G (.bl (!PyData.eqv d e)) := fun H1 x Q q => ha G H1 (Ex.refl _) x _ fun v G2 H2 r hd => hb G2 H2 r.g r.s _ fun w G3 H3 r3 he =>
  ⟨d, e, Da.dp d v (hd.up (r3.g.trans r3.s)) f, Da.dp e w (he.up r3.s) f2, s1, s2, q H3 (r.h.trans r3.h)⟩
end
end Lf
set_option maxHeartbeats 4000000
/-! max(l, default=d) of a list of whole numbers -/
namespace Lf
open PySem PySem.F PySem.Spec PyProof.Rows L2 Evl
section
variable {prog : Program} {w : World} {A : Around} {E : Value → Shared → Prop} {s : Shared}
theorem fn_tree_kw {id : String} {b : Builtin} {args : List Value} {kw : List (Str × Value)} {Q : Value → Shared → Prop} (hk : builtinKind id = none) (hp : plainId id = true)
    (hb : entryFor table id = some b) (ha : argsOk id ⟨args, kw⟩)
    (hc : wpAny (model prog w) A.in1 (b ⟨args, kw⟩) (fun fin s' => match fin with
      | .done f => (match (Except.ok f : Result) with | .ok (.ret v) => Q v s' | .ok _ => False | .error e => E e s')
      | .again c' => c'.quiet = true ∧ codeAny (model prog w) A c' (fun r s' => match r with | .ok (.ret v) => Q v s' | .ok _ => False | .error e => E e s') s') E s) :
    wpAny (model prog w) A (call (.builtin id) args kw) Q E s := by
  refine wpAny_call (codeAny_call_builtin hp hb ?_)
  simp only [checkBuiltinCall, hk]
  cases hsig : Manifest.signature? id with
  | none => exact wpAny_pure hc
  | some sig =>
    have ha' : Bind.checkArgs id sig ⟨args, kw⟩ = pure () := by simpa only [argsOk, hsig] using ha
    simp only [ha']
    exact wpAny_pure hc
theorem args_max_df (a d : Value) : argsOk "max" ⟨[a], [("default", d)]⟩ := by unfold argsOk; kernel_rfl
theorem max_nm : (toString "max" ++ toString ".loop" : String) = "max.loop" := by decide
end
section
variable {prog : Program} {w : World} {A : Around} {R : Result → Shared → Prop} {I : Addr} {fp wr : List Addr} {n : Nat} {P : Nat → Value → Prop} {St : Nat → Heap → Prop} {d : Value}
/-- what the loop has found before it takes thing j -/
def BestAt (P : Nat → Value → Prop) (bt : Nat → Nat → Bool) : Nat → List Value → Prop
  | 0, l => l = []
  | j + 1, l => ∃ v, l = [v, v] ∧ P (argBest bt j) v
theorem max_loop_df (W : Walks prog w A.in1 I fp wr n P St) (bt : Nat → Nat → Bool) (hcmp : CmpOf prog w A.in1 .Gt P bt) (S : Addr) (hSf : S ∉ fp) :
    ∀ (k j : Nat) (s : Shared) (l : List Value) (c : Nat), n - j = k → j ≤ n → St j s.heap → BestAt P bt j l →
    s.heap.get? S = some { cls := .type "list", dict := none, data := .seq l.toArray c, slots := #[] } →
    (∀ v h' tk, (n = 0 → v = d) → (0 < n → P (argBest bt (n - 1)) v) → (∀ b o, b ∉ wr → b ≠ S → s.heap.get? b = some o → h'.get? b = some o) → R (.ok (.ret v)) { s with heap := h', toks := tk }) →
    codeAny (model prog w) A (.builtin "max.loop" ⟨[.ref I, .none, .ref S], [("default", d)]⟩) R s := by
  have hSw : S ∉ wr := fun h => hSf (W.sub _ h)
  intro k
  induction k with
  | zero =>
    intro j s l c hk hj hst hB hS hR
    have hin : j = n := by omega
    refine codeAny_builtin F.entry_max_loop ?_
    rw [Around.under_plainId F.plain_max_loop _]
    show wpAny _ A.in1 (seqItems? (.ref S) >>= _) _ _ s
    refine wpAny_bind (wpAny_seqItems hS rfl ?_)
    show wpAny _ A.in1 (tryCatch (pyNext (.ref I)) _ >>= _) _ _ s
    refine wpAny_bind (wpAny_tryCatch (W.done s _ _ (hin ▸ hst) fun h' tk hk' => ?_))
    have hS' := hk' S _ hSw hS
    cases j with
    | zero =>
      obtain rfl : l = [] := hB
      show wpAny _ A.in1 (rule _ >>= _) _ _ _
      refine wpAny_bind (wpAny_rule (wpAny_pure ?_))
      exact hR d _ tk (fun _ => rfl) (fun z => absurd z (by omega)) fun b o hbw hbS e => hk' b o hbw e
    | succ j =>
      obtain ⟨vb, rfl, hPb⟩ := hB
      show wpAny _ A.in1 (updateSeq S (fun _ => #[]) >>= _) _ _ _
      refine wpAny_bind ?_
      refine wpAny_updateSeq hS' rfl (wpAny_bind (wpAny_letGo (wpAny_pure ?_)))
      exact hR vb _ tk (fun z => by omega) (fun _ => by rw [← hin]; exact hPb) fun b o hbw hbS e => (Heap.get?_update_other _ _ (Ne.symm hbS)).trans (hk' b o hbw e)
  | succ k ih =>
    intro j s l c hk hj hst hB hS hR
    have hlt : j < n := by omega
    refine codeAny_builtin F.entry_max_loop ?_
    rw [Around.under_plainId F.plain_max_loop _]
    show wpAny _ A.in1 (seqItems? (.ref S) >>= _) _ _ s
    refine wpAny_bind (wpAny_seqItems hS rfl ?_)
    show wpAny _ A.in1 (tryCatch (pyNext (.ref I)) _ >>= _) _ _ s
    refine wpAny_bind (wpAny_tryCatch (W.item j s _ _ hlt hst fun v h' tk hP hst' hk' => ?_))
    have hS' := hk' S _ hSw hS
    have put : ∀ x : Value, P (argBest bt j) x → codeAny (model prog w) A (.builtin "max.loop" ⟨[.ref I, .none, .ref S], [("default", d)]⟩) R { s with heap := h'.update S (Obj.mapSeq fun _ => #[x, x]), toks := tk } := fun x hx =>
      ih (j + 1) _ [x, x] _ (by omega) hlt (W.frame _ _ _ hst' fun b hbf o e => (Heap.get?_update_other _ _ (fun h : S = b => hSf (by rw [h]; exact hbf))).trans e) ⟨x, rfl, hx⟩ (Heap.get?_update_self _ hS' rfl)
        fun v' h'' tk'' h0 hP' hk'' => hR v' h'' tk'' h0 hP' fun b o hbw hbS e => hk'' b o hbw hbS ((Heap.get?_update_other _ _ (Ne.symm hbS)).trans (hk' b o hbw e))
    cases j with
    | zero =>
      obtain rfl : l = [] := hB
      show wpAny _ A.in1 (updateSeq S (fun _ => #[v, v]) >>= _) _ _ _
      refine wpAny_bind ?_
      refine wpAny_updateSeq hS' rfl ?_
      rw [max_nm]
      exact wpAny_pure ⟨plainId_quiet F.plain_max_loop _, put v hP⟩
    | succ j =>
      obtain ⟨vb, rfl, hPb⟩ := hB
      show wpAny _ A.in1 (tryCatch (holding [v, v] (richCompare .Gt v vb >>= _)) _ >>= _) _ _ _
      refine wpAny_bind (wpAny_tryCatch (wpAny_holding (wpAny_bind (hcmp (j + 1) (argBest bt j) v vb _ _ _ hP hPb ?_))))
      refine wpAny_bind (wpAny_holding (wpAny_truthy_bool ?_))
      refine wpAny_bind (wpAny_letGo (wpAny_pure ?_))
      cases hb : bt (j + 1) (argBest bt j) with
      | true =>
        simp only [if_true]
        refine wpAny_bind ?_
        refine wpAny_updateSeq hS' rfl (wpAny_bind (wpAny_letGo ?_))
        rw [max_nm]
        exact wpAny_pure ⟨plainId_quiet F.plain_max_loop _, put v (by simp only [argBest, hb, if_true]; exact hP)⟩
      | false =>
        simp only [Bool.false_eq_true, if_false]
        refine wpAny_bind (wpAny_letGo ?_)
        rw [max_nm]
        refine wpAny_pure ⟨plainId_quiet F.plain_max_loop _, ih (j + 2) _ [vb, vb] c (by omega) hlt hst' ⟨vb, rfl, by simp only [argBest, hb, Bool.false_eq_true, if_false]; exact hPb⟩ hS' fun v' h'' tk'' h0 hP' hk'' => ?_⟩
        exact hR v' h'' tk'' h0 hP' fun b o hbw hbS e => hk'' b o hbw hbS (hk' b o hbw e)
end
section
variable {prog : Program} {w : World} {A : Around} {E : Value → Shared → Prop} {s : Shared}
theorem max_df_raw {l : Addr} {its : List Value} {ns : List Int} {d : Value} {Q : Value → Shared → Prop} (hh : A.handled = none) (hl : s.heap.IsList l its.toArray) (hi : IntsAre its ns)
    (h : ∀ h' tk v, (∀ b o, s.heap.get? b = some o → h'.get? b = some o) → (ns = [] → v = d) → (0 < ns.length → ∃ M t', v = .int M t' ∧ M ∈ ns ∧ (∀ a, a ∈ ns → a ≤ M)) → Q v { s with heap := h', toks := tk }) : wpAny (model prog w) A (call (.builtin "max") [.ref l] [("default", d)]) Q E s := by
  obtain ⟨xs, e⟩ := hi.allInts.items
  have hn : numsOf (intItems xs).toList = ns := by rw [← e]; exact hi.numsOf
  rw [nums_intItems] at hn
  subst hn
  rw [e] at hl
  refine fn_tree_kw F.kind_max F.plain_max F.entry_max (args_max_df _ _) ?_
  show wpAny _ A.in1 (Builtin.Builtins.bindParams "max" ["key", "default"] 0 ⟨[], [("default", d)]⟩ >>= _) _ _ s
  refine wpAny_bind (wpAny_of_eq (show Builtin.Builtins.bindParams "max" ["key", "default"] 0 ⟨[], [("default", d)]⟩ = pure [none, some d] from rfl) ?_)
  refine wpAny_bind (wpAny_pure ?_)
  refine wpAny_bind (iter_intList hl fun s₂ e st hfp hlI => ?_)
  refine wpAny_bind (wpAny_newObj_type ?_)
  have W := Walks.list (prog := prog) (w := w) (A := A.in1) hh _ l hlI (intItems xs)
  have hSf : s₂.heap.objs.size ∉ [s.heap.objs.size, l] := fun hm => Nat.lt_irrefl _ (hfp _ hm)
  rw [max_nm]
  refine wpAny_pure ⟨plainId_quiet F.plain_max_loop _, max_loop_df W _ (CmpOf.ints_gt (numAt xs) (fun _ _ => intItems_at)) s₂.heap.objs.size hSf _ 0 _ [] _ rfl (Nat.zero_le _) (W.frame _ _ _ st fun b _ o e => Heap.get?_push_of_some _ e) rfl (Heap.get?_push_size _ rfl) fun v h' tk h0 hP hk => ?_⟩
  subst e
  have key := old_kept (h' := h') (fun b o hbw (e : _ = some o) => hk b o hbw (Nat.ne_of_lt (Heap.lt_size e)) (Heap.get?_push_of_some _ e))
  refine h h' tk v key (fun z => h0 ?_) (fun z => ?_)
  · have := congrArg List.length z
    simpa [intItems] using this
  · have hsz : 0 < xs.size := by simpa using z
    have hv := hP (by simpa [intItems] using hsz)
    obtain ⟨t, rfl⟩ := intItems_at hv
    obtain ⟨h1, h2⟩ := argBest_gt (numAt xs) (xs.size - 1)
    have hz' : (intItems xs).size = xs.size := by simp [intItems]
    rw [hz']
    refine ⟨_, t, rfl, ?_, fun a ha => ?_⟩
    · rw [numAt_eq]; exact PySem.getD_mem (by rw [List.length_map, Array.length_toList]; omega)
    · obtain ⟨j, hj, rfl⟩ := mem_getD ha
      rw [List.length_map, Array.length_toList] at hj
      rw [← numAt_eq]; exact h2 j (by omega)
end
section
variable {X : Cx}
def topI (d : Int) (ns : List Int) : Int := match ns with
  | [] => d
  | n :: r => r.foldl max n
def rMaxDf (K : PySem.W.Frag) : List V → List V → Hp → VK → Prop := fun xs zs H Q => ∃ (a : Addr) (ns : List Int) (d : Int), xs = [V.ref a] ∧ zs = [V.int d] ∧ SqL K H a (ns.map V.int) ∧ (ns = [] → Q (.int d) H) ∧ (∀ m, m ∈ ns → (∀ y, y ∈ ns → y ≤ m) → Q (.int m) H)
theorem cr_max_df (hc : X.calm = true) : CallRK X (.builtin "max") ["default"] (rMaxDf X.K) := by
  intro pins s σ H xs zs us ws Q I r rz h
  obtain ⟨a, ns, d, rfl, rfl, hs, q0, q⟩ := h
  obtain ⟨its, rv, hl, _⟩ := I.list hs
  rw [Vals.ref1 r]
  obtain ⟨dv, rfl, t, rfl⟩ : ∃ dv, ws = [dv] ∧ ∃ t, dv = .int d t := by
    cases rz with
    | cons h t => cases t; exact ⟨_, rfl, h⟩
  refine max_df_raw (I.ok.hd hc) hl.isList rv.ints fun h' tk v hk e0 e1 => ?_
  cases ns with
  | nil => exact ⟨.int d, H, I.kept hk, ⟨t, e0 rfl⟩, q0 rfl⟩
  | cons n ns =>
    obtain ⟨M, t', rfl, h1, h2⟩ := e1 (by simp)
    exact ⟨.int M, H, I.kept hk, ⟨_, rfl⟩, q M h1 h2⟩
end
end Lf
set_option maxHeartbeats 4000000
/-! d.update(e) -/
namespace Lf
open PySem PySem.Spec PyProof.Rows L2 Evl
theorem putK_len (kvs : List (Key × V)) (k : Key) (v : V) : (putK kvs k v).length ≤ kvs.length + 1 := by
  unfold putK
  split <;> simp
theorem mergeK_len (more : List (Key × V)) : ∀ kvs : List (Key × V), (mergeK kvs more).length ≤ kvs.length + more.length := by
  induction more with
  | nil => intro kvs; exact Nat.le_refl _
  | cons a t ih =>
    intro kvs
    have := ih (putK kvs a.1 a.2)
    have h2 := putK_len kvs a.1 a.2
    show (mergeK (putK kvs a.1 a.2) t).length ≤ _
    rw [List.length_cons]
    omega
def rDUpd : V → List V → Hp → VK → Prop := fun x vs H Q => ∃ (a b : Addr) (kvs more : List (Key × V)), x = .ref a ∧ vs = [.ref b] ∧ a ≠ b ∧ H a = some (.dK kvs) ∧ H b = some (.dK more) ∧ kvs.length + more.length ≤ sizeLine ∧ Q .non (upd H a (.dK (mergeK kvs more)))
theorem mtd_update {X : Cx} : MtR X "dict.update" rDUpd := by
  intro pins s σ H x vs v us Q I rx rv h
  obtain ⟨a, b, kvs, more, rfl, rfl, hab, ea, eb, hz, q⟩ := h
  obtain rfl : v = Value.ref a := rx
  rw [Vals.ref1 rv]
  obtain ⟨z, hd, vs, rel, dd⟩ := dk_of I.hok ea
  obtain ⟨z2, hd2, vs2, rel2, dd2⟩ := dk_of I.hok eb
  refine call_meetsIn PySem.F.slot_dict_update dd.typeIs PySem.F.entry_dict_update (PySem.F.args_dict_update_2 _ _) (meets_dict_update (mixKind X.prog X.w) a b hab hd2) ⟨vs, vs2, dd, dd2, by rw [← rel.length, ← rel2.length]; exact hz, fun h' dd' _ hs => ?_⟩
  have he : ∃ q, h'.get? a = some q := let ⟨q, _, _, hq, _⟩ := dd'; ⟨q, hq⟩
  exact ⟨.non, _, d_write (t' := s.toks) I (by rw [ea]; exact True.intro) hs he (dk_new (Nat.le_trans (mergeK_len _ _) hz) hd (KV.merge rel2 rel) dd'), rfl, q⟩
section
variable {X : Cx} {o e : Expr} {es : List Expr} {to : TE} {t : TA} {apos cpos : Pos}
theorem pe_dupdate (ho : PE X o to) (ha : PA X (e :: es) t) (hbase : attributeBase o "update" X.env (eval o X.env) = eval o X.env := by rfl)
    (hfew : ((backTo cpos (starEach (e :: es) X.env)).all (fun x => !x.1) && (backToKw cpos (keywordEach [] X.env)).all (fun x => x.1.isSome)
      && decide ((e :: es).length + ([] : List Keyword).length + (if ([] : List Keyword).isEmpty then 0 else 1) < 30)) = true := by rfl)
    (hline : (apos.endLine == cpos.line) = true := by rfl) (hs : starEach (e :: es) X.env = (false, eval e X.env) :: starEach es X.env := by rfl) (hplain : (backTo cpos (starEach es X.env)).any (·.1) = false := by rfl) :
    PE X (.Call (.Attribute o "update" apos) (e :: es) [] cpos) (tBM X.K "dict" rDUpd to t) :=
  pe_bm PySem.F.plainAttrs_dict PySem.F.slot_dict_update PySem.F.type_dict_update mtd_update ho ha hbase hfew hline hs hplain
end
end Lf
set_option maxHeartbeats 4000000
/-! enumerate(tuple) -/
namespace Lf
open PySem PySem.Spec PyProof.Rows L2 Evl
theorem draws_tuple {prog : Program} {w : World} {A : Around} (hh : A.handled = none) (it l : Addr) (hne : l ≠ it) (items : Array Value) :
    Draws prog w A it [it, l] items.size (fun i v => items[i]? = some v) (fun i h => h.IsTupleIter it l i ∧ h.IsTuple l items) where
  live := fun _ _ st => let ⟨o, ho, _⟩ := st.1; ⟨o, ho⟩
  frame := fun _ _ _ st hk => ⟨st.1.at fun o e => hk it (by simp) o e, let ⟨o, ho, r⟩ := st.2; ⟨o, hk l (by simp) o ho, r⟩⟩
  item := fun i s Q E hi st hQ => by
    refine RZ.nextOf_tuple_item st.1 st.2 (x := items[i]) (by simp [hi]) fun h' hit' hs' => ?_
    exact hQ _ h' s.toks (by simp [hi]) ⟨hit', let ⟨o, ho, r⟩ := st.2; ⟨o, (hs'.2 l hne).trans ho, r⟩⟩ hs'
  done := fun s Q E st hE => RZ.nextOf_tuple_end hh st.1 st.2 (by simp) hE
open AutoSeq1 (wpAny_loadPart') in
theorem enum_newT (l : Addr) (items : Array Value) (o : Obj) (hc : o.cls = .type "tuple") (hd : ∃ n, o.data = .seq items n) :
    Meets (Builtin.«enumerate.__new__» ⟨[.type "enumerate", .ref l], []⟩) (fun _ R s => s.heap.get? l = some o ∧
      R (.ok (.ret (.ref (s.heap.push { cls := .type "tuple_iterator", data := .fields #[.ref l, .int 0 0] }).objs.size)))
        { s with heap := (s.heap.push { cls := .type "tuple_iterator", data := .fields #[.ref l, .int 0 0] }).push { cls := .type "enumerate", data := .fields #[.none, .bool false, .ref s.heap.objs.size, rawInt 0, .none, .none] } }) :=
  .of_wp fun prog w A R s h => by
    obtain ⟨hp, g, d, tk, os⟩ := s; obtain ⟨hl, h⟩ := h
    have hsub := sub_enumerate
    have hL : Heap.IsTuple (Shared.heap ⟨hp, g, d, tk, os⟩) l items := ⟨o, hl, hc, hd⟩
    wp_walk using wpAny_loadPart' hl
    refine wpAny_stack_any fun st => wpAny_pure ?_
    split
    · rename_i c _ _ _ _ _
      cases (c == Value.type "enumerate")
      · wp_walk using wpAny_loadPart' hl, wpAny_pyIter_tuple hL
        exact ⟨_, rfl, h⟩
      · wp_walk using wpAny_loadPart' hl, wpAny_pyIter_tuple hL
        exact ⟨_, rfl, h⟩
    · wp_walk using wpAny_loadPart' hl, wpAny_pyIter_tuple hL
      exact ⟨_, rfl, h⟩
section
variable {prog : Program} {w : World} {A : Around} {E : Value → Shared → Prop} {s : Shared}
theorem call_enum_tuple {l : Addr} {items : Array Value} {Q : Value → Shared → Prop} (hL : s.heap.IsTuple l items)
    (h : ∀ h', IsEnum h' (s.heap.objs.size + 1) s.heap.objs.size 0 .none → h'.IsTupleIter s.heap.objs.size l 0 → h'.objs.size = s.heap.objs.size + 2 →
      (∀ b o, s.heap.get? b = some o → h'.get? b = some o) → Q (.ref (s.heap.objs.size + 1)) { s with heap := h' }) :
    wpAny (model prog w) A (call (.type "enumerate") [.ref l]) Q E s := by
  obtain ⟨o, hl, hc, hd⟩ := hL
  refine callType_new F.called_enumerate (by decide) (F.typeCall_enumerate_1 _) (F.newCall_enumerate_1 _) (fun obj => F.args_object_init_2 obj _) F.entry_enumerate_new
    (enum_newT l items o hc hd) ⟨hl, ?_⟩
  have hz : (s.heap.push { cls := .type "tuple_iterator", data := .fields #[.ref l, .int 0 0] }).objs.size = s.heap.objs.size + 1 := Heap.size_push ..
  show _ ∧ _
  rw [hz]
  have he : IsEnum ((s.heap.push { cls := .type "tuple_iterator", data := .fields #[.ref l, .int 0 0] }).push
      { cls := .type "enumerate", data := .fields #[.none, .bool false, .ref s.heap.objs.size, rawInt 0, .none, .none] }) (s.heap.objs.size + 1) s.heap.objs.size 0 .none := by
    have := Heap.get?_push_size (s.heap.push { cls := .type "tuple_iterator", data := .fields #[.ref l, .int 0 0] })
      (o := { cls := .type "enumerate", data := .fields #[.none, .bool false, .ref s.heap.objs.size, rawInt 0, .none, .none] }) rfl
    rw [hz] at this; exact this
  exact ⟨⟨_, he, rfl⟩, h _ he ⟨_, Heap.get?_push_of_some _ (Heap.get?_push_size _ rfl), rfl, rfl⟩ (by rw [Heap.size_push, hz]) fun b o x => Heap.get?_push_of_some _ (Heap.get?_push_of_some _ x)⟩
end
/-- the tuple at a, each item in a new pair -/
def IteT (K : PySem.W.Frag) (a : Addr) : It :=
  ⟨fun i H => ∃ (xs : List V) (x : V), SqT K H a xs ∧ xs[i]? = some x, fun i H v H' => ∃ T x, v = .ref T ∧ H T = none ∧ H' = upd H T (.tup [.int (i : Nat), x]) ∧ ∀ xs, SqT K H a xs → xs[i]? = some x, fun i H => ∃ xs : List V, SqT K H a xs ∧ xs.length = i⟩
theorem tup_apart {h : Heap} {a b : Addr} {items : Array Value} {o : Obj} {c : String} (ha : h.IsTuple a items) (hb : h.get? b = some o) (hc : o.cls = .type c) (hn : c ≠ "tuple") : a ≠ b := fun z => by
  obtain ⟨o', e, hc', _⟩ := ha
  rw [z, hb] at e
  cases e
  rw [hc] at hc'
  cases hc'
  exact hn rfl
theorem turn_enumT {P : Program} {w : World} {K : PySem.W.Frag} {elts : List Expr} {kk : Nat} {tpos : Pos} (a e it : Addr) :
    Turn P w K (.Tuple elts kk tpos) (IteT K a) [e, it] e (fun i h => (∃ old, IsEnum h e it ((i : Nat) : Int) old) ∧ h.IsTupleIter it a i ∧ e ≠ it) where
  mem := by simp
  obj := fun i h st b hb => by
    obtain ⟨⟨old, he⟩, ⟨o, ho, hc, hd⟩, _⟩ := st
    have e' : b = e ∨ b = it := by simpa using hb
    rcases e' with z | z
    · rw [z]; exact ⟨_, he, fun v q => nomatch q⟩
    · rw [z]; exact ⟨o, ho, fun v q => by rw [hd] at q; cases q⟩
  keep := fun i h h' st k => let ⟨⟨old, he⟩, hi, hne⟩ := st; ⟨⟨old, k e (by simp) _ he⟩, hi.at fun o q => k it (by simp) o q, hne⟩
  item := by
    intro X hP hw hK hc i pins s σ H E I hf st hg
    subst hP hw hK
    obtain ⟨⟨old, he⟩, hit, hne⟩ := st
    obtain ⟨xs, x, hq, hx⟩ := hg
    obtain ⟨its, rv, p, hz⟩ := I.tuple hq
    have p : s.heap.IsTuple a its.toArray := p
    obtain ⟨u, hu, ru⟩ := rv.get hx
    have hel : e < s.heap.objs.size := Heap.lt_size he
    have hil : it < s.heap.objs.size := by obtain ⟨_, q, _⟩ := hit; exact Heap.lt_size q
    have hae : a ≠ e := tup_apart p he rfl (by decide)
    have hai : a ≠ it := by obtain ⟨oi, hoi, hci, _⟩ := hit; exact tup_apart p hoi hci (by decide)
    have hlt : i < its.toArray.size := by
      have := (List.getElem?_eq_some_iff.mp hu).1
      simpa using this
    refine wpAny_pyNext_enum_itemD (draws_tuple (A := X.A.in1) (I.ok.hd hc) it a hai its.toArray) he ⟨hit, p⟩ hlt hne (by simp [hne, Ne.symm hae]) fun y h' tk hP ho hst' hT hsz hk => ?_
    obtain rfl : u = y := by
      have : its[i]? = some y := by simpa using hP
      rw [hu] at this
      exact Option.some.inj this
    refine ⟨_, rfl, wpAny_letOwnedTupleGo_enum (s := { s with heap := h', toks := tk + 1 }) ho fun h'' he' sb => ?_⟩
    have hT2 : h''.get? s.heap.objs.size = some { cls := .type "tuple", data := .seq #[.int i tk, u] } := (sb.2 _ (Nat.ne_of_gt hel)).trans hT
    have new : ObjOk X.prog X.w (upd H s.heap.objs.size (.tup [.int (i : Nat), x])) h'' s.heap.objs.size (.tup [.int (i : Nat), x]) :=
      ⟨by show 2 ≤ sizeLine; decide, [.int i tk, u], .cons ⟨_, rfl⟩ (.cons ru .nil), ⟨_, hT2, rfl, _, rfl⟩⟩
    have I1 : Inv X pins σ (upd H s.heap.objs.size (.tup [.int (i : Nat), x])) { s with heap := h'', toks := tk + 1 } :=
      I.turnedNew (ch := [e, it]) (fun b ob hb q => (sb.2 b (fun z => hb (by simp [z]))).trans (hk b ob (fun z => hb (by simp [z])) (fun z => hb (by simp [z])) q)) hf (Nat.le_refl _) new
    refine ⟨.ref s.heap.objs.size, _, I1, rfl, ⟨_, x, rfl, I.hok.fresh (Nat.le_refl _), rfl, fun ys hy => by rw [I.tuple_inj hy hq]; exact hx⟩, ⟨⟨u, ?_⟩, hst'.1.at fun o q => (sb.2 it (Ne.symm hne)).trans q, hne⟩, fun b hb => ?_⟩
    · have e1 : ((i + 1 : Nat) : Int) = (i : Int) + 1 := by omega
      rw [e1]; exact he'
    · have hb' : b < s.heap.objs.size := by
        have e' : b = e ∨ b = it := by simpa using hb
        rcases e' with z | z
        · rw [z]; exact hel
        · rw [z]; exact hil
      rw [upd_ne (Nat.ne_of_lt hb')]
      exact (hf b hb).1
  done := by
    intro X hP hw hK hc i pins s σ H E I hf st hg
    subst hP hw hK
    obtain ⟨⟨old, he⟩, hit, hne⟩ := st
    obtain ⟨xs, hq, hx⟩ := hg
    obtain ⟨its, rv, p, hz⟩ := I.tuple hq
    have p : s.heap.IsTuple a its.toArray := p
    obtain ⟨f0, f1, f2, f3, f4, f5⟩ := hf it (by simp)
    have hl := rv.length
    have hai : a ≠ it := by obtain ⟨oi, hoi, hci, _⟩ := hit; exact tup_apart p hoi hci (by decide)
    have hn : its.toArray.size = i := by simp; omega
    exact wpAny_pyNext_enum_endD (draws_tuple (A := X.A.in1) (I.ok.hd hc) it a hai its.toArray) he ⟨by rw [hn]; exact hit, p⟩ fun h' eb => ⟨rfl, I.turned (t' := s.toks) (fun b o hb q => eb b o hb q) f0 f1 f3 f4 f5⟩
  self := fun A i s Q E st h => let ⟨⟨_, he⟩, _⟩ := st; wpAny_pyIter_enum he h
def iEnumT (K : PySem.W.Frag) (ta : TA) : TI := fun σ H R => ta σ H fun vs H1 => ∃ a xs, vs = [.ref a] ∧ SqT K H1 a xs ∧ R (IteT K a) H1
theorem pi_enumT {X : Cx} {e : Expr} {ta : TA} {p pos tpos : Pos} {elts : List Expr} {kk : Nat} (hg : Gl X "enumerate") (hm : X.mg "enumerate" = none) (ha : PA X [e] ta) (hs : starEach [e] X.env = [(false, eval e X.env)] := by rfl) :
    PI X (.Tuple elts kk tpos) (.Call (.Name "enumerate" p) [e] [] pos) (iEnumT X.K ta) := by
  refine ⟨fun pins s σ H R I h => ?_⟩
  refine Call_ (ld_blt I hg hm boot_enumerate (PyProof.Rows.callWith_type1 (thn (ha.run pos pins s σ H _ I h) fun us s1 ⟨vs, H1, I1, r1, q1⟩ => ?_) hs rfl))
  obtain ⟨a, xs, ex, hq, q⟩ := q1
  subst ex
  cases r1 with
  | cons r rr =>
    cases rr
    cases r
    obtain ⟨its, rv, p', hz⟩ := I1.tuple hq
    refine call_enum_tuple (show s1.heap.IsTuple a its.toArray from p') fun h' he hit hsz hk => wpAny_pyIter_enum he ?_
    have I2 : Inv X pins σ H1 { s1 with heap := h' } := I1.kept (t' := s1.toks) hk
    refine ⟨s1.heap.objs.size + 1, [s1.heap.objs.size + 1, s1.heap.objs.size], _, _, H1, rfl, I2, turn_enumT a (s1.heap.objs.size + 1) s1.heap.objs.size, ⟨⟨.none, he⟩, hit, Nat.succ_ne_self _⟩, fun b hb => ?_, q⟩
    have e' : b = s1.heap.objs.size + 1 ∨ b = s1.heap.objs.size := by simpa using hb
    have hle : s1.heap.objs.size ≤ b := by
      rcases e' with z | z
      · rw [z]; exact Nat.le_add_right _ _
      · rw [z]; exact Nat.le_refl _
    exact I1.fpOk hle (I1.hok.fresh hle)
end Lf
set_option maxHeartbeats 4000000
/-! Trees and statements, plain -/
namespace Tr
open PySem Lf
def letters : Str := "abcdefghijklmnopqrstuvwxyz"
def isS (s : Str) : PyData → Bool
  | .str x => decide (x = s)
  | _ => false
def lets (x : Str) : Bool := x.cps.toList.all fun c => decide (c ∈ letters.cps.toList)
def isNm : PyData → Bool
  | .str x => decide (1 ≤ x.length) && decide (x.length ≤ 8) && lets x
  | _ => false
def isNu : PyData → Bool
  | .int _ => true
  | _ => false
def isIn : PyData → Bool
  | .int i => decide (-lim < i) && decide (i < lim)
  | _ => false
def within (a b : Int) : PyData → Bool
  | .int i => (decide (-lim < i) && decide (i < lim)) && (decide (a ≤ i) && decide (i ≤ b))
  | _ => false
/-- the tree of at most n levels -/
def isTr : Nat → PyData → Bool
  | 0, _ => false
  | n + 1, .tuple ds => match ds with
    | w :: nm :: ts =>
      if ts.length = 1 ∧ isS "at" w = true then isNm nm && within 0 3 (ts.getD 0 .none)
      else if ts.length = 2 ∧ isS "load" w = true then isNm nm && (isIn (ts.getD 0 .none) && isIn (ts.getD 1 .none))
      else if isS "op" w = true then isNm nm && (decide (ts.length ≤ 3) && ts.all fun t => isTr n t)
      else false
    | _ => false
  | _ + 1, _ => false
theorem isTr_cons (n : Nat) (w nm : PyData) (ts : List PyData) : isTr (n + 1) (.tuple (w :: nm :: ts)) =
    (if ts.length = 1 ∧ isS "at" w = true then isNm nm && within 0 3 (ts.getD 0 .none)
      else if ts.length = 2 ∧ isS "load" w = true then isNm nm && (isIn (ts.getD 0 .none) && isIn (ts.getD 1 .none))
      else if isS "op" w = true then isNm nm && (decide (ts.length ≤ 3) && ts.all fun t => isTr n t)
      else false) := by rw [isTr]
def hd0 : PyData → PyData
  | .tuple (d :: _) => d
  | _ => .none
def isZ : PyData → Bool
  | .int i => decide (i = 0)
  | _ => false
/-- the statement -/
def isSt : PyData → Bool
  | .tuple ds =>
    if ds.length = 3 ∧ isS "set" (ds.getD 0 .none) = true then isNm (ds.getD 1 .none) && (isTr 4 (ds.getD 2 .none) && !isS "at" (hd0 (ds.getD 2 .none)))
    else if ds.length = 6 ∧ isS "store" (ds.getD 0 .none) = true then
      isNm (ds.getD 1 .none) && (isNm (ds.getD 2 .none) && (isIn (ds.getD 3 .none) && (isIn (ds.getD 4 .none) && (!isZ (ds.getD 3 .none) && isTr 4 (ds.getD 5 .none)))))
    else false
  | _ => false
theorem isTr_tup {n : Nat} {d : PyData} (h : isTr n d = true) : ∃ w nm ts, d = .tuple (w :: nm :: ts) := by
  cases n with
  | zero => cases h
  | succ n =>
    cases d with
    | tuple ds =>
      match ds, h with
      | w :: nm :: ts, _ => exact ⟨w, nm, ts, rfl⟩
    | _ => cases h
theorem isIn_int {d : PyData} (h : isIn d = true) : ∃ i, d = .int i := by
  cases d with
  | int i => exact ⟨i, rfl⟩
  | _ => cases h
theorem isS_eq {s : Str} {d : PyData} (h : isS s d = true) : d = .str s := by
  cases d with
  | str x => rw [of_decide_eq_true (show decide (x = s) = true from h)]
  | _ => cases h
def subs : List PyData → List PyData
  | w :: r => if isS "op" w = true then r.drop 1 else []
  | [] => []
theorem isTr_sub {n : Nat} {w nm : PyData} {ts : List PyData} (h : isTr (n + 1) (.tuple (w :: nm :: ts)) = true) : (subs (w :: nm :: ts)).length ≤ 3 ∧ ∀ t ∈ subs (w :: nm :: ts), isTr n t = true := by
  have e0 : subs (w :: nm :: ts) = if isS "op" w = true then ts else [] := rfl
  rw [e0]
  by_cases c : isS "op" w = true
  · rw [if_pos c]
    have e := isS_eq c
    subst e
    rw [isTr_cons, if_neg (fun z => absurd z.2 (by decide)), if_neg (fun z => absurd z.2 (by decide)), if_pos c] at h
    simp at h
    exact ⟨h.2.1, fun t ht => h.2.2 t ht⟩
  · rw [if_neg c]
    exact ⟨Nat.zero_le _, fun t ht => by cases ht⟩
/-- the greatest, none below 0 -/
def mx (ns : List Int) : Int := ns.foldl max 0
theorem foldl_max_ge (ns : List Int) : ∀ a : Int, a ≤ ns.foldl max a ∧ (∀ y ∈ ns, y ≤ ns.foldl max a) ∧ (ns.foldl max a = a ∨ ns.foldl max a ∈ ns) := by
  induction ns with
  | nil => intro a; exact ⟨Int.le_refl _, (fun y h => by cases h), .inl rfl⟩
  | cons n ns ih =>
    intro a
    obtain ⟨h1, h2, h3⟩ := ih (max a n)
    rw [List.foldl_cons]
    refine ⟨by omega, fun y hy => ?_, ?_⟩
    · rcases List.mem_cons.mp hy with rfl | hy
      · omega
      · exact h2 y hy
    · rcases h3 with h3 | h3
      · rw [h3]
        by_cases c : a ≤ n
        · rw [Int.max_eq_right c]; exact .inr (List.mem_cons_self ..)
        · rw [Int.max_eq_left (by omega)]; exact .inl rfl
      · exact .inr (List.mem_cons_of_mem _ h3)
theorem mx_ge (ns : List Int) : 0 ≤ mx ns := (foldl_max_ge ns 0).1
theorem mx_zero {ns : List Int} {m : Int} (hm : m ∈ (0 : Int) :: ns) (h : ∀ y ∈ (0 : Int) :: ns, y ≤ m) : m = mx ns := by
  obtain ⟨h1, h2, h3⟩ := foldl_max_ge ns 0
  have a : mx ns ≤ m := by
    rcases h3 with h3 | h3
    · show ns.foldl max 0 ≤ m
      rw [h3]; exact h 0 (List.mem_cons_self ..)
    · exact h _ (List.mem_cons_of_mem _ h3)
  have b : m ≤ mx ns := by
    rcases List.mem_cons.mp hm with rfl | hm
    · exact h1
    · exact h2 m hm
  omega
theorem mx_of {ns : List Int} {m : Int} (h0 : ∀ y ∈ ns, 0 ≤ y) (hm : m ∈ ns) (h : ∀ y ∈ ns, y ≤ m) : m = mx ns :=
  mx_zero (List.mem_cons_of_mem _ hm) fun y hy => by
    rcases List.mem_cons.mp hy with rfl | hy
    · exact h0 m hm
    · exact h y hy
/-- how many levels -/
def lvl : Nat → PyData → Int
  | n + 1, .tuple ds => 1 + mx ((subs ds).map fun t => lvl n t)
  | _, _ => 0
theorem lvl_ge (n : Nat) (d : PyData) : 0 ≤ lvl n d := by
  cases n with
  | zero => exact Int.le_refl _
  | succ n =>
    cases d with
    | tuple ds =>
      have := mx_ge ((subs ds).map fun t => lvl n t)
      rw [lvl]
      omega
    | _ => exact Int.le_refl _
end Tr
set_option maxHeartbeats 4000000
/-! The names of a tree's working nodes, plain -/
namespace Tr
open PySem Lf
def kO (op : Str) (i : Nat) : Str := ((Str.empty ++ op) ++ (Str.ofString ".")) ++ Str.ofString (toString ((i : Nat) : Int))
def keysN : Nat → PyData → Str → List Str
  | n + 1, .tuple ds, op => if isS "at" (ds.getD 0 .none) = true then [] else op :: (List.range (subs ds).length).flatMap fun j => keysN n ((subs ds).getD j .none) (kO op j)
  | _, _, _ => []
def wrk : Nat → PyData → Int
  | n + 1, .tuple ds => if isS "at" (ds.getD 0 .none) = true then 0 else 1 + ((subs ds).map fun t => wrk n t).sum
  | _, _ => 0
/-- s goes on behind op with a point, if at all -/
def Goes (op s : Str) : Prop := ∃ r, s.cps.toList = op.cps.toList ++ r ∧ (r = [] ∨ ∃ q, r = 46 :: q)
def kTail (i : Nat) : List Nat := 46 :: (Str.ofString (toString ((i : Nat) : Int))).cps.toList
theorem app_cps (a b : Str) : (a ++ b).cps.toList = a.cps.toList ++ b.cps.toList := by
  show (a.cps ++ b.cps).toList = _
  rw [Array.toList_append]
theorem kO_cps (op : Str) (i : Nat) : (kO op i).cps.toList = op.cps.toList ++ kTail i := by
  unfold kO
  rw [app_cps, app_cps, app_cps]
  have e1 : (Str.empty).cps.toList = [] := rfl
  have e2 : (Str.ofString ".").cps.toList = [46] := by decide +kernel
  rw [e1, e2]
  simp [kTail]
theorem goes_refl (op : Str) : Goes op op := ⟨[], by simp, .inl rfl⟩
theorem goes_kO {op s : Str} {i : Nat} (h : Goes (kO op i) s) : Goes op s := by
  obtain ⟨r, e, _⟩ := h
  rw [kO_cps, List.append_assoc] at e
  exact ⟨_, e, .inr ⟨_, rfl⟩⟩
theorem goes_long {op s : Str} {i : Nat} (h : Goes (kO op i) s) : s ≠ op := fun z => by
  obtain ⟨r, e, _⟩ := h
  rw [kO_cps, z] at e
  have := congrArg List.length e
  simp [kTail] at this
theorem kTail_small {i : Nat} (h : i < 3) : kTail i = [46, 48 + i] := by
  match i, h with
  | 0, _ => decide +kernel
  | 1, _ => decide +kernel
  | 2, _ => decide +kernel
theorem goes_apart {op s : Str} {i j : Nat} (hi : i < 3) (hj : j < 3) (h : Goes (kO op i) s) (h' : Goes (kO op j) s) : i = j := by
  obtain ⟨r, e, _⟩ := h
  obtain ⟨r', e', _⟩ := h'
  rw [kO_cps, kTail_small hi, List.append_assoc] at e
  rw [kO_cps, kTail_small hj, List.append_assoc, e] at e'
  have e'' := List.append_cancel_left e'
  simp at e''
  omega
theorem keys_goes (n : Nat) : ∀ (d : PyData) (op s : Str), s ∈ keysN n d op → Goes op s := by
  induction n with
  | zero => intro d op s h; cases h
  | succ n ih =>
    intro d op s h
    cases d with
    | tuple ds =>
      rw [keysN] at h
      split at h
      · cases h
      · rcases List.mem_cons.mp h with rfl | h
        · exact goes_refl _
        · obtain ⟨j, _, h⟩ := List.mem_flatMap.mp h
          exact goes_kO (ih _ _ _ h)
    | _ => cases h
/-- what stands before turn i -/
def keysTo (n : Nat) (ts : List PyData) (op : Str) (i : Nat) : List Str := op :: (List.range i).flatMap fun j => keysN n (ts.getD j .none) (kO op j)
theorem keysTo_succ (n : Nat) (ts : List PyData) (op : Str) (i : Nat) : keysTo n ts op (i + 1) = keysTo n ts op i ++ keysN n (ts.getD i .none) (kO op i) := by
  unfold keysTo
  rw [List.range_succ, List.flatMap_append]
  simp
theorem keys_apart {n : Nat} {ts : List PyData} {op s : Str} {i : Nat} (hi : i < 3) (h : s ∈ keysTo n ts op i) (h' : s ∈ keysN n (ts.getD i .none) (kO op i)) : False := by
  have g := keys_goes n _ _ _ h'
  rcases List.mem_cons.mp h with rfl | h
  · exact goes_long g rfl
  · obtain ⟨j, hj, h⟩ := List.mem_flatMap.mp h
    have hj := List.mem_range.mp hj
    have := goes_apart (by omega) hi (keys_goes n _ _ _ h) g
    omega
theorem keys_nodup (n : Nat) : ∀ (d : PyData) (op : Str), isTr n d = true → (keysN n d op).Nodup := by
  induction n with
  | zero => intro d op h; exact List.nodup_nil
  | succ n ih =>
    intro d op h
    obtain ⟨w, nm, ts, rfl⟩ := isTr_tup h
    obtain ⟨h3, hall⟩ := isTr_sub h
    rw [keysN]
    split
    · exact List.nodup_nil
    · have go : ∀ i, i ≤ (subs (w :: nm :: ts)).length → (keysTo n (subs (w :: nm :: ts)) op i).Nodup := by
        intro i
        induction i with
        | zero => intro _; simp [keysTo]
        | succ i ih2 =>
          intro hi
          rw [keysTo_succ]
          refine List.nodup_append.mpr ⟨ih2 (by omega), ih _ _ ?_, ?_⟩
          · have hl : i < (subs (w :: nm :: ts)).length := by omega
            rw [List.getD_eq_getElem?_getD, List.getElem?_eq_getElem hl, Option.getD_some]
            exact hall _ (List.getElem_mem hl)
          · intro a ha b hb e
            subst e
            exact keys_apart (by omega) ha hb
      exact go _ (Nat.le_refl _)
theorem range_getD (ts : List PyData) (f : PyData → Int) : (List.range ts.length).map (fun j => f (ts.getD j .none)) = ts.map f := by
  apply List.ext_getElem
  · simp
  · intro i h1 h2
    have hi : i < ts.length := by simpa using h2
    simp [hi]
theorem flat_len {α : Type} (l : List Nat) (f : Nat → List α) : (((l.flatMap f).length : Nat) : Int) = (l.map fun j => ((f j).length : Int)).sum := by
  induction l with
  | nil => rfl
  | cons a t ih =>
    rw [List.flatMap_cons, List.length_append, List.map_cons, List.sum_cons, ← ih]
    omega
theorem keys_len (n : Nat) : ∀ (d : PyData) (op : Str), ((keysN n d op).length : Int) = wrk n d := by
  induction n with
  | zero => intro d op; rfl
  | succ n ih =>
    intro d op
    cases d with
    | tuple ds =>
      rw [keysN, wrk]
      split
      · rfl
      · rw [List.length_cons, ← range_getD (subs ds) (fun t => wrk n t)]
        have e := flat_len (List.range (subs ds).length) (fun j => keysN n ((subs ds).getD j .none) (kO op j))
        have e2 : (List.range (subs ds).length).map (fun j => ((keysN n ((subs ds).getD j .none) (kO op j)).length : Int)) = (List.range (subs ds).length).map (fun j => wrk n ((subs ds).getD j .none)) :=
          List.map_congr_left fun j _ => ih _ _
        rw [e2] at e
        omega
    | _ => rfl
theorem kO_len {op : Str} {i : Nat} (h : i < 3) : (kO op i).length = op.length + 2 := by
  have e := congrArg List.length (kO_cps op i)
  rw [List.length_append, kTail_small h] at e
  simpa [Str.length] using e
theorem getD_mem {ts : List PyData} {i : Nat} (h : i < ts.length) : ts.getD i .none ∈ ts := by
  rw [List.getD_eq_getElem?_getD, List.getElem?_eq_getElem h, Option.getD_some]
  exact List.getElem_mem h
theorem keysTo_le {n : Nat} {ts : List PyData} (h : ∀ t ∈ ts, ∀ op, (keysN n t op).length ≤ 4 ^ n) (op : Str) : ∀ i, i ≤ ts.length → (keysTo n ts op i).length ≤ 1 + i * 4 ^ n := by
  intro i
  induction i with
  | zero => intro _; simp [keysTo]
  | succ i ih =>
    intro hi
    rw [keysTo_succ, List.length_append, Nat.succ_mul]
    have := ih (by omega)
    have := h _ (getD_mem (show i < ts.length by omega)) (kO op i)
    omega
theorem keys_le (n : Nat) : ∀ (d : PyData) (op : Str), isTr n d = true → (keysN n d op).length ≤ 4 ^ n := by
  induction n with
  | zero => intro d op h; cases h
  | succ n ih =>
    intro d op h
    obtain ⟨w, nm, ts, rfl⟩ := isTr_tup h
    obtain ⟨h3, hall⟩ := isTr_sub h
    rw [keysN]
    split
    · exact Nat.zero_le _
    · have e := keysTo_le (fun t ht op => ih t op (hall t ht)) op _ (Nat.le_refl _)
      have : (subs (w :: nm :: ts)).length * 4 ^ n ≤ 3 * 4 ^ n := Nat.mul_le_mul_right _ h3
      have h4 : 0 < 4 ^ n := Nat.pow_pos (by decide)
      show (keysTo n (subs (w :: nm :: ts)) op _).length ≤ _
      rw [Nat.pow_succ]
      omega
theorem pow_small {n : Nat} (h : n ≤ 5) : 4 ^ n ≤ 1024 := Nat.le_trans (Nat.pow_le_pow_right (by decide) h) (by decide)
theorem len_app (a b : Str) : (a ++ b).length = a.length + b.length := by
  show (a.cps ++ b.cps).size = _
  rw [Array.size_append]
  rfl
end Tr
set_option maxHeartbeats 4000000
/-! Names, digits, trees, as the law looks at them; plain -/
namespace Tr
open PySem Lf
def inz (c : Nat) : Bool := decide (97 ≤ c) && decide (c ≤ 122)
theorem letters_list : letters.cps.toList = List.range' 97 26 := by decide +kernel
theorem mem_letters (c : Nat) : decide (c ∈ letters.cps.toList) = inz c := by
  rw [letters_list]
  unfold inz
  rw [← Bool.decide_and, decide_eq_decide, List.mem_range']
  constructor
  · rintro ⟨i, h, rfl⟩
    omega
  · intro h
    exact ⟨c - 97, by omega, by omega⟩
theorem lets_empty {α : Type} (x : Str) (f : Nat → α) : lets x = ((x.cps.toList.filter fun c => !inz c).map f).isEmpty := by
  unfold lets
  generalize x.cps.toList = l
  induction l with
  | nil => rfl
  | cons c l ih =>
    rw [List.all_cons, ih, mem_letters]
    cases e : inz c with
    | true => rw [List.filter_cons_of_neg (by rw [e]; decide)]; rfl
    | false => rw [List.filter_cons_of_pos (by rw [e]; rfl)]; rfl
theorem sg_lt (a b : Nat) : decide (([a] : List Nat) < [b]) = decide (a < b) := by
  rw [decide_eq_decide]
  constructor
  · intro h
    cases h with
    | rel h => exact h
    | cons h => cases h
  · intro h
    exact .rel h
theorem len_digits (n k : Nat) (h : 0 < k) : (Str.ofString (toString ((n : Nat) : Int))).length ≤ k ↔ n < 10 ^ k := by
  have e : (Str.ofString (toString ((n : Nat) : Int))).length = n.repr.length := by
    rw [PyProof.Rows.ofString_len]
    rfl
  rw [e]
  exact Nat.length_repr_le_iff h
theorem len_abs (i : Int) : decide (((Str.ofString (toString (if i < 0 then -i else i))).length : Int) ≤ 30) = isIn (.int i) := by
  have e : (if i < 0 then -i else i) = ((i.natAbs : Nat) : Int) := by split <;> omega
  rw [e]
  show _ = (decide (-lim < i) && decide (i < lim))
  rw [← Bool.decide_and, decide_eq_decide]
  have h := len_digits i.natAbs 30 (by decide)
  have l : (lim : Int) = ((10 ^ 30 : Nat) : Int) := by decide +kernel
  rw [l]
  have : ((Str.ofString (toString ((i.natAbs : Nat) : Int))).length : Int) ≤ 30 ↔ (Str.ofString (toString ((i.natAbs : Nat) : Int))).length ≤ 30 := by omega
  rw [this, h]
  generalize (10 ^ 30 : Nat) = N
  omega
theorem len_big {i : Int} (h : i.natAbs.log2 < 1920) : (Str.ofString (toString ((i.natAbs : Nat) : Int))).length ≤ 1000 := by
  refine (len_digits i.natAbs 1000 (by decide)).mpr ?_
  have h1 : i.natAbs < 2 ^ 1920 := by
    by_cases c : i.natAbs = 0
    · rw [c]; exact Nat.two_pow_pos _
    · exact (Nat.log2_lt c).mp h
  exact Nat.lt_of_lt_of_le h1 (by decide +kernel)
def core (j : Nat) (w : PyData) (ts : List PyData) : Bool :=
  if ts.length = 1 ∧ isS "at" w = true then within 0 3 (ts.getD 0 .none)
  else if ts.length = 2 ∧ isS "load" w = true then (isIn (ts.getD 0 .none) && isIn (ts.getD 1 .none))
  else if isS "op" w = true then (decide (ts.length ≤ 3) && ts.all fun t => isTr j t)
  else false
theorem isTr_core (j : Nat) (w nm : PyData) (ts : List PyData) : isTr (j + 1) (.tuple (w :: nm :: ts)) = (isNm nm && core j w ts) := by
  rw [isTr_cons]
  unfold core
  split
  · rfl
  · split
    · rfl
    · split
      · rfl
      · rw [Bool.and_false]
theorem core_at (j : Nat) (ts : List PyData) : core j (.str "at") ts = (decide (ts.length = 1) && within 0 3 (ts.getD 0 .none)) := by
  unfold core
  by_cases c : ts.length = 1
  · rw [if_pos ⟨c, by decide⟩, decide_eq_true c]; rfl
  · rw [if_neg (fun z => c z.1), if_neg (fun z => absurd z.2 (by decide)), if_neg (by decide), decide_eq_false c]; rfl
theorem core_load (j : Nat) (ts : List PyData) : core j (.str "load") ts = (decide (ts.length = 2) && (isIn (ts.getD 0 .none) && isIn (ts.getD 1 .none))) := by
  unfold core
  rw [if_neg (fun z => absurd z.2 (by decide))]
  by_cases c : ts.length = 2
  · rw [if_pos ⟨c, by decide⟩, decide_eq_true c]; rfl
  · rw [if_neg (fun z => c z.1), if_neg (by decide), decide_eq_false c]; rfl
theorem core_op (j : Nat) (ts : List PyData) : core j (.str "op") ts = (decide (ts.length ≤ 3) && ts.all fun t => isTr j t) := by
  unfold core
  rw [if_neg (fun z => absurd z.2 (by decide)), if_neg (fun z => absurd z.2 (by decide)), if_pos (by decide)]
theorem core_no {j : Nat} {w : PyData} {ts : List PyData} (h1 : isS "at" w = false) (h2 : isS "load" w = false) (h3 : isS "op" w = false) : core j w ts = false := by
  unfold core
  rw [if_neg (fun z => by rw [h1] at z; cases z.2), if_neg (fun z => by rw [h2] at z; cases z.2), if_neg (by rw [h3]; decide)]
theorem all_empty {α : Type} (l : List α) (p : α → Bool) : l.all p = ((l.filter fun t => !p t).map id).isEmpty := by
  induction l with
  | nil => rfl
  | cons c l ih =>
    rw [List.all_cons, ih]
    cases e : p c with
    | true => rw [List.filter_cons_of_neg (by rw [e]; decide)]; rfl
    | false => rw [List.filter_cons_of_pos (by rw [e]; rfl)]; rfl
theorem showable_mem {ds : List PyData} (h : PyData.showableAll ds = true) : ∀ d ∈ ds, d.showable = true := by
  induction ds with
  | nil => intro d hd; cases hd
  | cons a t ih =>
    rw [PyData.showableAll, Bool.and_eq_true] at h
    intro d hd
    rcases List.mem_cons.mp hd with rfl | hd
    · exact h.1
    · exact ih h.2 d hd
theorem showable_all {ds : List PyData} (h : ∀ d ∈ ds, d.showable = true) : PyData.showableAll ds = true := by
  induction ds with
  | nil => rfl
  | cons a t ih =>
    rw [PyData.showableAll, Bool.and_eq_true]
    exact ⟨h a (List.mem_cons_self ..), ih fun d hd => h d (List.mem_cons_of_mem _ hd)⟩
end Tr
set_option maxHeartbeats 4000000
namespace My
open PySem L2 Lf Evl Tr
def top (i : Nat) : Stmt := PySem.Challenge.pw_loopfoundry_k01_trees_and_statements_jud.main.body.getD i (.Pass ⟨0, 0, 0, 0⟩)
structure Txt (P : Program) (K : PySem.W.Frag) (mg : Str → Option Value) (CA : Addr) : Prop where
  n_isinstance : mg "isinstance" = none
  n_int : mg "int" = none
  n_bool : mg "bool" = none
  n_str : mg "str" = none
  n_tuple : mg "tuple" = none
  n_len : mg "len" = none
  n_abs : mg "abs" = none
  n_max : mg "max" = none
  n_min : mg "min" = none
  n_list : mg "list" = none
  n_range : mg "range" = none
  n_all : mg "all" = none
  n_sum : mg "sum" = none
  n_repr : mg "repr" = none
  n_enumerate : mg "enumerate" = none
  g_LETTERS : ∃ t, mg "LETTERS" = some (.str letters t)
  g_MAX_NAME : ∃ t, mg "MAX_NAME" = some (.int 8 t)
  g_LIMIT : ∃ t, mg "LIMIT" = some (.int lim t)
  g_AT : ∃ t, mg "AT" = some (.str "at" t)
  g_LOAD : ∃ t, mg "LOAD" = some (.str "load" t)
  g_OP : ∃ t, mg "OP" = some (.str "op" t)
  g_SET : ∃ t, mg "SET" = some (.str "set" t)
  g_STORE : ∃ t, mg "STORE" = some (.str "store" t)
  g_MAX_LEVELS : ∃ t, mg "MAX_LEVELS" = some (.int 4 t)
  g_MAX_TREES : ∃ t, mg "MAX_TREES" = some (.int 3 t)
  g_MAX_DISTANCE : ∃ t, mg "MAX_DISTANCE" = some (.int 3 t)
  gA : mg "InvalidTree" = some (.ref CA)
  xA : PySem.W.excIn K CA [.type "ValueError", .type "Exception", .type "BaseException", .type "object"] "ValueError.__new__" = true
  kA : PySem.W.keepIn K (.ref CA) = true
  bA : PySem.W.subIn K (.ref CA) (.type "BaseException") = some true
  tA : PySem.W.typeIn K (.ref CA) = some (.type "type")
abbrev s_is_name : Stmt := top 7
theorem sc_is_name : FnScope ["value", "letter"] ["value"] (defScope s_is_name) := ⟨rfl, rfl, rfl, by decide +kernel, rfl, by decide +kernel, by decide +kernel⟩
abbrev s_is_number : Stmt := top 8
theorem sc_is_number : FnScope ["value"] ["value"] (defScope s_is_number) := ⟨rfl, rfl, rfl, by decide +kernel, rfl, by decide +kernel, by decide +kernel⟩
abbrev s_is_integer : Stmt := top 9
theorem sc_is_integer : FnScope ["value"] ["value"] (defScope s_is_integer) := ⟨rfl, rfl, rfl, by decide +kernel, rfl, by decide +kernel, by decide +kernel⟩
abbrev s_is_within : Stmt := top 10
theorem sc_is_within : FnScope ["value", "low", "high"] ["value", "low", "high"] (defScope s_is_within) := ⟨rfl, rfl, rfl, by decide +kernel, rfl, by decide +kernel, by decide +kernel⟩
theorem if_so {c : Bool} {A B : Prop} (hc : c = true) (h : A) : if c = true then A else B := by
  rw [if_pos hc]
  exact h
theorem if_no {c : Bool} {A B : Prop} (hc : c = false) (h : B) : if c = true then A else B := by
  rw [hc, if_neg Bool.false_ne_true]
  exact h
/-! ### more of what evaluates -/
section
variable {K : PySem.W.Frag} {σ : L2.St} {G : Hp} {ta tb tc te : TE} {t u : TT} {d : PyData}
theorem da_isS {H : Hp} {v : V} {z : Str} (h : Da H v d) : decide (v = .str z) = isS z d := by
  cases h <;> simp [isS]
theorem ev_eqS {z : Str} (ha : EvD ta σ G d) (hb : Ev tb σ G (.str z)) : Ev (tOp rEqS ta tb) σ G (.bl (isS z d)) := fun H1 x Q q => ha G H1 (Ex.refl _) x _ fun v G2 H2 r hd => hb H2 (r.g.trans r.s) _ fun H3 x3 =>
  ⟨_, z, rfl, (hd.up (r.s.trans x3)).kd, by rw [da_isS hd]; exact q H3 (r.h.trans x3)⟩
theorem ev_neS {z : Str} (ha : EvD ta σ G d) (hb : Ev tb σ G (.str z)) : Ev (tOp rNeS ta tb) σ G (.bl (!isS z d)) := fun H1 x Q q => ha G H1 (Ex.refl _) x _ fun v G2 H2 r hd => hb H2 (r.g.trans r.s) _ fun H3 x3 =>
  ⟨_, z, rfl, (hd.up (r.s.trans x3)).kd, by rw [da_isS hd]; exact q H3 (r.h.trans x3)⟩
theorem ev_chain {f g : Int → Int → Bool} {a b c : Int} (ha : Ev ta σ G (.int a)) (hb : Ev tb σ G (.int b)) (hc : Ev tc σ G (.int c)) : Ev (tChain (rI0 fun i j => .bl (f i j)) (rI0 fun i j => .bl (g i j)) ta tb tc) σ G (.bl (f a b && g b c)) := fun H1 x Q q =>
  ha H1 x _ fun H2 x2 => hb H2 (x.trans x2) _ fun H3 x3 => ⟨a, b, rfl, rfl, f a b, rfl, by
    have q3 : ∀ H4, Ex H3 H4 → Q (.bl (f a b && g b c)) H4 := fun H4 x4 => q H4 ((x2.trans x3).trans x4)
    generalize f a b = fb at *
    cases fb with
    | false => exact if_no rfl (q3 H3 (Ex.refl _))
    | true => exact if_so rfl (hc H3 ((x.trans x2).trans x3) _ fun H4 x4 => ⟨b, c, rfl, rfl, q3 H4 x4⟩)⟩
end
def f1 (f : PyData → PyData) : List PyData → Option PyData
  | [d] => some (f d)
  | _ => none
def spB (f : PyData → Bool) : Sp := spF (f1 fun d => .bool (f d))
def spW : Sp := spF fun ds => match ds with
  | [d, .int a, .int b] => some (.bool (within a b d))
  | _ => none
theorem spF_len {F : List PyData → Option PyData} {n : Nat} (hF : ∀ ds d, F ds = some d → ds.length = n) {vs : List V} {H : Hp} {Q : VK} {E : XK} (h : spF F vs H Q E) : vs.length = n := by
  obtain ⟨G, ds, d, _, h2, h3, _⟩ := h
  rw [h2.len, hF ds d h3]
theorem f1_len {f : PyData → PyData} (ds : List PyData) (d : PyData) (h : f1 f ds = some d) : ds.length = 1 := by
  unfold f1 at h
  split at h
  · rfl
  · cases h
theorem spB_of {f : PyData → Bool} {vs : List V} {H : Hp} {Q : VK} {E : XK} (h : spB f vs H Q E) : ∃ G v d, vs = [v] ∧ Ex G H ∧ Da G v d ∧ ∀ H', Ex H H' → Q (.bl (f d)) H' := by
  obtain ⟨G, ds, d, s, h2, h3, k⟩ := h
  unfold f1 at h3
  split at h3
  · rename_i d'
    cases h3
    cases h2 with
    | cons h t =>
      cases t
      exact ⟨G, _, d', rfl, s, h, fun H' x => k _ G H' (Gr.keep s x) (.bl _)⟩
  · cases h3
theorem isNm_str (x : Str) : isNm (.str x) = (decide (1 ≤ x.length) && decide (x.length ≤ 8) && lets x) := rfl
theorem filter_yes {α : Type} (l : List α) : l.filter (fun _ => true) = l := List.filter_eq_self.mpr fun _ _ => rfl
theorem kd_str {d : PyData} (h : kd d = "str") : ∃ x, d = .str x := by
  cases d with
  | str x => exact ⟨x, rfl⟩
  | none => exact absurd h (by decide)
  | bool b => exact absurd h (show ¬ "bool" = "str" by decide)
  | int b => exact absurd h (show ¬ "int" = "str" by decide)
  | list b => exact absurd h (show ¬ "list" = "str" by decide)
  | tuple b => exact absurd h (show ¬ "tuple" = "str" by decide)
  | dict b => exact absurd h (show ¬ "dict" = "str" by decide)
section
variable {K : PySem.W.Frag} {σ : L2.St} {G H : Hp} {te : TE} {d : PyData} {D : Ends} {v : V} {f : PyData → Bool} {E : XK}
theorem ev_lenS {z : Str} (h : EvD te σ G (.str z)) : Ev (tCB (fun xs H Q => ∃ z : Str, xs = [V.str z] ∧ z.length ≤ sizeLine ∧ Q (.int z.length) H) (tCons te tNil)) σ G (.int (z.length : Int)) := fun H1 x Q q => h G H1 (Ex.refl _) x _ fun v G2 H2 r hd => by
  obtain ⟨rfl, hl⟩ := hd.str_
  exact ⟨z, rfl, Nat.le_trans hl (by decide), q H2 r.h⟩
theorem ev_callB (h : EvD te σ G d) : Ev (tCallD (spB f) E (tCons te tNil)) σ G (.bl (f d)) := EvD.bl_ (evd_call (evd_cons h evd_nil) rfl)
theorem Ev.ret (s : Ex G H) (h : Ev te σ G v) (k : ∀ H1, Ex H H1 → D.rt v H1) : tRet te D σ H := h H s _ k
end
section
variable {P : Program} {w : World} {K : PySem.W.Frag} {mg : Str → Option Value} {base : Heap} {CA : Addr}
theorem ok_is_name (T : Txt P K mg CA) (D : Df K mg "is_name" s_is_name) : DefOk P w K mg base CX0 1 "is_name" ["value"] (spB isNm) := by
  refine D.ok sc_is_name (fun _ _ _ _ _ _ us hl => match us, hl with | [_], _ => rfl) (fun vs H Q E h => spF_len f1_len h) (fun f cdv A outer s H vs Q E hr h => ?_)
  obtain ⟨G, v, d, rfl, s, hd, k⟩ := spB_of h
  refine ⟨_, (pss_cons (ps_if (PW.pt (pw_or (pt_not (pt_val (pe_callB call_isi (by rfl) T.n_isinstance (by decide +kernel) (pa_cons (pv 0) (pa_cons (pe_bltn (v := .ty "str") (by rfl) T.n_str (by decide +kernel) rfl) pa_nil))))) (pw_or1 (pt_not (pt_chain op_le op_le pe_int (pe_callB call_len_str (by rfl) T.n_len (by decide +kernel) (pa_cons (pv 0) pa_nil)) (pe_gInt (by rfl) T.g_MAX_NAME))))))
 (pss_one (ps_ret pe_bl))
 pss_nil)
 (pss_one (ps_ret (pe_callB (cr_all rfl) (by rfl) T.n_all (by decide +kernel) (pa_cons (pe_lc (own := [("letter", 1)]) (by rfl) sc_is_name.nd (pi_str (pv 0)) (blkOk_by (own := [("letter", 1)]) (N := ["value", "letter"]) (sc := defScope s_is_name) (by decide +kernel)) (fun _ _ _ _ _ => (pg_name (i := 1) sc_is_name.nd rfl (Or.inl rfl))) (fun _ _ _ _ _ => pts_nil) (fun _ _ _ _ _ => (pe_cmpR op_in_sign (pv 1) (pe_gStr (by rfl) T.g_LETTERS) (by rfl)))) pa_nil))))), ?_⟩
  by_cases c : kd d = "str"
  · obtain ⟨x, rfl⟩ := kd_str c
    obtain ⟨rfl, hl⟩ := hd.str_
    refine q_ifD s (et_or (et_not (et_B (ev_isStr (evd_var rfl hd)))) (fun _ => et_not (et_test (ev_chain ev_c (ev_lenS (evd_var rfl hd)) ev_c)))) (fun hb H1 x1 => ?_) (fun hb H1 x1 => ?_)
    · have : isNm (.str x) = false := by
        simp [kd] at hb
        rw [isNm_str]
        rcases hb with hb | hb
        · rw [decide_eq_false (by omega : ¬ 1 ≤ x.length)]
          rfl
        · rw [decide_eq_false (by omega : ¬ x.length ≤ 8)]
          simp
      rw [this] at k
      exact k H1 x1
    · simp [kd] at hb
      have a1 : 1 ≤ x.length ∧ x.length ≤ 8 := by omega
      have e2 : isNm (.str x) = ((x.cps.toList.map fun c => decide (c ∈ letters.cps.toList)).all id) := by
        rw [isNm_str]
        unfold lets
        rw [decide_eq_true a1.1, decide_eq_true a1.2, List.all_map]
        rfl
      rw [e2] at k
      refine s_ret (ev_allD (K := K) (EvD.is (evd_lcS (fun _ => true) (fun c => .bool (decide (c ∈ letters.cps.toList))) (evd_var rfl (hd.up (s.trans x1))) (fun _ => rfl) (fun c _ => et_yes (b := true)) (fun c _ _ => evd_bl (fun H2 x2 Q' q' => ⟨_, rfl, c, letters, rfl, rfl, q' H2 (Ex.refl _)⟩))) ?_)) (fun H2 x2 => k H2 (x1.trans x2))
      rw [filter_yes, List.map_map]
      rfl
  · have nm : isNm d = false := by cases d <;> (first | rfl | exact absurd rfl c)
    rw [nm] at k
    refine q_ifD s (b := true) (fun H1 x1 Q' q' => (ev_isStr (evd_var rfl hd)) H1 x1 _ fun H2 x2 => ⟨_, rfl, ?_⟩) (fun _ H1 x1 => k H1 x1) (fun z => by cases z)
    rw [beq_eq_false_iff_ne.mpr c]
    exact q' H2 x2
theorem ok_is_number (T : Txt P K mg CA) (D : Df K mg "is_number" s_is_number) : DefOk P w K mg base CX0 1 "is_number" ["value"] (spB isNu) := by
  refine D.ok sc_is_number (fun _ _ _ _ _ _ us hl => match us, hl with | [_], _ => rfl) (fun vs H Q E h => spF_len f1_len h) (fun f cdv A outer s H vs Q E hr h => ?_)
  obtain ⟨G, v, d, rfl, s, hd, k⟩ := spB_of h
  refine ⟨_, (pss_one (ps_ret (pe_and (pe_callB call_isi (by rfl) T.n_isinstance (by decide +kernel) (pa_cons (pv 0) (pa_cons (pe_bltn (v := .ty "int") (by rfl) T.n_int (by decide +kernel) rfl) pa_nil))) (pe_one (pe_not (pe_callB call_isi (by rfl) T.n_isinstance (by decide +kernel) (pa_cons (pv 0) (pa_cons (pe_bltn (v := .ty "bool") (by rfl) T.n_bool (by decide +kernel) rfl) pa_nil)))))))), ?_⟩
  have e : isNu d = ((kd d == "int" || kd d == "bool") && !(kd d == "bool")) := by cases d <;> rfl
  rw [e] at k
  exact Ev.ret s (ev_andV (ev_isInt (evd_var rfl hd)) fun _ => ev_notV (ev_isBool (evd_var rfl hd))) k
theorem ok_is_integer (T : Txt P K mg CA) (D : Df K mg "is_integer" s_is_integer) (D_is_number : DefOk P w K mg base CX0 1 "is_number" ["value"] (spB isNu)) : DefOk P w K mg base CX0 2 "is_integer" ["value"] (spB isIn) := by
  refine D.ok sc_is_integer (fun _ _ _ _ _ _ us hl => match us, hl with | [_], _ => rfl) (fun vs H Q E h => spF_len f1_len h) (fun f cdv A outer s H vs Q E hr h => ?_)
  obtain ⟨G, v, d, rfl, s, hd, k⟩ := spB_of h
  refine ⟨_, (pss_one (ps_ret (pe_and (pe_callD D_is_number (hr.mono (by decide)) pass0 (pa_cons (pv 0) pa_nil)) (pe_one (pe_chain op_lt op_lt (pe_un un_neg (pe_gInt (by rfl) T.g_LIMIT)) (pv 0) (pe_gInt (by rfl) T.g_LIMIT)))))), ?_⟩
  have e : isIn d = (isNu d && isIn d) := by cases d <;> rfl
  rw [e] at k
  refine Ev.ret s (ev_andV (ev_callB (evd_var rfl hd)) fun hb => ?_) k
  cases d with
  | int i => rw [hd.int_]; exact ev_chain (ev_un ev_c ru_neg) (ev_var rfl) ev_c
  | _ => cases hb
theorem ok_is_within (T : Txt P K mg CA) (D : Df K mg "is_within" s_is_within) (D_is_integer : DefOk P w K mg base CX0 2 "is_integer" ["value"] (spB isIn)) : DefOk P w K mg base CX0 3 "is_within" ["value", "low", "high"] spW := by
  refine D.ok sc_is_within (fun _ _ _ _ _ _ us hl => match us, hl with | [_, _, _], _ => rfl) (fun vs H Q E h => spF_len (fun ds d e => ?_) h) (fun f cdv A outer s H vs Q E hr h => ?_)
  · split at e
    · rfl
    · cases e
  obtain ⟨G, ds, d0, s, h2, h3, k⟩ := h
  dsimp only at h3
  split at h3
  · rename_i d a b
    cases h3
    cases h2 with
    | cons hd t =>
      cases t with
      | cons ha t =>
        cases t with
        | cons hb t =>
          cases t
          refine ⟨_, (pss_one (ps_ret (pe_and (pe_callD D_is_integer (hr.mono (by decide)) pass0 (pa_cons (pv 0) pa_nil)) (pe_one (pe_chain op_le op_le (pv 1) (pv 0) (pv 2)))))), ?_⟩
          have e : within a b d = (isIn d && within a b d) := by
            cases d with
            | int i =>
              show ((decide (-lim < i) && decide (i < lim)) && _) = ((decide (-lim < i) && decide (i < lim)) && ((decide (-lim < i) && decide (i < lim)) && _))
              cases (decide (-lim < i) && decide (i < lim)) <;> rfl
            | _ => rfl
          rw [e] at k
          refine Ev.ret s (ev_andV (ev_callB (evd_var rfl hd)) fun hb2 => ?_) (fun H1 x1 => k _ G H1 (Gr.keep s x1) (.bl _))
          cases d with
          | int i =>
            rw [hd.int_, ha.int_, hb.int_]
            have e2 : within a b (.int i) = (decide (a ≤ i) && decide (i ≤ b)) := by
              show ((decide (-lim < i) && decide (i < lim)) && _) = _
              rw [show (decide (-lim < i) && decide (i < lim)) = true from hb2]
              rfl
            rw [e2]
            exact ev_chain (ev_var rfl) (ev_var rfl) (ev_var rfl)
          | _ => cases hb2
  · cases h3
end
end My
set_option maxHeartbeats 4000000
namespace My
open PySem L2 Lf Evl Tr
abbrev s_is_tree_of : Stmt := top 20
theorem sc_is_tree_of : FnScope ["value", "most", "word", "name", "distance", "array", "step", "offset", "operator", "trees", "tree"] ["value", "most"] (defScope s_is_tree_of) := ⟨rfl, rfl, rfl, by decide +kernel, rfl, by decide +kernel, by decide +kernel⟩
abbrev s_is_tree : Stmt := top 21
theorem sc_is_tree : FnScope ["value"] ["value"] (defScope s_is_tree) := ⟨rfl, rfl, rfl, by decide +kernel, rfl, by decide +kernel, by decide +kernel⟩
abbrev s_is_statement : Stmt := top 22
theorem sc_is_statement : FnScope ["value", "word", "name", "tree", "array", "step", "offset"] ["value"] (defScope s_is_statement) := ⟨rfl, rfl, rfl, by decide +kernel, rfl, by decide +kernel, by decide +kernel⟩
def spT (n : Nat) : Sp := spF fun ds => match ds with
  | [d, .int m] => if 0 ≤ m ∧ m < n then some (.bool (isTr m.toNat d)) else none
  | _ => none
theorem spT_len {n : Nat} {vs : List V} {H : Hp} {Q : VK} {E : XK} (h : spT n vs H Q E) : vs.length = 2 := by
  refine spF_len (fun ds d e => ?_) h
  split at e
  · rfl
  · cases e
theorem spT_of {n : Nat} {vs : List V} {H : Hp} {Q : VK} {E : XK} (h : spT n vs H Q E) : ∃ G v d m, vs = [v, .int m] ∧ Ex G H ∧ Da G v d ∧ 0 ≤ m ∧ m < n ∧ ∀ H', Ex H H' → Q (.bl (isTr m.toNat d)) H' := by
  obtain ⟨G, ds, d, s, h2, h3, k⟩ := h
  dsimp only at h3
  split at h3
  · rename_i d' m
    split at h3
    · rename_i hm
      cases h3
      cases h2 with
      | cons h t =>
        cases t with
        | cons h' t =>
          cases t
          rw [h'.int_]
          exact ⟨G, _, d', m, rfl, s, h, hm.1, hm.2, fun H' x => k _ G H' (Gr.keep s x) (.bl _)⟩
    · cases h3
  · cases h3
theorem ev_callT {n : Nat} {σ : L2.St} {G : Hp} {ta tb : TE} {d : PyData} {m : Int} {E : XK} (h : EvD ta σ G d) (hb : Ev tb σ G (.int m)) (h0 : 0 ≤ m) (h1 : m < n) : EvD (tCallD (spT n) E (tCons ta (tCons tb tNil))) σ G (.bool (isTr m.toNat d)) :=
  evd_call (evd_cons h (evd_cons (evd_int hb) evd_nil)) (by dsimp only; rw [if_pos ⟨h0, h1⟩])
theorem ev_callW {σ : L2.St} {G : Hp} {ta tb tc : TE} {d : PyData} {a b : Int} {E : XK} (h : EvD ta σ G d) (ha : Ev tb σ G (.int a)) (hb : Ev tc σ G (.int b)) : Ev (tCallD spW E (tCons ta (tCons tb (tCons tc tNil)))) σ G (.bl (within a b d)) :=
  EvD.bl_ (evd_call (evd_cons h (evd_cons (evd_int ha) (evd_cons (evd_int hb) evd_nil))) rfl)
theorem kd_tup {d : PyData} (c : kd d = "tuple") : ∃ ds, d = .tuple ds := by
  cases d with
  | tuple ds => exact ⟨ds, rfl⟩
  | none => exact absurd c (by decide)
  | bool b => exact absurd c (show ¬ "bool" = "tuple" by decide)
  | int b => exact absurd c (show ¬ "int" = "tuple" by decide)
  | list b => exact absurd c (show ¬ "list" = "tuple" by decide)
  | str b => exact absurd c (show ¬ "str" = "tuple" by decide)
  | dict b => exact absurd c (show ¬ "dict" = "tuple" by decide)
section
variable {P : Program} {w : World} {K : PySem.W.Frag} {mg : Str → Option Value} {base : Heap} {CA : Addr}
theorem ok_tree0 (D : Df K mg "is_tree_of" s_is_tree_of) : DefOk P w K mg base CX0 3 "is_tree_of" ["value", "most"] (spT 0) := by
  refine D.ok sc_is_tree_of (fun _ _ _ _ _ _ us hl => match us, hl with | [_, _], _ => rfl) (fun vs H Q E h => spT_len h) (fun f cdv A outer s H vs Q E hr h => ?_)
  obtain ⟨_, _, _, m, _, _, _, h0, h1, _⟩ := spT_of h
  exact absurd h1 (by omega)
theorem ok_treeS (T : Txt P K mg CA) (D : Df K mg "is_tree_of" s_is_tree_of) {n l : Nat} (hl3 : 3 ≤ l) (D_is_tree_of : DefOk P w K mg base CX0 l "is_tree_of" ["value", "most"] (spT n)) (D_is_name : DefOk P w K mg base CX0 1 "is_name" ["value"] (spB isNm))
    (D_is_integer : DefOk P w K mg base CX0 2 "is_integer" ["value"] (spB isIn)) (D_is_within : DefOk P w K mg base CX0 3 "is_within" ["value", "low", "high"] spW) : DefOk P w K mg base CX0 (l + 1) "is_tree_of" ["value", "most"] (spT (n + 1)) := by
  refine D.ok sc_is_tree_of (fun _ _ _ _ _ _ us hl => match us, hl with | [_, _], _ => rfl) (fun vs H Q E h => spT_len h) (fun f cdv A outer s H vs Q E hr h => ?_)
  obtain ⟨G, v, d, m, rfl, s, hd, m0, m1, k⟩ := spT_of h
  refine ⟨_, (pss_cons (ps_if (PW.pt (pw_or (pt_not (pt_val (pe_callB call_isi (by rfl) T.n_isinstance (by decide +kernel) (pa_cons (pv 0) (pa_cons (pe_bltn (v := .ty "tuple") (by rfl) T.n_tuple (by decide +kernel) rfl) pa_nil))))) (pw_or1 (pt_cmpR op_eq (pv 1) pe_int (nomark _)))))
 (pss_one (ps_ret pe_bl))
 pss_nil)
 (pss_cons (ps_match (pv 0) (pmc_case rfl (.cons ⟨_, rfl⟩ (.cons ⟨_, rfl⟩ (.cons ⟨_, rfl⟩ .nil))) rfl (pns_cons (i := 2) sc_is_tree_of.nd rfl (Or.inl rfl) (pns_cons (i := 3) sc_is_tree_of.nd rfl (Or.inl rfl) (pns_cons (i := 4) sc_is_tree_of.nd rfl (Or.inl rfl) pns_nil))) (pt_cmpR (op_eqS hr.units0) (pv 2) (pe_gStr (by rfl) T.g_AT) (nomark _))
 (pss_one (ps_ret (pe_and (pe_callD D_is_name (hr.mono (by omega)) pass0 (pa_cons (pv 3) pa_nil)) (pe_one (pe_callD D_is_within (hr.mono (by omega)) pass0 (pa_cons (pv 4) (pa_cons pe_int (pa_cons (pe_gInt (by rfl) T.g_MAX_DISTANCE) pa_nil))))))))
 (pmc_case rfl (.cons ⟨_, rfl⟩ (.cons ⟨_, rfl⟩ (.cons ⟨_, rfl⟩ (.cons ⟨_, rfl⟩ .nil)))) rfl (pns_cons (i := 2) sc_is_tree_of.nd rfl (Or.inl rfl) (pns_cons (i := 5) sc_is_tree_of.nd rfl (Or.inl rfl) (pns_cons (i := 6) sc_is_tree_of.nd rfl (Or.inl rfl) (pns_cons (i := 7) sc_is_tree_of.nd rfl (Or.inl rfl) pns_nil)))) (pt_cmpR (op_eqS hr.units0) (pv 2) (pe_gStr (by rfl) T.g_LOAD) (nomark _))
 (pss_one (ps_ret (pe_and (pe_callD D_is_name (hr.mono (by omega)) pass0 (pa_cons (pv 5) pa_nil)) (pe_and (pe_callD D_is_integer (hr.mono (by omega)) pass0 (pa_cons (pv 6) pa_nil)) (pe_one (pe_callD D_is_integer (hr.mono (by omega)) pass0 (pa_cons (pv 7) pa_nil)))))))
 (pmc_caseT (ps := [_, _]) rfl rfl (.cons ⟨_, rfl⟩ (.cons ⟨_, rfl⟩ .nil)) rfl (by decide) (pns_cons (i := 2) sc_is_tree_of.nd rfl (Or.inl rfl) (pns_cons (i := 8) sc_is_tree_of.nd rfl (Or.inl rfl) (pns_cons (i := 9) sc_is_tree_of.nd rfl (Or.inl rfl) pns_nil))) (pt_cmpR (op_eqS hr.units0) (pv 2) (pe_gStr (by rfl) T.g_OP) (nomark _))
 (pss_cons (ps_if (PW.pt (pw_or (pt_not (pt_val (pe_callD D_is_name (hr.mono (by omega)) pass0 (pa_cons (pv 8) pa_nil)))) (pw_or1 (pt_cmpR op_gt (pe_callB call_len_seq (by rfl) T.n_len (by decide +kernel) (pa_cons (pv 9) pa_nil)) (pe_gInt (by rfl) T.g_MAX_TREES) (nomark _)))))
 (pss_one (ps_ret pe_bl))
 pss_nil)
 (pss_one (ps_ret (pe_callB (cr_all rfl) (by rfl) T.n_all (by decide +kernel) (pa_cons (pe_lc (own := [("tree", 10)]) (by rfl) sc_is_tree_of.nd (pi_list (pv 9)) (blkOk_by (own := [("tree", 10)]) (N := ["value", "most", "word", "name", "distance", "array", "step", "offset", "operator", "trees", "tree"]) (sc := defScope s_is_tree_of) (by decide +kernel)) (fun _ _ _ _ _ => (pg_name (i := 10) sc_is_tree_of.nd rfl (Or.inl rfl))) (fun _ _ _ _ _ => pts_nil) (fun _ _ _ _ _ => (pe_callD D_is_tree_of (hr.mono (by omega)) pass0 (pa_cons (pv 10) (pa_cons (pe_op op_sub (pv 1) pe_int) pa_nil))))) pa_nil)))))
 pmc_nil))))
 (pss_one (ps_ret pe_bl)))), ?_⟩
  by_cases c : kd d = "tuple"
  · obtain ⟨ds, rfl⟩ : ∃ ds, d = .tuple ds := by
      cases d with
      | tuple ds => exact ⟨ds, rfl⟩
      | none => exact absurd c (by decide)
      | bool b => exact absurd c (show ¬ "bool" = "tuple" by decide)
      | int b => exact absurd c (show ¬ "int" = "tuple" by decide)
      | list b => exact absurd c (show ¬ "list" = "tuple" by decide)
      | str b => exact absurd c (show ¬ "str" = "tuple" by decide)
      | dict b => exact absurd c (show ¬ "dict" = "tuple" by decide)
    refine q_ifD s (b := decide (m = 0)) (fun H1 x1 Q' q' => (ev_isTup (evd_var rfl hd)) H1 x1 _ fun H2 x2 => ⟨_, rfl, if_no rfl ⟨_, rfl, rfl, _, rfl, ?_⟩⟩) (fun hb H1 x1 => ?_) (fun hb H1 x1 => ?_)
    · have : decide (V.int m = V.int 0) = decide (m = 0) := by rw [decide_eq_decide]; simp
      rw [this]
      exact q' H2 x2
    · have z : m = 0 := of_decide_eq_true hb
      subst z
      exact k H1 x1
    · have z : ¬ m = 0 := of_decide_eq_false hb
      obtain ⟨j, rfl⟩ : ∃ j : Nat, m = (j : Int) + 1 := ⟨(m - 1).toNat, by omega⟩
      have e1 : ((j : Int) + 1).toNat = j + 1 := by omega
      rw [e1] at k
      obtain ⟨a, xs, rfl, ea, hs⟩ := hd.tup_
      have s1 := s.trans x1
      dsimp only [tNext]
      have ret : ∀ {H' : Hp}, Ex H H' → isTr (j + 1) (.tuple ds) = false → Q (.bl false) H' := fun x e => by
        rw [e] at k
        exact k _ x
      have hlen := hs.len
      refine ⟨_, rfl, tCase_cut (fun σ' H' => (∃ v2 v3 v4 v5 v6 v7 v8 v9 v10, σ' = [some (.ref a), some (.int ((j : Int) + 1)), v2, v3, v4, v5, v6, v7, v8, v9, v10]) ∧ Ex H H' ∧ ¬ (ds.length = 3 ∧ isS "at" (ds.getD 0 .none) = true)) (SqT.of (s1 _ _ ea)) (fun h3 r' hr' => ?_) (fun h3 => ⟨⟨_, _, _, _, _, _, _, _, _, rfl⟩, x1, fun z => h3 (by rw [hlen]; exact z.1)⟩) ?_⟩
      · have h3 : xs.length = 3 := h3
        obtain ⟨dw, dn, dd, rfl⟩ : ∃ dw dn dd, ds = [dw, dn, dd] := by
          match ds, (by omega : ds.length = 3) with
          | [a, b, c], _ => exact ⟨a, b, c, rfl⟩
        cases hs with
        | cons hw t =>
          cases t with
          | cons hn t =>
            cases t with
            | cons hc t =>
              cases t
              refine ⟨_, _, rfl, _, _, rfl, _, _, rfl, rfl, ?_⟩
              refine (et_test (ev_eqS (evd_var rfl hw) ev_c)) H1 s1 _ fun H2 x2 => ?_
              cases hb1 : isS "at" dw with
              | true =>
                refine if_so rfl ?_
                have e2 : isTr (j + 1) (.tuple [dw, dn, dd]) = (isNm dn && within 0 3 dd) := by
                  rw [isTr_cons, if_pos ⟨rfl, hb1⟩]
                  rfl
                rw [e2] at k
                exact Ev.ret (s1.trans x2) (ev_andV (ev_callB (evd_var rfl hn)) fun _ => ev_callW (evd_var rfl hc) ev_c ev_c) (fun H3 x3 => k H3 ((x1.trans x2).trans x3))
              | false =>
                refine if_no rfl (hr' _ _ ⟨⟨_, _, _, _, _, _, _, _, _, rfl⟩, x1.trans x2, fun z => ?_⟩)
                have := z.2
                rw [show [dw, dn, dd].getD 0 .none = dw from rfl, hb1] at this
                cases this
      · rintro σ' H' ⟨⟨v2, v3, v4, v5, v6, v7, v8, v9, v10, rfl⟩, x', n1⟩
        refine tCase_cut (fun σ' H' => (∃ v2 v3 v4 v5 v6 v7 v8 v9 v10, σ' = [some (.ref a), some (.int ((j : Int) + 1)), v2, v3, v4, v5, v6, v7, v8, v9, v10]) ∧ Ex H H' ∧ ¬ (ds.length = 4 ∧ isS "load" (ds.getD 0 .none) = true)) (SqT.of (s.trans x' _ _ ea)) (fun h3 r' hr' => ?_) (fun h3 => ⟨⟨_, _, _, _, _, _, _, _, _, rfl⟩, x', fun z => h3 (by rw [hlen]; exact z.1)⟩) ?_
        · have h3 : xs.length = 4 := h3
          obtain ⟨dw, dn, dd, de, rfl⟩ : ∃ dw dn dd de, ds = [dw, dn, dd, de] := by
            match ds, (by omega : ds.length = 4) with
            | [a, b, c, d], _ => exact ⟨a, b, c, d, rfl⟩
          cases hs with
          | cons hw t =>
            cases t with
            | cons hn t =>
              cases t with
              | cons hc t =>
                cases t with
                | cons hc2 t =>
                  cases t
                  refine ⟨_, _, rfl, _, _, rfl, _, _, rfl, _, _, rfl, rfl, ?_⟩
                  have s' := s.trans x'
                  refine (et_test (ev_eqS (evd_var rfl hw) ev_c)) H' s' _ fun H2 x2 => ?_
                  cases hb1 : isS "load" dw with
                  | true =>
                    refine if_so rfl ?_
                    have e2 : isTr (j + 1) (.tuple [dw, dn, dd, de]) = (isNm dn && (isIn dd && isIn de)) := by
                      rw [isTr_cons, if_neg (fun z => absurd z.1 (show ¬ 2 = 1 by decide)), if_pos ⟨rfl, hb1⟩]
                      rfl
                    rw [e2] at k
                    exact Ev.ret (s'.trans x2) (ev_andV (ev_callB (evd_var rfl hn)) fun _ => ev_andV (ev_callB (evd_var rfl hc)) fun _ => ev_callB (evd_var rfl hc2)) (fun H3 x3 => k H3 ((x'.trans x2).trans x3))
                  | false =>
                    refine if_no rfl (hr' _ _ ⟨⟨_, _, _, _, _, _, _, _, _, rfl⟩, x'.trans x2, fun z => ?_⟩)
                    have := z.2
                    rw [show [dw, dn, dd, de].getD 0 .none = dw from rfl, hb1] at this
                    cases this
        · rintro σ'' H'' ⟨⟨v2, v3, v4, v5, v6, v7, v8, v9, v10, rfl⟩, x'', n2⟩
          have s2 := s.trans x''
          refine ⟨a, xs, rfl, SqT.of (s2 _ _ ea), fun hge p hp => ?_, fun hlt => ret x'' ?_⟩
          · have hge : 2 ≤ xs.length := hge
            obtain ⟨dw, dn, ts, rfl⟩ : ∃ dw dn ts, ds = dw :: dn :: ts := by
              match ds, (by omega : 2 ≤ ds.length) with
              | a :: b :: c, _ => exact ⟨a, b, c, rfl⟩
            cases hs with
            | @cons vw _ _ _ hw t =>
              cases t with
              | @cons vn vts _ _ hn t =>
                have g := Gr.new (o := .lst vts) s2 hp rfl
                have hL : Da (upd G p (.lst vts)) (.ref p) (.list ts) := .lst upd_same (t.up g.g)
                refine ⟨_, _, rfl, _, _, rfl, _, _, rfl, rfl, ?_⟩
                refine (et_test (ev_eqS (evd_var rfl (hw.up g.g)) ev_c)) _ g.s _ fun H2 x2 => ?_
                have e2 : isTr (j + 1) (.tuple (dw :: dn :: ts)) = (if isS "op" dw = true then isNm dn && (decide (ts.length ≤ 3) && ts.all fun t => isTr j t) else false) := by
                  rw [isTr_cons, if_neg (fun z => n1 ⟨by rw [List.length_cons, List.length_cons, z.1], z.2⟩), if_neg (fun z => n2 ⟨by rw [List.length_cons, List.length_cons, z.1], z.2⟩)]
                have xx : Ex H H2 := x''.trans (g.h.trans x2)
                have sg := g.s.trans x2
                cases hb1 : isS "op" dw with
                | false =>
                  rw [hb1, if_neg Bool.false_ne_true] at e2
                  exact if_no rfl (ret xx e2)
                | true =>
                  rw [hb1, if_pos rfl] at e2
                  rw [e2] at k
                  refine if_so rfl ?_
                  refine q_ifD sg (et_or (et_not (et_B (ev_callB (evd_var rfl (hn.up g.g))))) fun _ => et_test (ev_op (ev_lenL (evd_var rfl hL)) ev_c rv_I0)) (fun hb H3 x3 => ?_) (fun hb H3 x3 => ?_)
                  · have e3 : (isNm dn && (decide (ts.length ≤ 3) && ts.all fun t => isTr j t)) = false := by
                      cases q1 : isNm dn with
                      | false => rfl
                      | true =>
                        rw [q1] at hb
                        simp at hb
                        rw [decide_eq_false (by omega)]
                        rfl
                    rw [e3] at k
                    exact k _ (xx.trans x3)
                  · simp at hb
                    have e3 : (isNm dn && (decide (ts.length ≤ 3) && ts.all fun t => isTr j t)) = ((ts.map fun t => isTr j t).all id) := by
                      rw [hb.1, decide_eq_true (by omega), List.all_map]
                      rfl
                    rw [e3] at k
                    refine Ev.ret (sg.trans x3) (ev_allD (K := K) (EvD.is (evd_lcL (fun _ => true) (fun t => .bool (isTr j t)) (evd_var rfl hL) (by omega) (fun _ => rfl) (fun d _ v G1 _ _ => et_yes (b := true)) (fun d _ _ v G1 _ hv => EvD.is (ev_callT (evd_var rfl hv) (ev_op (ev_var rfl) ev_c rv_I0) ?_ ?_) ?_)) ?_)) (fun H4 x4 => k H4 ((xx.trans x3).trans x4))
                    · omega
                    · omega
                    · rw [show ((j : Int) + 1 - 1).toNat = j by omega]
                    · rw [filter_yes, List.map_map]
                      rfl
          · have hlt : xs.length < 2 := hlt
            match ds, (by omega : ds.length < 2) with
            | [], _ => rfl
            | [a], _ => rfl
  · have e1 : isTr m.toNat d = false := by
      cases hm : m.toNat with
      | zero => rfl
      | succ j => cases d <;> (first | rfl | exact absurd rfl c)
    rw [e1] at k
    refine q_ifD s (b := true) (fun H1 x1 Q' q' => (ev_isTup (evd_var rfl hd)) H1 x1 _ fun H2 x2 => ⟨_, rfl, ?_⟩) (fun _ H1 x1 => k H1 x1) (fun z => by cases z)
    rw [beq_eq_false_iff_ne.mpr c]
    exact q' H2 x2
theorem ok_is_tree (T : Txt P K mg CA) (D : Df K mg "is_tree" s_is_tree) (D_is_tree_of : DefOk P w K mg base CX0 8 "is_tree_of" ["value", "most"] (spT 5)) : DefOk P w K mg base CX0 9 "is_tree" ["value"] (spB (isTr 4)) := by
  refine D.ok sc_is_tree (fun _ _ _ _ _ _ us hl => match us, hl with | [_], _ => rfl) (fun vs H Q E h => spF_len f1_len h) (fun f cdv A outer s H vs Q E hr h => ?_)
  obtain ⟨G, v, d, rfl, s, hd, k⟩ := spB_of h
  refine ⟨_, (pss_one (ps_ret (pe_callD D_is_tree_of (hr.mono (by decide)) pass0 (pa_cons (pv 0) (pa_cons (pe_gInt (by rfl) T.g_MAX_LEVELS) pa_nil))))), ?_⟩
  exact Ev.ret s (EvD.bl_ (ev_callT (evd_var rfl hd) ev_c (by decide) (by decide))) k
theorem ok_is_statement (T : Txt P K mg CA) (D : Df K mg "is_statement" s_is_statement) (D_is_tree : DefOk P w K mg base CX0 9 "is_tree" ["value"] (spB (isTr 4))) (D_is_name : DefOk P w K mg base CX0 1 "is_name" ["value"] (spB isNm))
    (D_is_integer : DefOk P w K mg base CX0 2 "is_integer" ["value"] (spB isIn)) : DefOk P w K mg base CX0 10 "is_statement" ["value"] (spB isSt) := by
  refine D.ok sc_is_statement (fun _ _ _ _ _ _ us hl => match us, hl with | [_], _ => rfl) (fun vs H Q E h => spF_len f1_len h) (fun f cdv A outer s H vs Q E hr h => ?_)
  obtain ⟨G, v, d, rfl, s, hd, k⟩ := spB_of h
  refine ⟨_, (pss_cons (ps_if (pt_not (pt_val (pe_callB call_isi (by rfl) T.n_isinstance (by decide +kernel) (pa_cons (pv 0) (pa_cons (pe_bltn (v := .ty "tuple") (by rfl) T.n_tuple (by decide +kernel) rfl) pa_nil)))))
 (pss_one (ps_ret pe_bl))
 pss_nil)
 (pss_cons (ps_match (pv 0) (pmc_case rfl (.cons ⟨_, rfl⟩ (.cons ⟨_, rfl⟩ (.cons ⟨_, rfl⟩ .nil))) rfl (pns_cons (i := 1) sc_is_statement.nd rfl (Or.inl rfl) (pns_cons (i := 2) sc_is_statement.nd rfl (Or.inl rfl) (pns_cons (i := 3) sc_is_statement.nd rfl (Or.inl rfl) pns_nil))) (pt_cmpR (op_eqS hr.units0) (pv 1) (pe_gStr (by rfl) T.g_SET) (nomark _))
 (pss_one (ps_ret (pe_and (pe_callD D_is_name (hr.mono (by decide)) pass0 (pa_cons (pv 2) pa_nil)) (pe_and (pe_callD D_is_tree (hr.mono (by decide)) pass0 (pa_cons (pv 3) pa_nil)) (pe_one (pe_cmpR (op_neS hr.units0) (pe_ix ix_tup (pv 3) pe_int (fun _ _ => rfl)) (pe_gStr (by rfl) T.g_AT) (nomark _)))))))
 (pmc_case rfl (.cons ⟨_, rfl⟩ (.cons ⟨_, rfl⟩ (.cons ⟨_, rfl⟩ (.cons ⟨_, rfl⟩ (.cons ⟨_, rfl⟩ (.cons ⟨_, rfl⟩ .nil)))))) rfl (pns_cons (i := 1) sc_is_statement.nd rfl (Or.inl rfl) (pns_cons (i := 2) sc_is_statement.nd rfl (Or.inl rfl) (pns_cons (i := 4) sc_is_statement.nd rfl (Or.inl rfl) (pns_cons (i := 5) sc_is_statement.nd rfl (Or.inl rfl) (pns_cons (i := 6) sc_is_statement.nd rfl (Or.inl rfl) (pns_cons (i := 3) sc_is_statement.nd rfl (Or.inl rfl) pns_nil)))))) (pt_cmpR (op_eqS hr.units0) (pv 1) (pe_gStr (by rfl) T.g_STORE) (nomark _))
 (pss_cons (ps_if (PW.pt (pw_or (pt_not (pt_val (pe_callD D_is_name (hr.mono (by decide)) pass0 (pa_cons (pv 2) pa_nil)))) (pw_or (pt_not (pt_val (pe_callD D_is_name (hr.mono (by decide)) pass0 (pa_cons (pv 4) pa_nil)))) (pw_or (pt_not (pt_val (pe_callD D_is_integer (hr.mono (by decide)) pass0 (pa_cons (pv 5) pa_nil)))) (pw_or1 (pt_not (pt_val (pe_callD D_is_integer (hr.mono (by decide)) pass0 (pa_cons (pv 6) pa_nil)))))))))
 (pss_one (ps_ret pe_bl))
 pss_nil)
 (pss_one (ps_ret (pe_and (pe_cmpR op_ne (pv 5) pe_int (nomark _)) (pe_one (pe_callD D_is_tree (hr.mono (by decide)) pass0 (pa_cons (pv 3) pa_nil)))))))
 pmc_nil)))
 (pss_one (ps_ret pe_bl)))), ?_⟩
  by_cases c : kd d = "tuple"
  · obtain ⟨ds, rfl⟩ := kd_tup c
    refine q_ifD s (et_not (et_B (ev_isTup (evd_var rfl hd)))) (fun hb => by cases hb) (fun hb H1 x1 => ?_)
    obtain ⟨a, xs, rfl, ea, hs⟩ := hd.tup_
    have s1 := s.trans x1
    dsimp only [tNext]
    have ret : ∀ {H' : Hp}, Ex H H' → isSt (.tuple ds) = false → Q (.bl false) H' := fun x e => by
      rw [e] at k
      exact k _ x
    have hlen := hs.len
    refine ⟨_, rfl, tCase_cut (fun σ' H' => (∃ v1 v2 v3 v4 v5 v6, σ' = [some (.ref a), v1, v2, v3, v4, v5, v6]) ∧ Ex H H' ∧ ¬ (ds.length = 3 ∧ isS "set" (ds.getD 0 .none) = true)) (SqT.of (s1 _ _ ea)) (fun h3 r' hr' => ?_) (fun h3 => ⟨⟨_, _, _, _, _, _, rfl⟩, x1, fun z => h3 (by rw [hlen]; exact z.1)⟩) ?_⟩
    · have h3 : xs.length = 3 := h3
      obtain ⟨dw, dn, dd, rfl⟩ : ∃ dw dn dd, ds = [dw, dn, dd] := by
        match ds, (by omega : ds.length = 3) with
        | [a, b, c], _ => exact ⟨a, b, c, rfl⟩
      cases hs with
      | cons hw t =>
        cases t with
        | cons hn t =>
          cases t with
          | cons hc t =>
            cases t
            refine ⟨_, _, rfl, _, _, rfl, _, _, rfl, rfl, ?_⟩
            refine (et_test (ev_eqS (evd_var rfl hw) ev_c)) H1 s1 _ fun H2 x2 => ?_
            cases hb1 : isS "set" dw with
            | true =>
              refine if_so rfl ?_
              have e2 : isSt (.tuple [dw, dn, dd]) = (isNm dn && (isTr 4 dd && !isS "at" (hd0 dd))) := by
                rw [isSt, if_pos ⟨rfl, hb1⟩]
                rfl
              rw [e2] at k
              refine Ev.ret (s1.trans x2) (ev_andV (ev_callB (evd_var rfl hn)) fun _ => ev_andV (ev_callB (evd_var rfl hc)) fun ht => ?_) (fun H3 x3 => k H3 ((x1.trans x2).trans x3))
              obtain ⟨w0, n0, ts, rfl⟩ := isTr_tup ht
              exact ev_neS (evd_ixT (evd_var rfl hc) ev_c (atI_nat (j := 0) rfl)) ev_c
            | false =>
              refine if_no rfl (hr' _ _ ⟨⟨_, _, _, _, _, _, rfl⟩, x1.trans x2, fun z => ?_⟩)
              have := z.2
              rw [show [dw, dn, dd].getD 0 .none = dw from rfl, hb1] at this
              cases this
    · rintro σ' H' ⟨⟨v1, v2, v3, v4, v5, v6, rfl⟩, x', n1⟩
      have s' := s.trans x'
      refine tCase_cut (fun σ' H' => Ex H H' ∧ ¬ (ds.length = 6 ∧ isS "store" (ds.getD 0 .none) = true)) (SqT.of (s' _ _ ea)) (fun h3 r' hr' => ?_) (fun h3 => ⟨x', fun z => h3 (by rw [hlen]; exact z.1)⟩) ?_
      · have h3 : xs.length = 6 := h3
        obtain ⟨dw, dn, da, ds, do_, dt, rfl⟩ : ∃ dw dn da d3 d4 d5, ds = [dw, dn, da, d3, d4, d5] := by
          match ds, (by omega : ds.length = 6) with
          | [a, b, c, d, e, f], _ => exact ⟨a, b, c, d, e, f, rfl⟩
        cases hs with
        | cons hw t =>
          cases t with
          | cons hn t =>
            cases t with
            | cons ha t =>
              cases t with
              | cons h3' t =>
                cases t with
                | cons h4 t =>
                  cases t with
                  | cons h5 t =>
                    cases t
                    refine ⟨_, _, rfl, _, _, rfl, _, _, rfl, _, _, rfl, _, _, rfl, _, _, rfl, rfl, ?_⟩
                    refine (et_test (ev_eqS (evd_var rfl hw) ev_c)) H' s' _ fun H2 x2 => ?_
                    cases hb1 : isS "store" dw with
                    | true =>
                      refine if_so rfl ?_
                      have e2 : isSt (.tuple [dw, dn, da, ds, do_, dt]) = (isNm dn && (isNm da && (isIn ds && (isIn do_ && (!isZ ds && isTr 4 dt))))) := by
                        rw [isSt, if_neg n1, if_pos ⟨rfl, hb1⟩]
                        rfl
                      rw [e2] at k
                      refine q_ifD (s'.trans x2) (et_or (et_not (et_B (ev_callB (evd_var rfl hn)))) fun _ => et_or (et_not (et_B (ev_callB (evd_var rfl ha)))) fun _ => et_or (et_not (et_B (ev_callB (evd_var rfl h3')))) fun _ => et_not (et_B (ev_callB (evd_var rfl h4)))) (fun hb H3 x3 => ?_) (fun hb H3 x3 => ?_)
                      · have e3 : (isNm dn && (isNm da && (isIn ds && (isIn do_ && (!isZ ds && isTr 4 dt))))) = false := by
                          revert hb
                          cases isNm dn <;> cases isNm da <;> cases isIn ds <;> cases isIn do_ <;> simp
                        rw [e3] at k
                        exact k _ ((x'.trans x2).trans x3)
                      · simp at hb
                        obtain ⟨q1, q2, q3, q4⟩ := hb
                        rw [q1, q2, q3, q4] at k
                        obtain ⟨i, rfl⟩ := isIn_int q3
                        have e4 : (!decide (V.int i = V.int 0)) = !isZ (.int i) := by simp [isZ]
                        rw [← e4] at k
                        exact Ev.ret ((s'.trans x2).trans x3) (ev_andV (ev_op (EvD.int_ (evd_var rfl h3')) ev_c (rv_ne rfl)) fun _ => ev_callB (evd_var rfl h5)) (fun H4 x4 => k H4 (((x'.trans x2).trans x3).trans x4))
                    | false =>
                      refine if_no rfl (hr' _ _ ⟨x'.trans x2, fun z => ?_⟩)
                      have := z.2
                      rw [show [dw, dn, da, ds, do_, dt].getD 0 .none = dw from rfl, hb1] at this
                      cases this
      · rintro σ'' H'' ⟨x'', n2⟩
        exact ret x'' (by rw [isSt, if_neg n1, if_neg n2])
  · have e1 : isSt d = false := by
      cases d <;> (first | rfl | exact absurd rfl c)
    rw [e1] at k
    refine q_ifD s (b := true) (fun H1 x1 Q' q' => (ev_isTup (evd_var rfl hd)) H1 x1 _ fun H2 x2 => ⟨_, rfl, ?_⟩) (fun _ H1 x1 => k H1 x1) (fun z => by cases z)
    rw [beq_eq_false_iff_ne.mpr c]
    exact q' H2 x2
end
end My
set_option maxHeartbeats 4000000
namespace My
open PySem L2 Lf Evl Tr
abbrev s_subtrees : Stmt := top 24
theorem sc_subtrees : FnScope ["tree"] ["tree"] (defScope s_subtrees) := ⟨rfl, rfl, rfl, by decide +kernel, rfl, by decide +kernel, by decide +kernel⟩
abbrev s_level_count : Stmt := top 26
theorem sc_level_count : FnScope ["tree", "one"] ["tree"] (defScope s_level_count) := ⟨rfl, rfl, rfl, by decide +kernel, rfl, by decide +kernel, by decide +kernel⟩
abbrev s_require_tree : Stmt := top 23
theorem sc_require_tree : FnScope ["value"] ["value"] (defScope s_require_tree) := ⟨rfl, rfl, rfl, by decide +kernel, rfl, by decide +kernel, by decide +kernel⟩
abbrev s_levels : Stmt := top 27
theorem sc_levels : FnScope ["tree"] ["tree"] (defScope s_levels) := ⟨rfl, rfl, rfl, by decide +kernel, rfl, by decide +kernel, by decide +kernel⟩
def spO (f : PyData → Option PyData) : Sp := spF fun ds => match ds with
  | [d] => f d
  | _ => none
theorem spO_len {f : PyData → Option PyData} {vs : List V} {H : Hp} {Q : VK} {E : XK} (h : spO f vs H Q E) : vs.length = 1 := by
  refine spF_len (fun ds d e => ?_) h
  split at e
  · rfl
  · cases e
theorem spO_of {f : PyData → Option PyData} {vs : List V} {H : Hp} {Q : VK} {E : XK} (h : spO f vs H Q E) : ∃ G v d e, vs = [v] ∧ Ex G H ∧ Da G v d ∧ f d = some e ∧ ∀ v' G' H', Gr G H G' H' → Da G' v' e → Q v' H' := by
  obtain ⟨G, ds, d, s, h2, h3, k⟩ := h
  dsimp only at h3
  split at h3
  · cases h2 with
    | cons h t =>
      cases t
      exact ⟨G, _, _, d, rfl, s, h, h3, k⟩
  · cases h3
theorem evd_callO {f : PyData → Option PyData} {σ : L2.St} {G : Hp} {te : TE} {d e : PyData} {E : XK} (h : EvD te σ G d) (hf : f d = some e) : EvD (tCallD (spO f) E (tCons te tNil)) σ G e := evd_call (evd_cons h evd_nil) hf
def fSub : PyData → Option PyData
  | .tuple (w :: r) => some (.tuple (subs (w :: r)))
  | _ => none
def fLvl (n : Nat) (d : PyData) : Option PyData := if isTr n d = true then some (.int (lvl n d)) else none
theorem ev_maxDf {K : PySem.W.Frag} {σ : L2.St} {G : Hp} {te tb : TE} {is : List Int} (h0 : ∀ y ∈ is, 0 ≤ y) (h : EvD te σ G (.list (is.map PyData.int))) (hb : Ev tb σ G (.int 0)) : Ev (tCKw (rMaxDf K) (tCons te tNil) (tCons tb tNil)) σ G (.int (mx is)) := fun H1 x Q q =>
  h G H1 (Ex.refl _) x _ fun v G2 H2 r hd => hb H2 (r.g.trans r.s) _ fun H3 x3 => by
    obtain ⟨a, xs, rfl, ea, hs⟩ := hd.lst_
    have e := da_ints hs
    subst e
    have hl := SqL.of (K := K) (x3 _ _ (r.s _ _ ea))
    refine ⟨a, is, 0, rfl, rfl, hl, fun z => ?_, fun m hm hu => ?_⟩
    · subst z
      exact q H3 (r.h.trans x3)
    · rw [mx_of h0 hm hu]
      exact q H3 (r.h.trans x3)
section
variable {P : Program} {w : World} {K : PySem.W.Frag} {mg : Str → Option Value} {base : Heap} {CA : Addr}
theorem ok_subtrees (T : Txt P K mg CA) (D : Df K mg "subtrees" s_subtrees) : DefOk P w K mg base CX0 1 "subtrees" ["tree"] (spO fSub) := by
  refine D.ok sc_subtrees (fun _ _ _ _ _ _ us hl => match us, hl with | [_], _ => rfl) (fun vs H Q E h => spO_len h) (fun f cdv A outer s H vs Q E hr h => ?_)
  obtain ⟨G, v, d, e, rfl, s, hd, he, k⟩ := spO_of h
  refine ⟨_, (pss_one (ps_ret (pe_ifExp (pt_cmpR (op_eqS hr.units0) (pe_ix ix_tup (pv 0) pe_int (fun _ _ => rfl)) (pe_gStr (by rfl) T.g_OP) (nomark _)) (pe_slice sl_tupA (pv 0) (po_some pe_int) po_none) (pe_tup pa_nil)))), ?_⟩
  unfold fSub at he
  split at he
  · rename_i w r
    cases he
    refine s_retD s (evd_if (b := isS "op" w) (et_test (ev_eqS (evd_ixT (evd_var rfl hd) ev_c (atI_nat (j := 0) rfl)) ev_c)) (fun c => EvD.is (evd_sl (evd_var rfl hd) (EvO.some_ ev_c) EvO.none_) ?_) (fun c => EvD.is (evd_tup evd_nil (by decide)) ?_)) k
    · rw [show (2 : Int) = ((2 : Nat) : Int) from rfl, cutD_from, subs, if_pos c]
      rfl
    · rw [subs, c]
      rfl
  · cases he
theorem ok_level0 (D : Df K mg "level_count" s_level_count) : DefOk P w K mg base CX0 1 "level_count" ["tree"] (spO (fLvl 0)) := by
  refine D.ok sc_level_count (fun _ _ _ _ _ _ us hl => match us, hl with | [_], _ => rfl) (fun vs H Q E h => spO_len h) (fun f cdv A outer s H vs Q E hr h => ?_)
  obtain ⟨G, v, d, e, rfl, s, hd, he, k⟩ := spO_of h
  unfold fLvl at he
  rw [if_neg (by rw [isTr]; decide)] at he
  cases he
theorem ok_levelS (T : Txt P K mg CA) (D : Df K mg "level_count" s_level_count) {n l : Nat} (hl3 : 1 ≤ l) (D_level_count : DefOk P w K mg base CX0 l "level_count" ["tree"] (spO (fLvl n))) (D_subtrees : DefOk P w K mg base CX0 1 "subtrees" ["tree"] (spO fSub)) :
    DefOk P w K mg base CX0 (l + 1) "level_count" ["tree"] (spO (fLvl (n + 1))) := by
  refine D.ok sc_level_count (fun _ _ _ _ _ _ us hl => match us, hl with | [_], _ => rfl) (fun vs H Q E h => spO_len h) (fun f cdv A outer s H vs Q E hr h => ?_)
  obtain ⟨G, v, d, e, rfl, s, hd, he, k⟩ := spO_of h
  unfold fLvl at he
  split at he
  · rename_i ht
    cases he
    obtain ⟨w, nm, ts, rfl⟩ := isTr_tup ht
    obtain ⟨h3, hall⟩ := isTr_sub ht
    refine ⟨_, (pss_one (ps_ret (pe_op op_add pe_int (pe_callBK (cr_max_df rfl) (by rfl) T.n_max (by decide +kernel) (pa_cons (pe_lc (own := [("one", 1)]) (by rfl) sc_level_count.nd (pi_tup (pe_callD D_subtrees (hr.mono (by omega)) pass0 (pa_cons (pv 0) pa_nil))) (blkOk_by (own := [("one", 1)]) (N := ["tree", "one"]) (sc := defScope s_level_count) (by decide +kernel)) (fun _ _ _ _ _ => (pg_name (i := 1) sc_level_count.nd rfl (Or.inl rfl))) (fun _ _ _ _ _ => pts_nil) (fun _ _ _ _ _ => (pe_callD D_level_count (hr.mono (by omega)) pass0 (pa_cons (pv 1) pa_nil)))) pa_nil) (pk_cons pe_int pk_nil))))), ?_⟩
    refine s_retD s (EvD.is (evd_int (ev_op ev_c (ev_maxDf (is := (subs (w :: nm :: ts)).map fun t => lvl n t) (fun y hy => ?_) (EvD.is (evd_lcT (fun _ => true) (fun t => .int (lvl n t)) (evd_callO (evd_var rfl hd) rfl) (by omega) (fun _ => rfl) (fun d _ v G1 _ _ => et_yes (b := true)) (fun d hd' _ v G1 _ hv => evd_callO (evd_var rfl hv) ?_)) ?_) ev_c) rv_I0)) ?_) k
    · obtain ⟨t, _, rfl⟩ := List.mem_map.mp hy
      exact lvl_ge n t
    · unfold fLvl
      rw [if_pos (hall d hd')]
    · rw [filter_yes, List.map_map]
      rfl
    · rw [lvl]
  · cases he
/-- the value is a tree and f is told, or InvalidTree is let out -/
def spR (CA : Addr) (f : PyData → PyData) : Sp := fun vs H Q E => ∃ G v d, vs = [v] ∧ Ex G H ∧ Da G v d ∧ (isTr 4 d = true → ∀ v' G' H', Gr G H G' H' → Da G' v' (f d) → Q v' H') ∧ (isTr 4 d = false → ∀ d' H', Ex H H' → E (.ref CA) d' H')
theorem spR_len {f : PyData → PyData} {vs : List V} {H : Hp} {Q : VK} {E : XK} (h : spR CA f vs H Q E) : vs.length = 1 := by
  obtain ⟨G, v, d, rfl, _⟩ := h
  rfl
theorem ok_require_tree (T : Txt P K mg CA) (D : Df K mg "require_tree" s_require_tree) (D_is_tree : DefOk P w K mg base CX0 9 "is_tree" ["value"] (spB (isTr 4))) : DefOk P w K mg base (L2.CX P w) 10 "require_tree" ["value"] (spR CA fun _ => .none) := by
  refine D.okX sc_require_tree (fun _ _ _ _ _ _ us hl => match us, hl with | [_], _ => rfl) (fun vs H Q E h => spR_len h) (fun f cdv A outer s H vs Q E hr h => ?_)
  obtain ⟨G, v, d, rfl, s, hd, k1, k2⟩ := h
  refine ⟨_, (pss_one (ps_if (pt_not (pt_val (pe_callD D_is_tree (hr.mono (by decide)) pass0 (pa_cons (pv 0) pa_nil))))
 (pss_one (ps_raise rfl (takes_of rfl rfl rfl rfl) (pmk_own PySem.F.excBase_ValueError T.xA T.gA T.kA (raises_own T.bA T.tA) rfl)))
 pss_nil)), ?_⟩
  refine (et_not (et_B (ev_callB (evd_var rfl hd)))) H s _ fun H2 x2 => ?_
  cases c : isTr 4 d with
  | true => exact if_no rfl (k1 c _ G _ (Gr.keep s x2) .non)
  | false => exact if_so rfl (k2 c _ _ x2)
theorem ok_levels (T : Txt P K mg CA) (D : Df K mg "levels" s_levels) (D_require_tree : DefOk P w K mg base (L2.CX P w) 10 "require_tree" ["value"] (spR CA fun _ => .none)) (D_level_count : DefOk P w K mg base CX0 5 "level_count" ["tree"] (spO (fLvl 4))) :
    DefOk P w K mg base (L2.CX P w) 11 "levels" ["tree"] (spR CA fun d => .int (lvl 4 d)) := by
  refine D.okX sc_levels (fun _ _ _ _ _ _ us hl => match us, hl with | [_], _ => rfl) (fun vs H Q E h => spR_len h) (fun f cdv A outer s H vs Q E hr h => ?_)
  obtain ⟨G, v, d, rfl, s, hd, k1, k2⟩ := h
  refine ⟨_, (pss_cons (ps_expr (pe_callD D_require_tree (hr.mono (by decide)) (passes_call (takes_of rfl rfl rfl rfl) (fun _ _ _ _ h => h)) (pa_cons (pv 0) pa_nil)))
 (pss_one (ps_ret (pe_callD D_level_count (hr.mono (by decide)) pass0 (pa_cons (pv 0) pa_nil))))), ?_⟩
  refine ⟨_, rfl, G, v, d, rfl, s, hd, fun c v' G' H' r _ => ?_, k2⟩
  refine s_retD r.s (evd_callO (e := .int (lvl 4 d)) (evd_var rfl (hd.up r.g)) ?_) (fun v2 G2 H2 r2 hd2 => k1 c v2 G2 H2 (r.trans r2) hd2)
  unfold fLvl
  rw [if_pos c]
end
end My
set_option maxHeartbeats 4000000
namespace My
open PySem L2 Lf Evl Tr
abbrev s_nodes_below : Stmt := top 25
theorem sc_nodes_below : FnScope ["tree", "operation", "found", "index", "one"] ["tree", "operation"] (defScope s_nodes_below) := ⟨rfl, rfl, rfl, by decide +kernel, rfl, by decide +kernel, by decide +kernel⟩
abbrev s_nodes : Stmt := top 28
theorem sc_nodes : FnScope ["tree"] ["tree"] (defScope s_nodes) := ⟨rfl, rfl, rfl, by decide +kernel, rfl, by decide +kernel, by decide +kernel⟩
theorem walk_enumT {K : PySem.W.Frag} {a : Addr} {xs : List V} : Walk (IteT K a) xs.length (fun H => SqT K H a xs) (YPair (fun i => some (.int (i : Nat))) (fun i => xs[i]?)) := by
  refine ⟨fun i _ hi q => ⟨xs, xs[i], q, by simp [hi]⟩, fun _ q => ⟨xs, q, rfl⟩, fun i H v H' _ q y => ?_⟩
  obtain ⟨T, x, h1, h2, h3, h4⟩ := y
  exact ⟨T, .int (i : Nat), x, h1, h2, h3, rfl, h4 xs q⟩
theorem valV_none {kvs : List (Key × V)} {k : Key} (h : k ∉ kvs.map Prod.fst) : valV kvs k = none := by
  cases e : valV kvs k with
  | none => rfl
  | some v => exact absurd (valV_in e) h
theorem mergeK_fst : ∀ (more kvs : List (Key × V)), (∀ k ∈ more.map Prod.fst, k ∉ kvs.map Prod.fst) → (more.map Prod.fst).Nodup → (mergeK kvs more).map Prod.fst = kvs.map Prod.fst ++ more.map Prod.fst := by
  intro more
  induction more with
  | nil => intro kvs _ _; simp [mergeK]
  | cons a t ih =>
    intro kvs h hn
    rw [List.map_cons, List.nodup_cons] at hn
    show (mergeK (putK kvs a.1 a.2) t).map Prod.fst = _
    rw [putK_new a.2 (valV_none (h a.1 (by simp)))]
    rw [ih _ (fun k hk => ?_) hn.2]
    · simp
    · rw [List.map_append, List.mem_append]
      rintro (z | z)
      · exact h k (by simp only [List.map_cons]; exact List.mem_cons_of_mem _ hk) z
      · simp at z
        subst z
        exact hn.1 hk
theorem none_of_ex {H H' : Hp} {p : Addr} (x : Ex H H') (h : H' p = none) : H p = none := by
  cases e : H p with
  | none => rfl
  | some o =>
    rw [x p o e] at h
    cases h
theorem nodup_inr {l : List Str} (h : l.Nodup) : (l.map (Sum.inr : Str → Key)).Nodup := by
  refine List.Pairwise.map _ (fun a b hab => ?_) h
  intro z
  cases z
  exact hab rfl
/-- the dict of the working nodes, new -/
def spN (n : Nat) : Sp := fun vs H Q _ => ∃ G v d op, vs = [v, .str op] ∧ Ex G H ∧ Da G v d ∧ isTr n d = true ∧ op.length + 2 * n ≤ 10 ∧ ∀ p kvs H', Ex H H' → H p = none → H' p = some (.dK kvs) → kvs.map Prod.fst = (keysN n d op).map Sum.inr → Q (.ref p) H'
theorem spN_len {n : Nat} {vs : List V} {H : Hp} {Q : VK} {E : XK} (h : spN n vs H Q E) : vs.length = 2 := by
  obtain ⟨G, v, d, op, rfl, _⟩ := h
  rfl
section
variable {P : Program} {w : World} {K : PySem.W.Frag} {mg : Str → Option Value} {base : Heap} {CA : Addr}
theorem ok_nodes0 (D : Df K mg "nodes_below" s_nodes_below) : DefOk P w K mg base CX0 1 "nodes_below" ["tree", "operation"] (spN 0) := by
  refine D.ok sc_nodes_below (fun _ _ _ _ _ _ us hl => match us, hl with | [_, _], _ => rfl) (fun vs H Q E h => spN_len h) (fun f cdv A outer s H vs Q E hr h => ?_)
  obtain ⟨G, v, d, op, rfl, s, hd, ht, _⟩ := h
  cases ht
theorem ok_nodesS (T : Txt P K mg CA) (D : Df K mg "nodes_below" s_nodes_below) {n l : Nat} (hl3 : 1 ≤ l) (D_nodes_below : DefOk P w K mg base CX0 l "nodes_below" ["tree", "operation"] (spN n)) (D_subtrees : DefOk P w K mg base CX0 1 "subtrees" ["tree"] (spO fSub)) :
    DefOk P w K mg base CX0 (l + 1) "nodes_below" ["tree", "operation"] (spN (n + 1)) := by
  refine D.ok sc_nodes_below (fun _ _ _ _ _ _ us hl => match us, hl with | [_, _], _ => rfl) (fun vs H Q E h => spN_len h) (fun f cdv A outer s H vs Q E hr h => ?_)
  obtain ⟨G, v, d, op, rfl, s, hd, ht, hop, k⟩ := h
  obtain ⟨w, nm, ts, rfl⟩ := isTr_tup ht
  obtain ⟨h3, hall⟩ := isTr_sub ht
  refine ⟨_, (pss_cons (ps_if (pt_cmpR (op_eqS hr.units0) (pe_ix ix_tup (pv 0) pe_int (fun _ _ => rfl)) (pe_gStr (by rfl) T.g_AT) (nomark _))
 (pss_one (ps_ret pe_dnewK))
 pss_nil)
 (pss_cons (ps_set (i := 2) sc_nodes_below.nd rfl (Or.inl rfl) (pe_disp (pps_cons (pv 1) (pv 0) pps_nil) (by rfl) (by rfl) (fun z => by cases z) (by decide)))
 (pss_cons (ps_for PassesOwn.never rfl (pi_enumT (by rfl) T.n_enumerate (pa_cons (pe_callD D_subtrees (hr.mono (by omega)) pass0 (pa_cons (pv 0) pa_nil)) pa_nil)) (pg_tup (by rfl) (pgs_cons (pg_name (i := 3) sc_nodes_below.nd rfl (Or.inl rfl)) (pgs_cons (pg_name (i := 4) sc_nodes_below.nd rfl (Or.inl rfl)) pgs_nil)))
 (pss_one (ps_expr (pe_dupdate (pv 2) (pa_cons (pe_callD D_nodes_below (hr.mono (by omega)) pass0 (pa_cons (pv 4) (pa_cons (pe_joined (PJ.cons (pe_fmt (pv 1)) (PJ.cons pe_str (PJ.cons (pe_fmt (pv 3)) PJ.nil)))) pa_nil))) pa_nil)))))
 (pss_one (ps_ret (pv 2)))))), ?_⟩
  refine q_ifD s (et_test (ev_eqS (evd_ixT (evd_var rfl hd) ev_c (atI_nat (j := 0) rfl)) ev_c)) (fun hb H1 x1 => ?_) (fun hb H1 x1 => ?_)
  · intro p hp
    refine k p [] _ (x1.trans (Ex.new hp)) (none_of_ex x1 hp) upd_same ?_
    rw [keysN, if_pos (show isS "at" ((w :: nm :: ts).getD 0 .none) = true from hb)]
    rfl
  · intro p hp
    have hb' : ¬ isS "at" ((w :: nm :: ts).getD 0 .none) = true := by
      show ¬ isS "at" w = true
      rw [hb]
      decide
    have hp0 : H p = none := none_of_ex x1 hp
    refine ⟨_, rfl, _, rfl, upd_same, [(.inr op, v)], rfl, (show 1 ≤ 15 by decide), ?_⟩
    have xd : Ex H (upd (upd H1 p (.dK [])) p (.dK (mergeK [] [(.inr op, v)]))) := Ex.mut (x1.trans (Ex.new hp)) hp0
    have sd := s.trans xd
    refine evd_callO (e := .tuple (subs (w :: nm :: ts))) (evd_var rfl hd) rfl G _ (Ex.refl _) sd _ fun v2 G2 H2 r2 hd2 => ?_
    obtain ⟨a, xs, rfl, ea, hs⟩ := hd2.tup_
    have G2p : G2 p = none := by
      cases e : G2 p with
      | none => rfl
      | some o =>
        rw [r2.n p (by rw [upd_same]; exact fun z => by cases z) (none_of_ex s hp0)] at e
        cases e
    refine ⟨a, xs, rfl, SqT.of (r2.s _ _ ea), for_it (walk_enumT (K := K) (a := a) (xs := xs)) (fun i σ' H' => ∃ kvs v3 v4, σ' = [some v, some (.str op), some (.ref p), v3, v4] ∧ Ex H H' ∧ Ex G2 H' ∧ H' p = some (.dK kvs) ∧ kvs.map Prod.fst = (keysTo n (subs (w :: nm :: ts)) op i).map Sum.inr) ?_ ?_ ?_ ?_⟩
    · exact ⟨_, _, _, rfl, xd.trans r2.h, r2.s, r2.h _ _ upd_same, rfl⟩
    · rintro i σ' H' _ ⟨kvs, v3, v4, rfl, y1, y2, y3, y4⟩
      exact SqT.of (y2 _ _ ea)
    · rintro i x σ' H' H'' hi ⟨kvs, v3, v4, rfl, y1, y2, y3, y4⟩ ⟨T0, u1, u2, rfl, hT, rfl, e1, e2⟩
      obtain rfl : V.int (i : Nat) = u1 := Option.some.inj e1
      have e2 : xs[i]? = some u2 := e2
      obtain ⟨t, eti, hdt⟩ := hs.at e2
      have hil : i < (subs (w :: nm :: ts)).length := by rw [← hs.len]; exact hi
      have eg : (subs (w :: nm :: ts)).getD i .none = t := by rw [List.getD_eq_getElem?_getD, eti]; rfl
      have htt : isTr n t = true := hall t (List.mem_of_getElem? eti)
      have hTp : T0 ≠ p := fun z => by rw [z, y3] at hT; cases hT
      have z3 : upd H' T0 (.tup [.int (i : Nat), u2]) p = some (.dK kvs) := by rw [upd_ne (Ne.symm hTp)]; exact y3
      refine ⟨T0, _, rfl, SqT.of upd_same, rfl, _, _, rfl, _, _, rfl, rfl, ?_⟩
      refine ⟨_, rfl, .inr (.inr (.inl ⟨rfl, .inl ⟨kvs, z3⟩⟩)), ?_⟩
      refine ⟨_, rfl, ?_⟩
      have hk2 := kO_len (op := op) (show i < 3 by omega)
      have hsl : (102 : Nat) ≤ sizeLine := by decide
      have l1 := len_app Str.empty op
      have l2 := len_app (Str.empty ++ op) (Str.ofString ".")
      have l3 : (Str.ofString ".").length = 1 := by decide +kernel
      have l4 : Str.empty.length = 0 := rfl
      refine ⟨_, rfl, .inl ⟨op, rfl, by omega, op, rfl, by omega, ⟨_, rfl, by omega, _, rfl, .inr ⟨_, rfl, ?_, _, rfl, ?_, ?_⟩⟩⟩⟩
      · have : (((i : Nat) : Int).natAbs) < 3 := by omega
        exact Nat.lt_of_le_of_lt (Nat.log2_le_self _) (by omega)
      · show (kO op i).length ≤ sizeLine
        omega
      · refine ⟨G2, u2, t, kO op i, rfl, y2.trans (Ex.new hT), hdt, htt, by omega, fun p' kvs' H3 q1 q2 q3 q4 => ?_⟩
        have hpp : p ≠ p' := fun z => by rw [← z, z3] at q2; cases q2
        have n1 := congrArg List.length y4
        have n2 := congrArg List.length q4
        rw [List.length_map, List.length_map] at n1 n2
        have b1 := keysTo_le (fun t ht op => keys_le n t op (hall t ht)) op i (by omega)
        have b2 := keys_le n t (kO op i) htt
        have b3 := pow_small (show n ≤ 5 by omega)
        have b4 : i * 4 ^ n ≤ 3 * 4 ^ n := Nat.mul_le_mul_right _ (by omega)
        have hs2 : (10000 : Nat) ≤ sizeLine := by decide
        refine ⟨p, p', kvs, kvs', rfl, rfl, hpp, q1 _ _ z3, q3, by omega, ?_⟩
        refine ⟨_, _, _, rfl, Ex.mut ((y1.trans (Ex.new hT)).trans q1) hp0, Ex.mut ((y2.trans (Ex.new hT)).trans q1) G2p, upd_same, ?_⟩
        rw [mergeK_fst, y4, q4, keysTo_succ, List.map_append, eg]
        · rw [y4, q4]
          intro kk h1 h2
          obtain ⟨s1, m1, rfl⟩ := List.mem_map.mp h1
          obtain ⟨s2, m2, e⟩ := List.mem_map.mp h2
          cases e
          exact keys_apart (show i < 3 by omega) m2 (by rw [eg]; exact m1)
        · rw [q4]
          exact nodup_inr (keys_nodup n t _ htt)
    · rintro σ' H' ⟨kvs, v3, v4, rfl, y1, y2, y3, y4⟩
      refine ⟨_, rfl, k p kvs H' y1 hp0 y3 ?_⟩
      rw [y4, keysN, if_neg hb', hs.len]
      rfl
theorem ok_nodes (T : Txt P K mg CA) (D : Df K mg "nodes" s_nodes) (D_require_tree : DefOk P w K mg base (L2.CX P w) 10 "require_tree" ["value"] (spR CA fun _ => .none)) (D_nodes_below : DefOk P w K mg base CX0 5 "nodes_below" ["tree", "operation"] (spN 4)) :
    DefOk P w K mg base (L2.CX P w) 11 "nodes" ["tree"] (spR CA fun d => .int (wrk 4 d)) := by
  refine D.okX sc_nodes (fun _ _ _ _ _ _ us hl => match us, hl with | [_], _ => rfl) (fun vs H Q E h => spR_len h) (fun f cdv A outer s H vs Q E hr h => ?_)
  obtain ⟨G, v, d, rfl, s, hd, k1, k2⟩ := h
  refine ⟨_, (pss_cons (ps_expr (pe_callD D_require_tree (hr.mono (by decide)) (passes_call (takes_of rfl rfl rfl rfl) (fun _ _ _ _ h => h)) (pa_cons (pv 0) pa_nil)))
 (pss_one (ps_ret (pe_callB call_lenD (by rfl) T.n_len (by decide +kernel) (pa_cons (pe_callD D_nodes_below (hr.mono (by decide)) pass0 (pa_cons (pv 0) (pa_cons pe_str pa_nil))) pa_nil))))), ?_⟩
  refine ⟨_, rfl, G, v, d, rfl, s, hd, fun c v' G' H' r _ => ?_, k2⟩
  refine ⟨_, rfl, G', v, d, Str.ofString "", rfl, r.s, hd.up r.g, c, by decide, fun p kvs H3 q1 q2 q3 q4 => ?_⟩
  refine ⟨p, kvs, rfl, q3, ?_⟩
  have e : kvs.length = (keysN 4 d (Str.ofString "")).length := by
    have := congrArg List.length q4
    rwa [List.length_map, List.length_map] at this
  rw [e, keys_len]
  exact k1 c _ G' H3 (r.trans (Gr.keep r.s q1)) (.int _)
end
end My
set_option maxHeartbeats 4000000
namespace My
open PySem L2 Lf Evl Tr
abbrev s_law_working : Stmt := top 36
theorem sc_law_working : FnScope ["_law_tree_here", "_law_one"] ["_law_tree_here"] (defScope s_law_working) := ⟨rfl, rfl, rfl, by decide +kernel, rfl, by decide +kernel, by decide +kernel⟩
abbrev s_law_is_name : Stmt := top 37
theorem sc_law_is_name : FnScope ["_law_value", "_law_one"] ["_law_value"] (defScope s_law_is_name) := ⟨rfl, rfl, rfl, by decide +kernel, rfl, by decide +kernel, by decide +kernel⟩
abbrev s_law_is_number : Stmt := top 38
theorem sc_law_is_number : FnScope ["_law_value"] ["_law_value"] (defScope s_law_is_number) := ⟨rfl, rfl, rfl, by decide +kernel, rfl, by decide +kernel, by decide +kernel⟩
abbrev s_law_is_tree : Stmt := top 39
theorem sc_law_is_tree : FnScope ["_law_value", "_law_most", "_law_one"] ["_law_value", "_law_most"] (defScope s_law_is_tree) := ⟨rfl, rfl, rfl, by decide +kernel, rfl, by decide +kernel, by decide +kernel⟩
abbrev s_law_is_statement : Stmt := top 40
theorem sc_law_is_statement : FnScope ["_law_value"] ["_law_value"] (defScope s_law_is_statement) := ⟨rfl, rfl, rfl, by decide +kernel, rfl, by decide +kernel, by decide +kernel⟩
abbrev s_law_count : Stmt := top 42
theorem sc_law_count : FnScope ["_law_tree_here", "_law_one"] ["_law_tree_here"] (defScope s_law_count) := ⟨rfl, rfl, rfl, by decide +kernel, rfl, by decide +kernel, by decide +kernel⟩
section
variable {K : PySem.W.Frag} {σ : L2.St} {G : Hp} {ta tb tc te : TE} {t u : TT} {d : PyData} {ds : List PyData}
theorem ev_eqI {i j : Int} (ha : Ev ta σ G (.int i)) (hb : Ev tb σ G (.int j)) : Ev (tOp rEq ta tb) σ G (.bl (decide (i = j))) := by
  have h := ev_op ha hb (rv_eq (x := V.int i) (y := V.int j) rfl)
  have : decide (V.int i = V.int j) = decide (i = j) := by rw [decide_eq_decide]; simp
  rwa [this] at h
theorem ev_neI {i j : Int} (ha : Ev ta σ G (.int i)) (hb : Ev tb σ G (.int j)) : Ev (tOp rNe ta tb) σ G (.bl (!decide (i = j))) := by
  have h := ev_op ha hb (rv_ne (x := V.int i) (y := V.int j) rfl)
  have : decide (V.int i = V.int j) = decide (i = j) := by rw [decide_eq_decide]; simp
  rwa [this] at h
theorem et_orT (h1 : EvT t σ G true) : EvT (tOr t u) σ G true := et_or (b := false) h1 fun z => by cases z
theorem ev_is {v w : V} (h : Ev te σ G v) (e : v = w) : Ev te σ G w := e ▸ h
theorem ev_abs {i : Int} (h : Ev te σ G (.int i)) : Ev (tCB (fun xs H Q => ∃ i : Int, xs = [V.int i] ∧ Q (.int (if i < 0 then -i else i)) H) (tCons te tNil)) σ G (.int (if i < 0 then -i else i)) := fun H1 x Q q => h H1 x _ fun H2 x2 => ⟨i, rfl, q H2 x2⟩
theorem ev_strI {i : Int} (h : Ev te σ G (.int i)) (hz : i.natAbs.log2 < 1920) : Ev (tCB (fun xs H Q => ∃ i : Int, xs = [V.int i] ∧ i.natAbs.log2 < 1920 ∧ Q (.str (toString i)) H) (tCons te tNil)) σ G (.str (toString i)) := fun H1 x Q q => h H1 x _ fun H2 x2 => ⟨i, rfl, hz, q H2 x2⟩
theorem ev_lenZ {z : Str} (h : Ev te σ G (.str z)) (hl : z.length ≤ sizeLine) : Ev (tCB (fun xs H Q => ∃ z : Str, xs = [V.str z] ∧ z.length ≤ sizeLine ∧ Q (.int z.length) H) (tCons te tNil)) σ G (.int (z.length : Int)) := fun H1 x Q q => h H1 x _ fun H2 x2 => ⟨z, rfl, hl, q H2 x2⟩
theorem ev_sumD {is : List Int} (h : EvD te σ G (.list (is.map PyData.int))) : Ev (tCB (rSum K) (tCons te tNil)) σ G (.int is.sum) := fun H1 x Q q => h G H1 (Ex.refl _) x _ fun v G2 H2 r hd => by
  obtain ⟨a, xs, rfl, e, hs⟩ := hd.lst_
  cases da_ints hs
  exact ⟨a, is, rfl, SqL.of (r.s _ _ e), q H2 r.h⟩
theorem ev_maxD {is : List Int} (h : EvD te σ G (.list ((0 :: is).map PyData.int))) : Ev (tCB (rMax K) (tCons te tNil)) σ G (.int (mx is)) := fun H1 x Q q => h G H1 (Ex.refl _) x _ fun v G2 H2 r hd => by
  obtain ⟨a, xs, rfl, e, hs⟩ := hd.lst_
  cases da_ints hs
  refine ⟨a, 0 :: is, rfl, SqL.of (r.s _ _ e), by simp, fun m hm hu => ?_⟩
  rw [mx_zero hm hu]
  exact q H2 r.h
end
/-- partial: only of data that can be shown -/
def fSh (f : PyData → Bool) : PyData → Option PyData := fun d => if d.showable = true then some (.bool (f d)) else none
def spL (n : Nat) : Sp := spF fun ds => match ds with
  | [d, .int m] => if d.showable = true ∧ 0 ≤ m ∧ m < n then some (.bool (isTr m.toNat d)) else none
  | _ => none
theorem spL_len {n : Nat} {vs : List V} {H : Hp} {Q : VK} {E : XK} (h : spL n vs H Q E) : vs.length = 2 := by
  refine spF_len (fun ds d e => ?_) h
  split at e
  · rfl
  · cases e
theorem spL_of {n : Nat} {vs : List V} {H : Hp} {Q : VK} {E : XK} (h : spL n vs H Q E) : ∃ G v d m, vs = [v, .int m] ∧ Ex G H ∧ Da G v d ∧ d.showable = true ∧ 0 ≤ m ∧ m < n ∧ ∀ H', Ex H H' → Q (.bl (isTr m.toNat d)) H' := by
  obtain ⟨G, ds, d, s, h2, h3, k⟩ := h
  dsimp only at h3
  split at h3
  · rename_i d' m
    split at h3
    · rename_i hm
      cases h3
      cases h2 with
      | cons h t =>
        cases t with
        | cons h' t =>
          cases t
          rw [h'.int_]
          exact ⟨G, _, d', m, rfl, s, h, hm.1, hm.2.1, hm.2.2, fun H' x => k _ G H' (Gr.keep s x) (.bl _)⟩
    · cases h3
  · cases h3
theorem ev_callL {n : Nat} {σ : L2.St} {G : Hp} {ta tb : TE} {d : PyData} {m : Int} {E : XK} (h : EvD ta σ G d) (hb : Ev tb σ G (.int m)) (hs : d.showable = true) (h0 : 0 ≤ m) (h1 : m < n) : Ev (tCallD (spL n) E (tCons ta (tCons tb tNil))) σ G (.bl (isTr m.toNat d)) :=
  EvD.bl_ (evd_call (evd_cons h (evd_cons (evd_int hb) evd_nil)) (by dsimp only; rw [if_pos ⟨hs, h0, h1⟩]))
theorem ev_callO1 {f : PyData → Bool} {σ : L2.St} {G : Hp} {te : TE} {d : PyData} {E : XK} (h : EvD te σ G d) (hs : d.showable = true) : Ev (tCallD (spO (fSh f)) E (tCons te tNil)) σ G (.bl (f d)) :=
  EvD.bl_ (evd_callO h (by unfold fSh; rw [if_pos hs]))
theorem sh_tup {ds : List PyData} (h : (PyData.tuple ds).showable = true) : ∀ d ∈ ds, d.showable = true := showable_mem (by rw [PyData.showable] at h; exact h)
theorem sh_list {ds : List PyData} (h : (PyData.list ds).showable = true) : ∀ d ∈ ds, d.showable = true := showable_mem (by rw [PyData.showable] at h; exact h)
section
variable {P : Program} {w : World} {K : PySem.W.Frag} {mg : Str → Option Value} {base : Heap} {CA : Addr}
theorem ok_law_is_name (T : Txt P K mg CA) (D : Df K mg "_law_is_name" s_law_is_name) : DefOk P w K mg base CX0 1 "_law_is_name" ["_law_value"] (spB isNm) := by
  refine D.ok sc_law_is_name (fun _ _ _ _ _ _ us hl => match us, hl with | [_], _ => rfl) (fun vs H Q E h => spF_len f1_len h) (fun f cdv A outer s H vs Q E hr h => ?_)
  obtain ⟨G, v, d, rfl, s, hd, k⟩ := spB_of h
  refine ⟨_, (pss_one (ps_ret (pe_and (pe_callB call_isi (by rfl) T.n_isinstance (by decide +kernel) (pa_cons (pv 0) (pa_cons (pe_bltn (v := .ty "str") (by rfl) T.n_str (by decide +kernel) rfl) pa_nil))) (pe_and (pe_chain op_le op_le pe_int (pe_callB call_len_str (by rfl) T.n_len (by decide +kernel) (pa_cons (pv 0) pa_nil)) pe_int) (pe_one (pe_cmpR (op_eqEL hr.units0) (pe_lc (own := [("_law_one", 1)]) (by rfl) sc_law_is_name.nd (pi_str (pv 0)) (blkOk_by (own := [("_law_one", 1)]) (N := ["_law_value", "_law_one"]) (sc := defScope s_law_is_name) (by decide +kernel)) (fun _ _ _ _ _ => (pg_name (i := 1) sc_law_is_name.nd rfl (Or.inl rfl))) (fun _ _ _ _ _ => (pts_one (pt_not (pt_chain op_leS op_leS pe_str (pv 1) pe_str)))) (fun _ _ _ _ _ => (pv 1))) (pe_lst pa_nil) (nomark _))))))), ?_⟩
  by_cases c : kd d = "str"
  · obtain ⟨x, rfl⟩ := kd_str c
    have e : isNm (.str x) = ((kd (.str x) == "str") && ((decide ((1 : Int) ≤ (x.length : Int)) && decide ((x.length : Int) ≤ 8)) && ((x.cps.toList.filter fun c => !inz c).map fun c => PyData.str (sgn1 c)).isEmpty)) := by
      rw [isNm_str, lets_empty x (fun c => PyData.str (sgn1 c))]
      have e1 : decide ((1 : Int) ≤ (x.length : Int)) = decide (1 ≤ x.length) := by rw [decide_eq_decide]; omega
      have e2 : decide ((x.length : Int) ≤ 8) = decide (x.length ≤ 8) := by rw [decide_eq_decide]; omega
      rw [e1, e2]
      rfl
    rw [e] at k
    refine Ev.ret s (ev_andV (ev_isStr (evd_var rfl hd)) fun _ => ev_andV (ev_chain ev_c (ev_lenS (evd_var rfl hd)) ev_c) fun _ => ev_eqEL (evd_lcS (fun c => !inz c) (fun c => .str (sgn1 c)) (evd_var rfl hd) (fun _ => rfl) (fun c _ => et_is (et_not (et_test (ev_chainS ev_c (ev_var rfl) ev_c))) ?_) (fun c _ _ => evd_str (ev_var rfl) (show 1 ≤ 1000 by decide)))) k
    have h1 : (Str.ofString "a").cps.toList = [97] := by decide +kernel
    have h2 : (Str.ofString "z").cps.toList = [122] := by decide +kernel
    have h3 : (sgn1 c).cps.toList = [c] := rfl
    rw [h1, h2, h3, sg_lt, sg_lt]
    unfold inz
    congr 1
    congr 1
    · rw [← decide_not, decide_eq_decide]; omega
    · rw [← decide_not, decide_eq_decide]; omega
  · have nm : isNm d = ((kd d == "str") && false) := by
      rw [Bool.and_false]
      cases d <;> (first | rfl | exact absurd rfl c)
    rw [nm] at k
    exact Ev.ret s (ev_andV (ev_isStr (evd_var rfl hd)) fun z => absurd (eq_of_beq z) c) k
theorem ok_law_is_number (T : Txt P K mg CA) (D : Df K mg "_law_is_number" s_law_is_number) : DefOk P w K mg base CX0 1 "_law_is_number" ["_law_value"] (spO (fSh isIn)) := by
  refine D.ok sc_law_is_number (fun _ _ _ _ _ _ us hl => match us, hl with | [_], _ => rfl) (fun vs H Q E h => spO_len h) (fun f cdv A outer s H vs Q E hr h => ?_)
  obtain ⟨G, v, d, e, rfl, s, hd, he, k⟩ := spO_of h
  refine ⟨_, (pss_one (ps_ret (pe_and (pe_callB call_isi (by rfl) T.n_isinstance (by decide +kernel) (pa_cons (pv 0) (pa_cons (pe_bltn (v := .ty "int") (by rfl) T.n_int (by decide +kernel) rfl) pa_nil))) (pe_and (pe_not (pe_callB call_isi (by rfl) T.n_isinstance (by decide +kernel) (pa_cons (pv 0) (pa_cons (pe_bltn (v := .ty "bool") (by rfl) T.n_bool (by decide +kernel) rfl) pa_nil)))) (pe_one (pe_cmpR op_le (pe_callB call_len_str (by rfl) T.n_len (by decide +kernel) (pa_cons (pe_callTy call_str_int (by rfl) T.n_str (by decide +kernel) (pa_cons (pe_callB call_abs (by rfl) T.n_abs (by decide +kernel) (pa_cons (pv 0) pa_nil)) pa_nil)) pa_nil)) pe_int (nomark _))))))), ?_⟩
  unfold fSh at he
  split at he
  · rename_i hs
    cases he
    refine s_retD s (EvD.is (evd_bl (b := ((kd d == "int" || kd d == "bool") && (!(kd d == "bool") && isIn d))) (ev_andV (ev_isInt (evd_var rfl hd)) fun h1 => ev_andV (ev_notV (ev_isBool (evd_var rfl hd))) fun h2 => ?_)) ?_) k
    · cases d with
      | int i =>
        rw [hd.int_]
        have hz : (if i < 0 then -i else i).natAbs.log2 < 1920 := by
          have : (if i < 0 then -i else i).natAbs = i.natAbs := by split <;> omega
          rw [this]
          rw [PyData.showable] at hs
          exact of_decide_eq_true hs
        refine ev_is (ev_op (ev_lenZ (ev_strI (ev_abs (ev_var rfl)) hz) ?_) ev_c rv_I0) (congrArg V.bl (len_abs i))
        have e : (if i < 0 then -i else i) = ((i.natAbs : Nat) : Int) := by split <;> omega
        rw [PyData.showable] at hs
        have := len_big (of_decide_eq_true hs)
        rw [e]
        exact Nat.le_trans this (by decide)
      | bool b => cases h2
      | _ => cases h1
    · cases d <;> rfl
  · cases he
theorem ok_law_tree0 (D : Df K mg "_law_is_tree" s_law_is_tree) : DefOk P w K mg base CX0 1 "_law_is_tree" ["_law_value", "_law_most"] (spL 0) := by
  refine D.ok sc_law_is_tree (fun _ _ _ _ _ _ us hl => match us, hl with | [_, _], _ => rfl) (fun vs H Q E h => spL_len h) (fun f cdv A outer s H vs Q E hr h => ?_)
  obtain ⟨_, _, _, m, _, _, _, _, h0, h1, _⟩ := spL_of h
  exact absurd h1 (by omega)
theorem ok_law_treeS (T : Txt P K mg CA) (D : Df K mg "_law_is_tree" s_law_is_tree) {n l : Nat} (hl3 : 1 ≤ l) (D_law_is_tree : DefOk P w K mg base CX0 l "_law_is_tree" ["_law_value", "_law_most"] (spL n)) (D_law_is_name : DefOk P w K mg base CX0 1 "_law_is_name" ["_law_value"] (spB isNm))
    (D_law_is_number : DefOk P w K mg base CX0 1 "_law_is_number" ["_law_value"] (spO (fSh isIn))) : DefOk P w K mg base CX0 (l + 1) "_law_is_tree" ["_law_value", "_law_most"] (spL (n + 1)) := by
  refine D.ok sc_law_is_tree (fun _ _ _ _ _ _ us hl => match us, hl with | [_, _], _ => rfl) (fun vs H Q E h => spL_len h) (fun f cdv A outer s H vs Q E hr h => ?_)
  obtain ⟨G, v, d, m, rfl, s, hd, hs, m0, m1, k⟩ := spL_of h
  refine ⟨_, (pss_cons (ps_if (PW.pt (pw_or (pt_cmpR op_eq (pv 1) pe_int (nomark _)) (pw_or (pt_not (pt_val (pe_callB call_isi (by rfl) T.n_isinstance (by decide +kernel) (pa_cons (pv 0) (pa_cons (pe_bltn (v := .ty "tuple") (by rfl) T.n_tuple (by decide +kernel) rfl) pa_nil))))) (pw_or (pt_cmpR op_lt (pe_callB call_len_seq (by rfl) T.n_len (by decide +kernel) (pa_cons (pv 0) pa_nil)) pe_int (nomark _)) (pw_or1 (pt_not (pt_val (pe_callD D_law_is_name (hr.mono (by omega)) pass0 (pa_cons (pe_ix ix_tup (pv 0) pe_int (fun _ _ => rfl)) pa_nil)))))))))
 (pss_one (ps_ret pe_bl))
 pss_nil)
 (pss_cons (ps_if (pt_cmpR (op_eqS hr.units0) (pe_ix ix_tup (pv 0) pe_int (fun _ _ => rfl)) pe_str (nomark _))
 (pss_one (ps_ret (pe_and (pe_cmpR op_eq (pe_callB call_len_seq (by rfl) T.n_len (by decide +kernel) (pa_cons (pv 0) pa_nil)) pe_int (nomark _)) (pe_and (pe_callD D_law_is_number (hr.mono (by omega)) pass0 (pa_cons (pe_ix ix_tup (pv 0) pe_int (fun _ _ => rfl)) pa_nil)) (pe_one (pe_chain op_le op_le pe_int (pe_ix ix_tup (pv 0) pe_int (fun _ _ => rfl)) pe_int))))))
 pss_nil)
 (pss_cons (ps_if (pt_cmpR (op_eqS hr.units0) (pe_ix ix_tup (pv 0) pe_int (fun _ _ => rfl)) pe_str (nomark _))
 (pss_one (ps_ret (pe_and (pe_cmpR op_eq (pe_callB call_len_seq (by rfl) T.n_len (by decide +kernel) (pa_cons (pv 0) pa_nil)) pe_int (nomark _)) (pe_and (pe_callD D_law_is_number (hr.mono (by omega)) pass0 (pa_cons (pe_ix ix_tup (pv 0) pe_int (fun _ _ => rfl)) pa_nil)) (pe_one (pe_callD D_law_is_number (hr.mono (by omega)) pass0 (pa_cons (pe_ix ix_tup (pv 0) pe_int (fun _ _ => rfl)) pa_nil)))))))
 pss_nil)
 (pss_cons (ps_if (PW.pt (pw_or (pt_cmpR (op_neS hr.units0) (pe_ix ix_tup (pv 0) pe_int (fun _ _ => rfl)) pe_str (nomark _)) (pw_or1 (pt_cmpR op_gt (pe_callB call_len_seq (by rfl) T.n_len (by decide +kernel) (pa_cons (pv 0) pa_nil)) pe_int (nomark _)))))
 (pss_one (ps_ret pe_bl))
 pss_nil)
 (pss_one (ps_ret (pe_cmpR (op_eqEL hr.units0) (pe_lc (own := [("_law_one", 2)]) (by rfl) sc_law_is_tree.nd (pi_tup (pe_slice sl_tupA (pv 0) (po_some pe_int) po_none)) (blkOk_by (own := [("_law_one", 2)]) (N := ["_law_value", "_law_most", "_law_one"]) (sc := defScope s_law_is_tree) (by decide +kernel)) (fun _ _ _ _ _ => (pg_name (i := 2) sc_law_is_tree.nd rfl (Or.inl rfl))) (fun _ _ _ _ _ => (pts_one (pt_not (pt_val (pe_callD D_law_is_tree (hr.mono (by omega)) pass0 (pa_cons (pv 2) (pa_cons (pe_op op_sub (pv 1) pe_int) pa_nil))))))) (fun _ _ _ _ _ => (pv 2))) (pe_lst pa_nil) (nomark _)))))))), ?_⟩
  by_cases c : kd d = "tuple"
  · obtain ⟨ds, rfl⟩ := kd_tup c
    have hsh := sh_tup hs
    match ds, hd, hs, k, hsh with
    | [], hd, hs, k, hsh =>
      refine q_ifD s (et_or (b := true) (et_test (ev_eqI (ev_var rfl) ev_c)) fun _ => et_is (et_or (b := true) (et_not (et_B (ev_isTup (evd_var rfl hd)))) fun _ => et_orT (et_is (et_test (ev_op (ev_lenT (evd_var rfl hd)) ev_c rv_I0)) (decide_eq_true (by simp)))) rfl) (fun _ H1 x1 => ?_) (fun z => by rw [Bool.or_true] at z; cases z)
      have e : isTr m.toNat (.tuple []) = false := by cases m.toNat <;> rfl
      rw [e] at k
      exact k H1 x1
    | [dw], hd, hs, k, hsh =>
      refine q_ifD s (et_or (b := true) (et_test (ev_eqI (ev_var rfl) ev_c)) fun _ => et_is (et_or (b := true) (et_not (et_B (ev_isTup (evd_var rfl hd)))) fun _ => et_orT (et_is (et_test (ev_op (ev_lenT (evd_var rfl hd)) ev_c rv_I0)) (decide_eq_true (by simp)))) rfl) (fun _ H1 x1 => ?_) (fun z => by rw [Bool.or_true] at z; cases z)
      have e : isTr m.toNat (.tuple [dw]) = false := by cases m.toNat <;> rfl
      rw [e] at k
      exact k H1 x1
    | dw :: dn :: ts, hd, hs, k, hsh =>
      refine q_ifD s (et_or (b := !isNm dn) (et_test (ev_eqI (ev_var rfl) ev_c)) fun _ => et_is (et_or (et_not (et_B (ev_isTup (evd_var rfl hd)))) fun _ => et_or (et_test (ev_op (ev_lenT (evd_var rfl hd)) ev_c rv_I0)) fun _ => et_not (et_B (ev_callB (evd_ixT (evd_var rfl hd) ev_c (atI_nat (j := 1) rfl))))) ?_) (fun hb H1 x1 => ?_) (fun hb H1 x1 => ?_)
      · have : decide (((dw :: dn :: ts).length : Int) < 2) = false := decide_eq_false (by rw [List.length_cons, List.length_cons]; omega)
        rw [this]
        rfl
      · have e : isTr m.toNat (.tuple (dw :: dn :: ts)) = false := by
          cases hm : m.toNat with
          | zero => rfl
          | succ j =>
            rw [decide_eq_false (by omega : ¬ m = 0)] at hb
            rw [isTr_core]
            have : isNm dn = false := by simpa using hb
            rw [this]
            rfl
        rw [e] at k
        exact k H1 x1
      · have hb2 : ¬ m = 0 ∧ isNm dn = true := by simpa using hb
        obtain ⟨j, rfl⟩ : ∃ j : Nat, m = (j : Int) + 1 := ⟨(m - 1).toNat, by omega⟩
        have e1 : ((j : Int) + 1).toNat = j + 1 := by omega
        rw [e1, isTr_core, hb2.2, Bool.true_and] at k
        have s1 := s.trans x1
        have len : ((dw :: dn :: ts).length : Int) = ts.length + 2 := by rw [List.length_cons, List.length_cons]; omega
        have sh0 : ∀ i : Nat, (ts.getD i .none).showable = true := fun i => by
          by_cases q : i < ts.length
          · rw [List.getD_eq_getElem?_getD, List.getElem?_eq_getElem q]
            exact hsh _ (List.mem_cons_of_mem _ (List.mem_cons_of_mem _ (List.getElem_mem q)))
          · rw [List.getD_eq_getElem?_getD, List.getElem?_eq_none (by omega)]
            rfl
        dsimp only [tNext]
        refine q_ifD s1 (et_test (ev_eqS (evd_ixT (evd_var rfl hd) ev_c (atI_nat (j := 0) rfl)) ev_c)) (fun ha H2 x2 => ?_) (fun ha H2 x2 => ?_)
        · cases isS_eq ha
          rw [core_at] at k
          have e3 : decide (ts.length = 1) = decide (((PyData.str "at" :: dn :: ts).length : Int) = 3) := by rw [decide_eq_decide, len]; omega
          have e2 : (decide (ts.length = 1) && within 0 3 (ts.getD 0 .none)) = (decide (((PyData.str "at" :: dn :: ts).length : Int) = 3) && (isIn (ts.getD 0 .none) && within 0 3 (ts.getD 0 .none))) := by
            rw [e3]
            congr 1
            generalize ts.getD 0 .none = d
            cases d with
            | int i =>
              show ((decide (-lim < i) && decide (i < lim)) && _) = ((decide (-lim < i) && decide (i < lim)) && ((decide (-lim < i) && decide (i < lim)) && _))
              cases (decide (-lim < i) && decide (i < lim)) <;> rfl
            | _ => rfl
          rw [e2] at k
          refine Ev.ret (s1.trans x2) (ev_andV (ev_eqI (ev_lenT (evd_var rfl hd)) ev_c) fun h3 => ?_) (fun H3 x3 => k H3 ((x1.trans x2).trans x3))
          have h1 : ts.length = 1 := of_decide_eq_true (e3.trans h3)
          match ts, h1, hd, sh0 with
          | [dd], _, hd, sh0 =>
            have hx : EvD (tOp (rIxT K) (tVar 0) (tC (.int 2))) (start ["_law_value", "_law_most", "_law_one"] [v, .int ((j : Int) + 1)]) G dd := evd_ixT (evd_var rfl hd) ev_c (atI_nat (j := 2) rfl)
            refine ev_andV (ev_callO1 hx (sh0 0)) fun hi => ?_
            cases dd with
            | int i =>
              have e4 : within 0 3 (PyData.int i) = (decide ((0 : Int) ≤ i) && decide (i ≤ 3)) := by
                show ((decide (-lim < i) && decide (i < lim)) && _) = _
                rw [show (decide (-lim < i) && decide (i < lim)) = true from hi]
                rfl
              show Ev _ _ _ (.bl (within 0 3 (PyData.int i)))
              rw [e4]
              exact ev_chain ev_c (EvD.int_ hx) ev_c
            | _ => cases hi
        · refine q_ifD (s1.trans x2) (et_test (ev_eqS (evd_ixT (evd_var rfl hd) ev_c (atI_nat (j := 0) rfl)) ev_c)) (fun hb3 H3 x3 => ?_) (fun hb3 H3 x3 => ?_)
          · cases isS_eq hb3
            rw [core_load] at k
            have e3 : decide (ts.length = 2) = decide (((PyData.str "load" :: dn :: ts).length : Int) = 4) := by rw [decide_eq_decide, len]; omega
            rw [e3] at k
            refine Ev.ret ((s1.trans x2).trans x3) (ev_andV (ev_eqI (ev_lenT (evd_var rfl hd)) ev_c) fun h3 => ?_) (fun H4 x4 => k H4 (((x1.trans x2).trans x3).trans x4))
            have h1 : ts.length = 2 := of_decide_eq_true (e3.trans h3)
            match ts, h1, hd, sh0 with
            | [dd, de], _, hd, sh0 =>
              exact ev_andV (ev_callO1 (evd_ixT (evd_var rfl hd) ev_c (atI_nat (j := 2) rfl)) (sh0 0)) fun _ => ev_callO1 (evd_ixT (evd_var rfl hd) ev_c (atI_nat (j := 3) rfl)) (sh0 1)
          · have s3 := (s1.trans x2).trans x3
            have xx := (x1.trans x2).trans x3
            refine q_ifD s3 (et_or (et_test (ev_neS (evd_ixT (evd_var rfl hd) ev_c (atI_nat (j := 0) rfl)) ev_c)) fun _ => et_test (ev_op (ev_lenT (evd_var rfl hd)) ev_c rv_I0)) (fun hb4 H4 x4 => ?_) (fun hb4 H4 x4 => ?_)
            · have e5 : core j dw ts = false := by
                cases q1 : isS "op" dw with
                | false => exact core_no ha hb3 q1
                | true =>
                  rw [q1] at hb4
                  cases isS_eq q1
                  rw [core_op]
                  have : decide (ts.length ≤ 3) = false := by
                    rw [Bool.not_true, Bool.false_or] at hb4
                    have := of_decide_eq_true hb4
                    rw [len] at this
                    exact decide_eq_false (by omega)
                  rw [this]
                  rfl
              rw [e5] at k
              exact k _ (xx.trans x4)
            · rw [Bool.or_eq_false_iff] at hb4
              have q1 : isS "op" dw = true := by simpa using hb4.1
              have q2 := of_decide_eq_false hb4.2
              rw [len] at q2
              cases isS_eq q1
              rw [core_op, decide_eq_true (by omega : ts.length ≤ 3), Bool.true_and, all_empty] at k
              refine Ev.ret (s3.trans x4) (ev_eqEL (EvD.is (evd_lcT (K := K) (ds := ts) (fun t => !isTr j t) id (EvD.is (evd_sl (evd_var rfl hd) (EvO.some_ ev_c) EvO.none_) ?_) (by omega) (fun _ => rfl) (fun d hd' v G1 _ hv => et_not (et_B (ev_is (ev_callL (evd_var rfl hv) (ev_op (ev_var rfl) ev_c rv_I0) ?_ ?_ ?_) ?_))) (fun d _ _ v G1 _ hv => evd_var rfl hv)) rfl)) (fun H5 x5 => k H5 ((xx.trans x4).trans x5))
              · rw [show (2 : Int) = ((2 : Nat) : Int) from rfl, cutD_from]
                rfl
              · exact hsh _ (List.mem_cons_of_mem _ (List.mem_cons_of_mem _ hd'))
              · omega
              · omega
              · rw [show ((j : Int) + 1 - 1).toNat = j by omega]
  · have e1 : isTr m.toNat d = false := by
      cases hm : m.toNat with
      | zero => rfl
      | succ j => cases d <;> (first | rfl | exact absurd rfl c)
    rw [e1] at k
    refine q_ifD s (et_or (b := true) (et_test (ev_eqI (ev_var rfl) ev_c)) fun _ => et_is (et_or (b := true) (et_not (et_B (ev_isTup (evd_var rfl hd)))) fun z => ?_) ?_) (fun _ H1 x1 => k H1 x1) (fun z => by rw [Bool.or_true] at z; cases z)
    · rw [beq_eq_false_iff_ne.mpr c] at z
      cases z
    · rw [beq_eq_false_iff_ne.mpr c]
      rfl
end
end My
set_option maxHeartbeats 4000000
namespace My
open PySem L2 Lf Evl Tr
theorem st_short {ds : List PyData} (h : ds.length < 3) : isSt (.tuple ds) = false := by
  unfold isSt; dsimp only
  rw [if_neg (fun z => by omega), if_neg (fun z => by omega)]
theorem st_noname {w nm x : PyData} {r : List PyData} (h : isNm nm = false) : isSt (.tuple (w :: nm :: x :: r)) = false := by
  unfold isSt; dsimp only
  split
  · rw [show (w :: nm :: x :: r).getD 1 .none = nm from rfl, h]
    rfl
  · split
    · rw [show (w :: nm :: x :: r).getD 1 .none = nm from rfl, h]
      rfl
    · rfl
theorem st_set {nm x : PyData} {r : List PyData} (h : isNm nm = true) : isSt (.tuple (.str "set" :: nm :: x :: r)) = (decide (r.length = 0) && (isTr 4 x && !isS "at" (hd0 x))) := by
  unfold isSt; dsimp only
  rw [show (PyData.str "set" :: nm :: x :: r).getD 1 .none = nm from rfl, show (PyData.str "set" :: nm :: x :: r).getD 2 .none = x from rfl, show (PyData.str "set" :: nm :: x :: r).getD 0 .none = .str "set" from rfl, h]
  by_cases c : r.length = 0
  · rw [if_pos ⟨by simp [c], by decide⟩, decide_eq_true c]
  · rw [if_neg (fun z => c (by have := z.1; simpa using this)), if_neg (fun z => absurd z.2 (by decide)), decide_eq_false c]; rfl
theorem st_store {nm x : PyData} {r : List PyData} (h : isNm nm = true) (hl : r.length = 3) : isSt (.tuple (.str "store" :: nm :: x :: r)) = (isNm x && (isIn (r.getD 0 .none) && (isIn (r.getD 1 .none) && (!isZ (r.getD 0 .none) && isTr 4 (r.getD 2 .none))))) := by
  unfold isSt; dsimp only
  rw [show (PyData.str "store" :: nm :: x :: r).getD 0 .none = .str "store" from rfl, if_neg (fun z => absurd z.2 (by decide)), if_pos ⟨by simp [hl], by decide⟩, show (PyData.str "store" :: nm :: x :: r).getD 1 .none = nm from rfl, h]
  rfl
theorem st_store_no {nm x : PyData} {r : List PyData} (hl : ¬ r.length = 3) : isSt (.tuple (.str "store" :: nm :: x :: r)) = false := by
  unfold isSt; dsimp only
  rw [show (PyData.str "store" :: nm :: x :: r).getD 0 .none = .str "store" from rfl, if_neg (fun z => absurd z.2 (by decide)), if_neg (fun z => hl (by have := z.1; simp at this; exact this))]
theorem st_no {w nm x : PyData} {r : List PyData} (h1 : isS "set" w = false) (h2 : isS "store" w = false) : isSt (.tuple (w :: nm :: x :: r)) = false := by
  unfold isSt; dsimp only
  rw [if_neg (fun z => by rw [show (w :: nm :: x :: r).getD 0 .none = w from rfl, h1] at z; cases z.2), if_neg (fun z => by rw [show (w :: nm :: x :: r).getD 0 .none = w from rfl, h2] at z; cases z.2)]
section
variable {P : Program} {w : World} {K : PySem.W.Frag} {mg : Str → Option Value} {base : Heap} {CA : Addr}
theorem ok_law_is_statement (T : Txt P K mg CA) (D : Df K mg "_law_is_statement" s_law_is_statement) (D_law_is_tree : DefOk P w K mg base CX0 6 "_law_is_tree" ["_law_value", "_law_most"] (spL 5)) (D_law_is_name : DefOk P w K mg base CX0 1 "_law_is_name" ["_law_value"] (spB isNm))
    (D_law_is_number : DefOk P w K mg base CX0 1 "_law_is_number" ["_law_value"] (spO (fSh isIn))) : DefOk P w K mg base CX0 7 "_law_is_statement" ["_law_value"] (spO (fSh isSt)) := by
  refine D.ok sc_law_is_statement (fun _ _ _ _ _ _ us hl => match us, hl with | [_], _ => rfl) (fun vs H Q E h => spO_len h) (fun f cdv A outer s H vs Q E hr h => ?_)
  obtain ⟨G, v, d, e, rfl, s, hd, he, k⟩ := spO_of h
  refine ⟨_, (pss_cons (ps_if (PW.pt (pw_or (pt_not (pt_val (pe_callB call_isi (by rfl) T.n_isinstance (by decide +kernel) (pa_cons (pv 0) (pa_cons (pe_bltn (v := .ty "tuple") (by rfl) T.n_tuple (by decide +kernel) rfl) pa_nil))))) (pw_or (pt_cmpR op_lt (pe_callB call_len_seq (by rfl) T.n_len (by decide +kernel) (pa_cons (pv 0) pa_nil)) pe_int (nomark _)) (pw_or1 (pt_not (pt_val (pe_callD D_law_is_name (hr.mono (by decide)) pass0 (pa_cons (pe_ix ix_tup (pv 0) pe_int (fun _ _ => rfl)) pa_nil))))))))
 (pss_one (ps_ret pe_bl))
 pss_nil)
 (pss_cons (ps_if (pt_cmpR (op_eqS hr.units0) (pe_ix ix_tup (pv 0) pe_int (fun _ _ => rfl)) pe_str (nomark _))
 (pss_one (ps_ret (pe_and (pe_cmpR op_eq (pe_callB call_len_seq (by rfl) T.n_len (by decide +kernel) (pa_cons (pv 0) pa_nil)) pe_int (nomark _)) (pe_and (pe_callD D_law_is_tree (hr.mono (by decide)) pass0 (pa_cons (pe_ix ix_tup (pv 0) pe_int (fun _ _ => rfl)) (pa_cons pe_int pa_nil))) (pe_one (pe_cmpR (op_neS hr.units0) (pe_ix ix_tup (pe_ix ix_tup (pv 0) pe_int (fun _ _ => rfl)) pe_int (fun _ _ => rfl)) pe_str (nomark _)))))))
 pss_nil)
 (pss_cons (ps_if (PW.pt (pw_or (pt_cmpR (op_neS hr.units0) (pe_ix ix_tup (pv 0) pe_int (fun _ _ => rfl)) pe_str (nomark _)) (pw_or (pt_cmpR op_ne (pe_callB call_len_seq (by rfl) T.n_len (by decide +kernel) (pa_cons (pv 0) pa_nil)) pe_int (nomark _)) (pw_or1 (pt_not (pt_val (pe_callD D_law_is_name (hr.mono (by decide)) pass0 (pa_cons (pe_ix ix_tup (pv 0) pe_int (fun _ _ => rfl)) pa_nil))))))))
 (pss_one (ps_ret pe_bl))
 pss_nil)
 (pss_cons (ps_if (PW.pt (pw_or (pt_not (pt_val (pe_callD D_law_is_number (hr.mono (by decide)) pass0 (pa_cons (pe_ix ix_tup (pv 0) pe_int (fun _ _ => rfl)) pa_nil)))) (pw_or (pt_not (pt_val (pe_callD D_law_is_number (hr.mono (by decide)) pass0 (pa_cons (pe_ix ix_tup (pv 0) pe_int (fun _ _ => rfl)) pa_nil)))) (pw_or1 (pt_cmpR op_eq (pe_ix ix_tup (pv 0) pe_int (fun _ _ => rfl)) pe_int (nomark _))))))
 (pss_one (ps_ret pe_bl))
 pss_nil)
 (pss_one (ps_ret (pe_callD D_law_is_tree (hr.mono (by decide)) pass0 (pa_cons (pe_ix ix_tup (pv 0) pe_int (fun _ _ => rfl)) (pa_cons pe_int pa_nil))))))))), ?_⟩
  unfold fSh at he
  split at he
  · rename_i hs
    cases he
    have k : ∀ H', Ex H H' → Q (.bl (isSt d)) H' := fun H' x => k _ G H' (Gr.keep s x) (.bl _)
    by_cases c : kd d = "tuple"
    · obtain ⟨ds, rfl⟩ := kd_tup c
      have hsh := sh_tup hs
      by_cases hl : ds.length < 3
      · rw [st_short hl] at k
        refine q_ifD s (et_or (b := true) (et_not (et_B (ev_isTup (evd_var rfl hd)))) fun _ => et_orT (et_is (et_test (ev_op (ev_lenT (evd_var rfl hd)) ev_c rv_I0)) (decide_eq_true (by omega)))) (fun _ H1 x1 => k H1 x1) (fun z => by cases z)
      · obtain ⟨dw, dn, dx, r, rfl⟩ : ∃ dw dn dx r, ds = dw :: dn :: dx :: r := by
          match ds, hl with
          | a :: b :: c :: r, _ => exact ⟨a, b, c, r, rfl⟩
          | [], h => exact absurd (by simp) h
          | [a], h => exact absurd (by simp) h
          | [a, b], h => exact absurd (by simp) h
        have len : ((dw :: dn :: dx :: r).length : Int) = r.length + 3 := by rw [List.length_cons, List.length_cons, List.length_cons]; omega
        have i1 : EvD (tOp (rIxT K) (tVar 0) (tC (.int 1))) (start ["_law_value"] [v]) G dn := evd_ixT (evd_var rfl hd) ev_c (atI_nat (j := 1) rfl)
        have i0 : EvD (tOp (rIxT K) (tVar 0) (tC (.int 0))) (start ["_law_value"] [v]) G dw := evd_ixT (evd_var rfl hd) ev_c (atI_nat (j := 0) rfl)
        have i2 : EvD (tOp (rIxT K) (tVar 0) (tC (.int 2))) (start ["_law_value"] [v]) G dx := evd_ixT (evd_var rfl hd) ev_c (atI_nat (j := 2) rfl)
        refine q_ifD s (et_is (b := !isNm dn) (et_or (et_not (et_B (ev_isTup (evd_var rfl hd)))) fun _ => et_or (et_test (ev_op (ev_lenT (evd_var rfl hd)) ev_c rv_I0)) fun _ => et_not (et_B (ev_callB i1))) ?_) (fun hb H1 x1 => ?_) (fun hb H1 x1 => ?_)
        · have : decide (((dw :: dn :: dx :: r).length : Int) < 3) = false := decide_eq_false (by rw [len]; omega)
          rw [this]
          rfl
        · rw [st_noname (by simpa using hb)] at k
          exact k H1 x1
        · have hn : isNm dn = true := by simpa using hb
          have s1 := s.trans x1
          dsimp only [tNext]
          refine q_ifD s1 (et_test (ev_eqS i0 ev_c)) (fun ha H2 x2 => ?_) (fun ha H2 x2 => ?_)
          · cases isS_eq ha
            rw [st_set hn] at k
            have e3 : decide (r.length = 0) = decide (((PyData.str "set" :: dn :: dx :: r).length : Int) = 3) := by rw [decide_eq_decide, len]; omega
            rw [e3] at k
            refine Ev.ret (s1.trans x2) (ev_andV (ev_eqI (ev_lenT (evd_var rfl hd)) ev_c) fun h3 => ev_andV (ev_callL (m := 4) i2 ev_c (hsh dx (by simp)) (by decide) (by decide)) fun h4 => ?_) (fun H3 x3 => k H3 ((x1.trans x2).trans x3))
            obtain ⟨w', nm', ts', rfl⟩ := isTr_tup h4
            exact ev_neS (evd_ixT i2 ev_c (atI_nat (j := 0) rfl)) ev_c
          · by_cases q1 : isS "store" dw = true
            · cases isS_eq q1
              refine q_ifD (s1.trans x2) (b := !decide (((PyData.str "store" :: dn :: dx :: r).length : Int) = 6) || !isNm dx) (et_or (a := false) (et_is (et_test (ev_neS i0 ev_c)) (by decide)) fun _ => et_or (et_test (ev_neI (ev_lenT (evd_var rfl hd)) ev_c)) fun _ => et_not (et_B (ev_callB i2))) (fun hb4 H3 x3 => ?_) (fun hb4 H3 x3 => ?_)
              · have e5 : isSt (.tuple (.str "store" :: dn :: dx :: r)) = false := by
                  by_cases hl3 : r.length = 3
                  · rw [st_store hn hl3]
                    rw [decide_eq_true (by rw [len]; omega)] at hb4
                    have : isNm dx = false := by simpa using hb4
                    rw [this]
                    rfl
                  · exact st_store_no hl3
                rw [e5] at k
                exact k _ ((x1.trans x2).trans x3)
              · rw [Bool.or_eq_false_iff] at hb4
                have hl3 : r.length = 3 := by
                  have := hb4.1
                  simp only [Bool.not_eq_false', decide_eq_true_eq] at this
                  rw [len] at this
                  omega
                have hnx : isNm dx = true := by simpa using hb4.2
                rw [st_store hn hl3, hnx, Bool.true_and] at k
                match r, hl3, hd, hsh, k with
                | [d3, d4, d5], _, hd, hsh, k =>
                  have i3 : EvD (tOp (rIxT K) (tVar 0) (tC (.int 3))) (start ["_law_value"] [v]) G d3 := evd_ixT (evd_var rfl hd) ev_c (atI_nat (j := 3) rfl)
                  have i4 : EvD (tOp (rIxT K) (tVar 0) (tC (.int 4))) (start ["_law_value"] [v]) G d4 := evd_ixT (evd_var rfl hd) ev_c (atI_nat (j := 4) rfl)
                  have i5 : EvD (tOp (rIxT K) (tVar 0) (tC (.int 5))) (start ["_law_value"] [v]) G d5 := evd_ixT (evd_var rfl hd) ev_c (atI_nat (j := 5) rfl)
                  have s3 := (s1.trans x2).trans x3
                  have k : ∀ H', Ex H H' → Q (.bl (isIn d3 && (isIn d4 && (!isZ d3 && isTr 4 d5)))) H' := k
                  refine q_ifD s3 (b := !isIn d3 || (!isIn d4 || isZ d3)) (et_or (et_not (et_B (ev_callO1 i3 (hsh d3 (by simp))))) fun q3 => et_or (et_not (et_B (ev_callO1 i4 (hsh d4 (by simp))))) fun _ => ?_) (fun hb5 H4 x4 => ?_) (fun hb5 H4 x4 => ?_)
                  · obtain ⟨i, rfl⟩ := isIn_int (by simpa using q3 : isIn d3 = true)
                    exact et_test (ev_eqI (EvD.int_ i3) ev_c)
                  · have e6 : (isIn d3 && (isIn d4 && (!isZ d3 && isTr 4 d5))) = false := by
                      revert hb5
                      cases isIn d3 <;> cases isIn d4 <;> cases isZ d3 <;> simp
                    rw [e6] at k
                    exact k _ (((x1.trans x2).trans x3).trans x4)
                  · have e6 : (isIn d3 && (isIn d4 && (!isZ d3 && isTr 4 d5))) = isTr 4 d5 := by
                      revert hb5
                      cases isIn d3 <;> cases isIn d4 <;> cases isZ d3 <;> simp
                    rw [e6] at k
                    exact Ev.ret (s3.trans x4) (ev_callL (m := 4) i5 ev_c (hsh d5 (by simp)) (by decide) (by decide)) (fun H5 x5 => k H5 ((((x1.trans x2).trans x3).trans x4).trans x5))
            · have q1 : isS "store" dw = false := by simpa using q1
              rw [st_no ha q1] at k
              refine q_ifD (s1.trans x2) (et_orT (et_is (et_test (ev_neS i0 ev_c)) (by rw [q1]; rfl))) (fun _ H3 x3 => k _ ((x1.trans x2).trans x3)) (fun z => by cases z)
    · have e1 : isSt d = false := by cases d <;> (first | rfl | exact absurd rfl c)
      rw [e1] at k
      refine q_ifD s (et_orT (et_is (et_not (et_B (ev_isTup (evd_var rfl hd)))) ?_)) (fun _ H1 x1 => k H1 x1) (fun z => by cases z)
      rw [beq_eq_false_iff_ne.mpr c]
      rfl
  · cases he
def fWrk (n : Nat) (d : PyData) : Option PyData := if isTr n d = true then some (.int (wrk n d)) else none
theorem ok_law_count0 (D : Df K mg "_law_count" s_law_count) : DefOk P w K mg base CX0 1 "_law_count" ["_law_tree_here"] (spO (fLvl 0)) := by
  refine D.ok sc_law_count (fun _ _ _ _ _ _ us hl => match us, hl with | [_], _ => rfl) (fun vs H Q E h => spO_len h) (fun f cdv A outer s H vs Q E hr h => ?_)
  obtain ⟨G, v, d, e, rfl, s, hd, he, k⟩ := spO_of h
  unfold fLvl at he
  rw [if_neg (by rw [isTr]; decide)] at he
  cases he
theorem ok_law_countS (T : Txt P K mg CA) (D : Df K mg "_law_count" s_law_count) {n l : Nat} (hl3 : 1 ≤ l) (D_law_count : DefOk P w K mg base CX0 l "_law_count" ["_law_tree_here"] (spO (fLvl n))) : DefOk P w K mg base CX0 (l + 1) "_law_count" ["_law_tree_here"] (spO (fLvl (n + 1))) := by
  refine D.ok sc_law_count (fun _ _ _ _ _ _ us hl => match us, hl with | [_], _ => rfl) (fun vs H Q E h => spO_len h) (fun f cdv A outer s H vs Q E hr h => ?_)
  obtain ⟨G, v, d, e, rfl, s, hd, he, k⟩ := spO_of h
  unfold fLvl at he
  split at he
  · rename_i ht
    cases he
    obtain ⟨w, nm, ts, rfl⟩ := isTr_tup ht
    obtain ⟨h3, hall⟩ := isTr_sub ht
    refine ⟨_, (pss_one (ps_ret (pe_ifExp (pt_cmpR (op_eqS hr.units0) (pe_ix ix_tup (pv 0) pe_int (fun _ _ => rfl)) pe_str (nomark _)) (pe_op op_add pe_int (pe_callB (cr_max rfl) (by rfl) T.n_max (by decide +kernel) (pa_cons (pe_op op_cat (pe_lst (pa_cons pe_int pa_nil)) (pe_lc (own := [("_law_one", 1)]) (by rfl) sc_law_count.nd (pi_tup (pe_slice sl_tupA (pv 0) (po_some pe_int) po_none)) (blkOk_by (own := [("_law_one", 1)]) (N := ["_law_tree_here", "_law_one"]) (sc := defScope s_law_count) (by decide +kernel)) (fun _ _ _ _ _ => (pg_name (i := 1) sc_law_count.nd rfl (Or.inl rfl))) (fun _ _ _ _ _ => pts_nil) (fun _ _ _ _ _ => (pe_callD D_law_count (hr.mono (by omega)) pass0 (pa_cons (pv 1) pa_nil))))) pa_nil))) pe_int))), ?_⟩
    have e0 : subs (w :: nm :: ts) = if isS "op" w = true then ts else [] := rfl
    refine s_retD s (evd_if (b := isS "op" w) (et_test (ev_eqS (evd_ixT (evd_var rfl hd) ev_c (atI_nat (j := 0) rfl)) ev_c)) (fun c => ?_) (fun c => EvD.is (evd_int ev_c) ?_)) k
    · rw [e0, if_pos c] at h3 hall
      refine EvD.is (evd_int (ev_op ev_c (ev_maxD (is := ts.map fun t => lvl n t) (EvD.is (evd_catL (evd_lst (evd_cons (evd_int ev_c) evd_nil) (by decide)) (evd_lcT (ds := ts) (fun _ => true) (fun t => .int (lvl n t)) (EvD.is (evd_sl (evd_var rfl hd) (EvO.some_ ev_c) EvO.none_) ?_) (by omega) (fun _ => rfl) (fun d _ v G1 _ _ => et_yes (b := true)) (fun d hd' _ v G1 _ hv => evd_callO (evd_var rfl hv) ?_)) ?_) ?_)) rv_I0)) ?_
      · rw [show (2 : Int) = ((2 : Nat) : Int) from rfl, cutD_from]
        rfl
      · unfold fLvl
        rw [if_pos (hall d hd')]
      · rw [filter_yes, List.length_map]
        simp
        omega
      · rw [filter_yes, List.map_cons, List.map_map]
        rfl
      · rw [lvl, e0, if_pos c]
    · rw [lvl, e0, c]
      rfl
  · cases he
theorem ok_law_work0 (D : Df K mg "_law_working" s_law_working) : DefOk P w K mg base CX0 1 "_law_working" ["_law_tree_here"] (spO (fWrk 0)) := by
  refine D.ok sc_law_working (fun _ _ _ _ _ _ us hl => match us, hl with | [_], _ => rfl) (fun vs H Q E h => spO_len h) (fun f cdv A outer s H vs Q E hr h => ?_)
  obtain ⟨G, v, d, e, rfl, s, hd, he, k⟩ := spO_of h
  unfold fWrk at he
  rw [if_neg (by rw [isTr]; decide)] at he
  cases he
theorem ok_law_workS (T : Txt P K mg CA) (D : Df K mg "_law_working" s_law_working) {n l : Nat} (hl3 : 1 ≤ l) (D_law_working : DefOk P w K mg base CX0 l "_law_working" ["_law_tree_here"] (spO (fWrk n))) : DefOk P w K mg base CX0 (l + 1) "_law_working" ["_law_tree_here"] (spO (fWrk (n + 1))) := by
  refine D.ok sc_law_working (fun _ _ _ _ _ _ us hl => match us, hl with | [_], _ => rfl) (fun vs H Q E h => spO_len h) (fun f cdv A outer s H vs Q E hr h => ?_)
  obtain ⟨G, v, d, e, rfl, s, hd, he, k⟩ := spO_of h
  unfold fWrk at he
  split at he
  · rename_i ht
    cases he
    obtain ⟨w, nm, ts, rfl⟩ := isTr_tup ht
    obtain ⟨h3, hall⟩ := isTr_sub ht
    refine ⟨_, (pss_cons (ps_if (pt_cmpR (op_eqS hr.units0) (pe_ix ix_tup (pv 0) pe_int (fun _ _ => rfl)) pe_str (nomark _))
 (pss_one (ps_ret pe_int))
 pss_nil)
 (pss_one (ps_ret (pe_ifExp (pt_cmpR (op_eqS hr.units0) (pe_ix ix_tup (pv 0) pe_int (fun _ _ => rfl)) pe_str (nomark _)) (pe_op op_add pe_int (pe_callB (cr_sum rfl) (by rfl) T.n_sum (by decide +kernel) (pa_cons (pe_lc (own := [("_law_one", 1)]) (by rfl) sc_law_working.nd (pi_tup (pe_slice sl_tupA (pv 0) (po_some pe_int) po_none)) (blkOk_by (own := [("_law_one", 1)]) (N := ["_law_tree_here", "_law_one"]) (sc := defScope s_law_working) (by decide +kernel)) (fun _ _ _ _ _ => (pg_name (i := 1) sc_law_working.nd rfl (Or.inl rfl))) (fun _ _ _ _ _ => pts_nil) (fun _ _ _ _ _ => (pe_callD D_law_working (hr.mono (by omega)) pass0 (pa_cons (pv 1) pa_nil)))) pa_nil))) pe_int)))), ?_⟩
    have e0 : subs (w :: nm :: ts) = if isS "op" w = true then ts else [] := rfl
    have ew : (w :: nm :: ts).getD 0 .none = w := rfl
    refine q_ifD s (et_test (ev_eqS (evd_ixT (evd_var rfl hd) ev_c (atI_nat (j := 0) rfl)) ev_c)) (fun ha H1 x1 => ?_) (fun ha H1 x1 => ?_)
    · rw [wrk, ew, if_pos ha] at k
      exact k _ G _ (Gr.keep s x1) (.int _)
    · rw [wrk, ew, ha, if_neg Bool.false_ne_true] at k
      refine s_retD (s.trans x1) (evd_if (b := isS "op" w) (et_test (ev_eqS (evd_ixT (evd_var rfl hd) ev_c (atI_nat (j := 0) rfl)) ev_c)) (fun c => ?_) (fun c => EvD.is (evd_int ev_c) ?_)) (fun v' G' H' r => k v' G' H' ((Gr.keep s x1).trans r))
      · rw [e0, if_pos c] at h3 hall
        refine EvD.is (evd_int (ev_op ev_c (ev_sumD (is := ts.map fun t => wrk n t) (EvD.is (evd_lcT (ds := ts) (fun _ => true) (fun t => .int (wrk n t)) (EvD.is (evd_sl (evd_var rfl hd) (EvO.some_ ev_c) EvO.none_) ?_) (by omega) (fun _ => rfl) (fun d _ v G1 _ _ => et_yes (b := true)) (fun d hd' _ v G1 _ hv => evd_callO (evd_var rfl hv) ?_)) ?_)) rv_I0)) ?_
        · rw [show (2 : Int) = ((2 : Nat) : Int) from rfl, cutD_from]
          rfl
        · unfold fWrk
          rw [if_pos (hall d hd')]
        · rw [filter_yes, List.map_map]
          rfl
        · rw [e0, if_pos c]
      · rw [e0, c]
        rfl
  · cases he
end
end My
set_option maxHeartbeats 4000000
namespace My
open PySem L2 Lf Evl Tr
abbrev s_law_loom : Stmt := top 30
theorem sc_law_loom : FnScope ["_law_script", "_law_spot", "_law_cell", "_law_great", "_law_blend"] ["_law_script", "_law_spot"] (defScope s_law_loom) := ⟨rfl, rfl, rfl, by decide +kernel, rfl, by decide +kernel, by decide +kernel⟩
abbrev s_law_turn : Stmt := top 31
theorem sc_law_turn : FnScope ["_law_loom_here", "_law_total", "_law_found", "_law_one", "_law_two"] ["_law_loom_here", "_law_total"] (defScope s_law_turn) := ⟨rfl, rfl, rfl, by decide +kernel, rfl, by decide +kernel, by decide +kernel⟩
abbrev s_law_pick : Stmt := top 32
theorem sc_law_pick : FnScope ["_law_loom_here", "_law_items"] ["_law_loom_here", "_law_items"] (defScope s_law_pick) := ⟨rfl, rfl, rfl, by decide +kernel, rfl, by decide +kernel, by decide +kernel⟩
abbrev s_law_place : Stmt := top 33
theorem sc_law_place : FnScope ["_law_loom_here"] ["_law_loom_here"] (defScope s_law_place) := ⟨rfl, rfl, rfl, by decide +kernel, rfl, by decide +kernel, by decide +kernel⟩
abbrev s_law_leaf : Stmt := top 34
theorem sc_law_leaf : FnScope ["_law_loom_here", "_law_known", "_law_sets", "_law_arrays", "_law_name", "_law_distance", "_law_step", "_law_offset"] ["_law_loom_here", "_law_known", "_law_sets", "_law_arrays"] (defScope s_law_leaf) := ⟨rfl, rfl, rfl, by decide +kernel, rfl, by decide +kernel, by decide +kernel⟩
abbrev s_law_tree : Stmt := top 35
theorem sc_law_tree : FnScope ["_law_loom_here", "_law_deep", "_law_known", "_law_sets", "_law_arrays", "_law_operator", "_law_many", "_law_turn_here"] ["_law_loom_here", "_law_deep", "_law_known", "_law_sets", "_law_arrays"] (defScope s_law_tree) := ⟨rfl, rfl, rfl, by decide +kernel, rfl, by decide +kernel, by decide +kernel⟩
abbrev s_law_bent : Stmt := top 41
theorem sc_law_bent : FnScope ["_law_loom_here", "_law_value", "_law_spot", "_law_odd", "_law_way"] ["_law_loom_here", "_law_value"] (defScope s_law_bent) := ⟨rfl, rfl, rfl, by decide +kernel, rfl, by decide +kernel, by decide +kernel⟩
/-- the three ints of a loom -/
def Lm (xs : List V) : Prop := ∃ a b c : Int, xs = [.int a, .int b, .int c] ∧ 0 ≤ b ∧ b < 2305843009213693951
def spLoom (K : PySem.W.Frag) : Sp := fun vs H Q _ => ∃ (a : Addr) (ns : List Int) (i : Nat), vs = [.ref a, .int (i : Int)] ∧ SqL K H a (ns.map V.int) ∧ ∀ p xs, H p = none → Lm xs → Q (.ref p) (upd H p (.lst xs))
def preT (ds : List PyData) : Prop := ∃ m : Int, ds = [.int m] ∧ 0 < m ∧ m < 1073741824
def postT (ds : List PyData) (d : PyData) : Prop := ∃ m r : Int, ds = [.int m] ∧ d = .int r ∧ 0 ≤ r ∧ r < m
def preP (ds : List PyData) : Prop := ∃ xs : List PyData, ds = [.list xs] ∧ 0 < xs.length ∧ xs.length ≤ 1000
def postP (ds : List PyData) (d : PyData) : Prop := ∃ xs : List PyData, ds = [.list xs] ∧ d ∈ xs
def smI (d : PyData) : Prop := ∃ i : Int, d = .int i ∧ i.natAbs < 2 ^ 200
theorem smI_show {d : PyData} (h : smI d) : d.showable = true := by
  obtain ⟨i, rfl, h⟩ := h
  rw [PyData.showable]
  refine decide_eq_true ?_
  by_cases c : i.natAbs = 0
  · rw [c]; decide
  · exact Nat.lt_of_lt_of_le ((Nat.log2_lt c).mpr h) (by decide)
section
variable {K : PySem.W.Frag} {L : Addr} {σ : L2.St} {G : Hp} {ta tb te : TE} {tA : TA} {d : PyData} {ds : List PyData} {R : List PyData → Prop}
theorem dr_turn {i : Nat} {E : XK} {m : Int} (hL : σ[i]? = some (some (.ref L))) (h : Ev te σ G (.int m)) (h0 : 0 < m) (h1 : m < 1073741824) : Dr Lm L (tCallD (spDr Lm preT postT) E (tCons (tVar i) (tCons te tNil))) σ G (isI fun r => 0 ≤ r ∧ r < m) :=
  (dr_call hL (drs_of (evd_cons (evd_int h) evd_nil)) (fun ds e => ⟨m, e, h0, h1⟩)).imp fun d ⟨ds, e, m', r, e2, e3, e4, e5⟩ => by
    rw [e] at e2
    cases e2
    exact ⟨r, e3, e4, e5⟩
theorem dr_pick {i : Nat} {E : XK} (hL : σ[i]? = some (some (.ref L))) (h : EvD te σ G (.list ds)) (h0 : 0 < ds.length) (h1 : ds.length ≤ 1000) : Dr Lm L (tCallD (spDr Lm preP postP) E (tCons (tVar i) (tCons te tNil))) σ G (fun d => d ∈ ds) :=
  (dr_call hL (drs_of (evd_cons h evd_nil)) (fun ds' e => ⟨ds, e, h0, h1⟩)).imp fun d ⟨ds', e, xs, e2, e3⟩ => by
    rw [e] at e2
    cases e2
    exact e3
theorem dr_tupleOf (h : Dr Lm L te σ G (fun d => ∃ ds, d = .list ds ∧ R ds)) : Dr Lm L (tCB (fun xs H Q => ∃ p ys, xs = [V.ref p] ∧ ((SqL K H p ys ∧ ∀ l, H l = none → Q (.ref l) (upd H l (.tup ys))) ∨ (SqT K H p ys ∧ Q (.ref p) H))) (tCons te tNil)) σ G (fun d => ∃ ds, d = .tuple ds ∧ R ds) := fun G1 H1 x w Q q => h G1 H1 x w _ fun v d G2 H2 r ⟨ds, e, hR⟩ hd => by
  subst e
  obtain ⟨a, xs, rfl, e, hs⟩ := hd.lst_
  refine ⟨a, xs, rfl, .inl ⟨SqL.of (r.s _ _ e), fun l hl => ?_⟩⟩
  have n := Gr.new (o := .tup xs) r.s hl rfl
  exact q (.ref l) _ _ _ (r.gr n) ⟨ds, rfl, hR⟩ (.tup upd_same (hs.up n.g))
theorem evd_listOf (h : EvD te σ G (.tuple ds)) : EvD (tCB (fun xs H Q => ∃ p ys, xs = [V.ref p] ∧ (SqL K H p ys ∨ SqT K H p ys) ∧ ∀ l, H l = none → Q (.ref l) (upd H l (.lst ys))) (tCons te tNil)) σ G (.list ds) := fun G1 H1 x s Q q => h G1 H1 x s _ fun v G2 H2 r hd => by
  obtain ⟨a, xs, rfl, e, hs⟩ := hd.tup_
  refine ⟨a, xs, rfl, .inr (SqT.of (r.s _ _ e)), fun l hl => ?_⟩
  have n := Gr.new (o := .lst xs) r.s hl rfl
  exact q (.ref l) _ _ (r.trans n) (.lst upd_same (hs.up n.g))
theorem evd_listOfL (h : EvD te σ G (.list ds)) : EvD (tCB (fun xs H Q => ∃ p ys, xs = [V.ref p] ∧ (SqL K H p ys ∨ SqT K H p ys) ∧ ∀ l, H l = none → Q (.ref l) (upd H l (.lst ys))) (tCons te tNil)) σ G (.list ds) := fun G1 H1 x s Q q => h G1 H1 x s _ fun v G2 H2 r hd => by
  obtain ⟨a, xs, rfl, e, hs⟩ := hd.lst_
  refine ⟨a, xs, rfl, .inl (SqL.of (r.s _ _ e)), fun l hl => ?_⟩
  have n := Gr.new (o := .lst xs) r.s hl rfl
  exact q (.ref l) _ _ (r.trans n) (.lst upd_same (hs.up n.g))
theorem evd_dnew : EvD tDNewK σ G (.dict []) := fun G1 H1 x s Q q => fun p hp => have n := Gr.new (o := .dK []) s hp rfl; q (.ref p) _ _ n (.dic upd_same)
theorem evd_pow {i j : Int} (h : CPow i j) : EvD (tOp (rI CPow fun i j => .int (i ^ j.toNat)) (tC (.int i)) (tC (.int j))) σ G (.int (i ^ j.toNat)) := evd_int (ev_op ev_c ev_c (rv_I h))
theorem ev_neET (ha : EvD ta σ G (.tuple ds)) : Ev (tOp (rNeE K) ta (tTup tNil)) σ G (.bl (!ds.isEmpty)) := fun H1 x Q q => ha G H1 (Ex.refl _) x _ fun v G2 H2 r hd => ⟨by decide, fun p hp => by
  obtain ⟨a, xs, rfl, e, hs⟩ := hd.tup_
  have x3 : Ex H2 (upd H2 p (.tup [])) := Ex.new hp
  refine ⟨a, p, xs, rfl, rfl, SqT.of (x3 _ _ (r.s _ _ e)), SqT.of upd_same, ?_⟩
  have : xs.isEmpty = ds.isEmpty := by cases hs <;> rfl
  rw [this]
  exact q _ (r.h.trans x3)⟩
end
theorem cpow (i j : Nat) (h : (j : Int) ≤ 1000000) (hi : i < 2 ^ 64) : CPow (i : Int) (j : Int) := ⟨by omega, h, by rw [Int.natAbs_natCast]; exact hi⟩
/-! ### what is drawn -/
def Spn : Nat → PyData → Prop
  | 0, _ => False
  | n + 1, .tuple xs => xs ≠ [] ∧ xs.length ≤ 50 ∧ ∀ ys, xs.getLast? = some (.tuple ys) → ys ≠ [] → Spn n (.tuple ys)
  | _ + 1, _ => False
theorem spn_mono {n : Nat} : ∀ {d : PyData}, Spn n d → Spn (n + 1) d := by
  induction n with
  | zero => intro d h; exact h.elim
  | succ n ih =>
    intro d h
    cases d with
    | tuple xs => exact ⟨h.1, h.2.1, fun ys e e2 => ih (h.2.2 ys e e2)⟩
    | _ => exact h.elim
def Tre (n : Nat) (d : PyData) : Prop := d.showable = true ∧ Spn n d
theorem tre_le {n m : Nat} {d : PyData} (h : Tre n d) (hl : n ≤ m) : Tre m d := by
  induction hl with
  | refl => exact h
  | step _ ih => exact ⟨ih.1, spn_mono ih.2⟩
def dKnown : PyData := .list [.str "a"]
def dSets : PyData := .list [.str "a", .str "sum"]
def dArrays : PyData := .list [.str "x", .str "zzzzzzzz", .str "in"]
def preE (ds : List PyData) : Prop := ds = []
def postE (ds : List PyData) (d : PyData) : Prop := ∃ a b : Int, d = .tuple [.int a, .int b] ∧ a.natAbs < 2 ^ 200 ∧ b.natAbs < 2 ^ 200
def preF (ds : List PyData) : Prop := ds = [dKnown, dSets, dArrays]
def postF (ds : List PyData) (d : PyData) : Prop := Tre 1 d
def preG (n : Nat) (ds : List PyData) : Prop := ∃ m : Int, ds = [.int m, dKnown, dSets, dArrays] ∧ 1 ≤ m ∧ m ≤ n
def postG (n : Nat) (ds : List PyData) (d : PyData) : Prop := Tre n d
def preB (n : Nat) (ds : List PyData) : Prop := ∃ d, ds = [d] ∧ Tre n d
def postB (ds : List PyData) (d : PyData) : Prop := d.showable = true
section
variable {P : Program} {w : World} {K : PySem.W.Frag} {mg : Str → Option Value} {base : Heap} {CA : Addr}
theorem ok_law_turn (T : Txt P K mg CA) (D : Df K mg "_law_turn" s_law_turn) : DefOk P w K mg base CX0 1 "_law_turn" ["_law_loom_here", "_law_total"] (spDr Lm preT postT) := by
  refine D.ok sc_law_turn (fun _ _ _ _ _ _ us hl => match us, hl with | [_, _], _ => rfl) (fun vs H Q E h => spDr_len (n := 1) (fun ds ⟨m, e, _⟩ => by rw [e]; rfl) h) (fun f cdv A outer s H vs Q E hr h => ?_)
  obtain ⟨d, G, us, ds, rfl, w, hds, ⟨m, rfl, m0, m1⟩, q⟩ := h
  cases hds with
  | cons h0 t =>
  cases t
  cases h0.int_
  obtain ⟨_, hd, a, b, c, rfl, hb1, hb2⟩ := w.l
  refine ⟨_, (pss_cons (ps_if (pt_cmpR op_gt (pe_ix ix_list (pv 0) pe_int (fun _ _ => rfl)) pe_int (nomark _))
 (pss_cons (ps_set (i := 2) sc_law_turn.nd rfl (Or.inl rfl) (pe_op op_mod (pe_callTy call_int1 (by rfl) T.n_int (by decide +kernel) (pa_cons (pe_ix ix_list (pv 0) pe_int (fun _ _ => rfl)) pa_nil)) (pv 1)))
 (pss_cons (ps_asg (pe_op op_fdiv (pe_ix ix_list (pv 0) pe_int (fun _ _ => rfl)) (pv 1)) (pg_sub (pv 0) pe_int set_list))
 (pss_one (ps_ret (pv 2)))))
 pss_nil)
 (pss_cons (ps_asg (pe_op op_add (pe_ix ix_list (pv 0) pe_int (fun _ _ => rfl)) pe_int) (pg_sub (pv 0) pe_int set_list))
 (pss_cons (ps_set (i := 3) sc_law_turn.nd rfl (Or.inl rfl) (pe_op op_mod (pe_callTy call_int1 (by rfl) T.n_int (by decide +kernel) (pa_cons (pe_op op_add (pe_op op_mul (pe_ix ix_list (pv 0) pe_int (fun _ _ => rfl)) pe_int) (pe_op op_mul (pe_ix ix_list (pv 0) pe_int (fun _ _ => rfl)) pe_int)) pa_nil)) pe_int))
 (pss_cons (ps_set (i := 4) sc_law_turn.nd rfl (Or.inl rfl) (pe_op op_add (pe_op op_mul (pe_op op_mod (pe_callTy call_int1 (by rfl) T.n_int (by decide +kernel) (pa_cons (pe_op op_mul (pv 3) (pv 3)) pa_nil)) pe_int) (pv 3)) (pe_op op_mul pe_int (pe_ix ix_list (pv 0) pe_int (fun _ _ => rfl)))))
 (pss_one (ps_ret (pe_op op_mod (pe_callTy call_int1 (by rfl) T.n_int (by decide +kernel) (pa_cons (pe_op op_fdiv (pe_op op_mod (pe_callTy call_int1 (by rfl) T.n_int (by decide +kernel) (pa_cons (pe_op op_add (pv 4) (pe_ix ix_list (pv 0) pe_int (fun _ _ => rfl))) pa_nil)) pe_int) pe_int) pa_nil)) (pv 1)))))))), ?_⟩
  refine ⟨_, rfl, _, _, _, _, rfl, rfl, SqL.of hd, rfl, _, _, rfl, rfl, _, rfl, ?_⟩
  have fin : ∀ {xs : List V} {r : Int}, Lm xs → 0 ≤ r → r < m → Q (.int r) (upd H d (.lst xs)) := fun hx r0 r1 => q _ _ G _ (GrB.turn w hx) ⟨m, _, rfl, rfl, r0, r1⟩ (.int _)
  cases ha : decide (0 < a) with
  | true =>
    refine if_so rfl ?_
    refine ⟨_, rfl, _, _, _, _, rfl, rfl, SqL.of hd, rfl, .inl ⟨_, rfl, _, rfl, _, _, rfl, rfl, m0, ?_⟩⟩
    refine ⟨_, rfl, _, _, _, _, rfl, rfl, SqL.of hd, rfl, _, rfl, _, _, rfl, rfl, ⟨m0, m1⟩, _, rfl, _, _, _, _, rfl, rfl, hd, rfl, ?_⟩
    exact ⟨_, rfl, fin ⟨_, _, _, rfl, hb1, hb2⟩ (Int.emod_nonneg _ (by omega)) (Int.emod_lt_of_pos _ m0)⟩
  | false =>
    refine if_no rfl ?_
    refine ⟨_, rfl, _, _, _, _, rfl, rfl, SqL.of hd, rfl, _, _, rfl, rfl, _, rfl, _, _, _, _, rfl, rfl, hd, rfl, ?_⟩
    have hd2 : upd H d (.lst ([V.int a, V.int b, V.int c].set 2 (V.int (c + 1)))) d = some (.lst [.int a, .int b, .int (c + 1)]) := upd_same
    refine ⟨_, rfl, _, _, _, _, rfl, rfl, SqL.of hd2, rfl, _, _, rfl, rfl, .inr ⟨by decide, by decide⟩, _, rfl, _, _, _, _, rfl, rfl, SqL.of hd2, rfl, _, _, rfl, rfl, .inr ⟨by decide, by decide⟩, _, _, rfl, rfl, .inl ⟨_, rfl, _, _, rfl, rfl, show (0 : Int) < 2305843009213693951 by decide, ?_⟩⟩
    have e1 := Int.emod_nonneg (b * 22695477 + (c + 1) * 1597334677) (show (2305843009213693951 : Int) ≠ 0 by decide)
    have e2 := Int.emod_lt_of_pos (b * 22695477 + (c + 1) * 1597334677) (show (0 : Int) < 2305843009213693951 by decide)
    refine ⟨_, rfl, _, rfl, _, _, rfl, rfl, .inl ⟨by omega, by omega⟩, .inl ⟨_, rfl, _, _, rfl, rfl, show (0 : Int) < 1152921504606846577 by decide, ?_⟩⟩
    have e3 := Int.emod_nonneg ((b * 22695477 + (c + 1) * 1597334677) % 2305843009213693951 * ((b * 22695477 + (c + 1) * 1597334677) % 2305843009213693951)) (show (1152921504606846577 : Int) ≠ 0 by decide)
    have e4 := Int.emod_lt_of_pos ((b * 22695477 + (c + 1) * 1597334677) % 2305843009213693951 * ((b * 22695477 + (c + 1) * 1597334677) % 2305843009213693951)) (show (0 : Int) < 1152921504606846577 by decide)
    refine ⟨_, rfl, _, _, rfl, rfl, .inr ⟨by omega, by omega⟩, _, rfl, _, _, _, _, rfl, rfl, SqL.of hd2, rfl, _, _, rfl, rfl, .inl ⟨by decide, by decide⟩, _, _, rfl, rfl, ?_⟩
    refine ⟨_, rfl, _, rfl, _, _, _, _, rfl, rfl, SqL.of hd2, rfl, _, _, rfl, rfl, .inl ⟨_, rfl, _, _, rfl, rfl, show (0 : Int) < 4398046511119 by decide, _, _, rfl, rfl, ⟨by decide, by decide⟩, .inl ⟨_, rfl, _, rfl, _, _, rfl, rfl, m0, ?_⟩⟩⟩
    exact fin ⟨_, _, _, rfl, hb1, hb2⟩ (Int.emod_nonneg _ (by omega)) (Int.emod_lt_of_pos _ m0)
theorem ok_law_pick (T : Txt P K mg CA) (D : Df K mg "_law_pick" s_law_pick) (D_law_turn : DefOk P w K mg base CX0 1 "_law_turn" ["_law_loom_here", "_law_total"] (spDr Lm preT postT)) : DefOk P w K mg base CX0 2 "_law_pick" ["_law_loom_here", "_law_items"] (spDr Lm preP postP) := by
  refine D.ok sc_law_pick (fun _ _ _ _ _ _ us hl => match us, hl with | [_, _], _ => rfl) (fun vs H Q E h => spDr_len (n := 1) (fun ds ⟨m, e, _⟩ => by rw [e]; rfl) h) (fun f cdv A outer s H vs Q E hr h => ?_)
  obtain ⟨L, G, us, ds, rfl, w, hds, ⟨xs, rfl, h0, h1⟩, q⟩ := h
  cases hds with
  | cons hv t =>
  cases t
  refine ⟨_, (pss_one (ps_ret (pe_ix ix_list (pv 1) (pe_callD D_law_turn (hr.mono (by decide)) pass0 (pa_cons (pv 0) (pa_cons (pe_callB call_len_seq (by rfl) T.n_len (by decide +kernel) (pa_cons (pv 1) pa_nil)) pa_nil))) (fun _ _ => rfl)))), ?_⟩
  exact s_retR w (dr_ixL (dr_of (evd_var rfl hv)) (dr_turn rfl (ev_lenL (evd_var rfl hv)) (by omega) (by omega)) (fun i h => h)) (fun v d G1 H1 r p hd => q v d G1 H1 r ⟨xs, rfl, p⟩ hd)
theorem ok_law_place (T : Txt P K mg CA) (D : Df K mg "_law_place" s_law_place) (D_law_turn : DefOk P w K mg base CX0 1 "_law_turn" ["_law_loom_here", "_law_total"] (spDr Lm preT postT)) (D_law_pick : DefOk P w K mg base CX0 2 "_law_pick" ["_law_loom_here", "_law_items"] (spDr Lm preP postP)) :
    DefOk P w K mg base CX0 3 "_law_place" ["_law_loom_here"] (spDr Lm preE postE) := by
  refine D.ok sc_law_place (fun _ _ _ _ _ _ us hl => match us, hl with | [_], _ => rfl) (fun vs H Q E h => spDr_len (n := 0) (fun ds e => by rw [e]; rfl) h) (fun f cdv A outer s H vs Q E hr h => ?_)
  obtain ⟨L, G, us, ds, rfl, w, hds, rfl, q⟩ := h
  cases hds
  refine ⟨_, (pss_cons (ps_if (pt_cmpR op_eq (pe_callD D_law_turn (hr.mono (by decide)) pass0 (pa_cons (pv 0) (pa_cons pe_int pa_nil))) pe_int (nomark _))
 (pss_one (ps_ret (pe_tup (pa_cons (pe_callD D_law_pick (hr.mono (by decide)) pass0 (pa_cons (pv 0) (pa_cons (pe_lst (pa_cons pe_int (pa_cons (pe_un un_neg pe_int) (pa_cons pe_int (pa_cons (pe_op op_pow pe_int pe_int) pa_nil))))) pa_nil))) (pa_cons (pe_callD D_law_pick (hr.mono (by decide)) pass0 (pa_cons (pv 0) (pa_cons (pe_lst (pa_cons (pe_op op_pow pe_int pe_int) (pa_cons (pe_un un_neg (pe_op op_pow pe_int pe_int)) (pa_cons (pe_op op_add (pe_op op_pow pe_int pe_int) pe_int) pa_nil)))) pa_nil))) pa_nil)))))
 pss_nil)
 (pss_one (ps_ret (pe_tup (pa_cons (pe_callD D_law_pick (hr.mono (by decide)) pass0 (pa_cons (pv 0) (pa_cons (pe_lst (pa_cons pe_int (pa_cons pe_int (pa_cons pe_int (pa_cons pe_int (pa_cons pe_int (pa_cons (pe_un un_neg pe_int) (pa_cons pe_int pa_nil)))))))) pa_nil))) (pa_cons (pe_op op_sub (pe_callD D_law_turn (hr.mono (by decide)) pass0 (pa_cons (pv 0) (pa_cons pe_int pa_nil))) pe_int) pa_nil)))))), ?_⟩
  refine q_ifR w (drt_test (dr_eqI (dr_turn rfl ev_c (by decide) (by decide)) (dr_int ev_c))) (fun _ G1 H1 r => ?_) (fun _ G1 H1 r => ?_)
  · refine s_retR r.w (dr_tup (drs_cons ((dr_pick rfl (evd_lst (evd_cons (evd_int ev_c) (evd_cons (evd_int (ev_un ev_c ru_neg)) (evd_cons (evd_int ev_c) (evd_cons (evd_pow (cpow 10 17 (by decide) (by decide))) evd_nil)))) (by simp)) (by simp) (by simp)).imp (P' := smI) (fun d hd => ?_)) (drs_cons ((dr_pick rfl (evd_lst (evd_cons (evd_pow (cpow 10 17 (by decide) (by decide))) (evd_cons (evd_int (ev_un (EvD.int_ (evd_pow (cpow 10 17 (by decide) (by decide)))) ru_neg)) (evd_cons (evd_int (ev_op (EvD.int_ (evd_pow (cpow 10 17 (by decide) (by decide)))) ev_c rv_I0)) evd_nil))) (by simp)) (by simp) (by simp)).imp (P' := smI) (fun d hd => ?_)) drs_nil)) ?_) (fun v d G2 H2 r2 p hd => q v d G2 H2 (r.trans r2) ?_ hd)
    · simp only [List.mem_cons, List.not_mem_nil, or_false] at hd
      rcases hd with rfl | rfl | rfl | rfl <;> exact ⟨_, rfl, by decide +kernel⟩
    · simp only [List.mem_cons, List.not_mem_nil, or_false] at hd
      rcases hd with rfl | rfl | rfl <;> exact ⟨_, rfl, by decide +kernel⟩
    · rintro ds ⟨d, r, rfl, _, d2, r2, rfl, _, rfl⟩
      simp
    · obtain ⟨ds, rfl, d, r, rfl, ⟨i, rfl, hi⟩, d2, r2, rfl, ⟨j, rfl, hj⟩, rfl⟩ := p
      exact ⟨i, j, rfl, hi, hj⟩
  · refine s_retR r.w (dr_tup (drs_cons ((dr_pick rfl (evd_lst (evd_cons (evd_int ev_c) (evd_cons (evd_int ev_c) (evd_cons (evd_int ev_c) (evd_cons (evd_int ev_c) (evd_cons (evd_int ev_c) (evd_cons (evd_int (ev_un ev_c ru_neg)) (evd_cons (evd_int ev_c) evd_nil))))))) (by simp)) (by simp) (by simp)).imp (P' := smI) (fun d hd => ?_)) (drs_cons ((dr_opI (dr_turn rfl ev_c (by decide) (by decide)) (dr_int ev_c)).imp (P' := smI) (fun d hd => ?_)) drs_nil)) ?_) (fun v d G2 H2 r2 p hd => q v d G2 H2 (r.trans r2) ?_ hd)
    · simp only [List.mem_cons, List.not_mem_nil, or_false] at hd
      rcases hd with rfl | rfl | rfl | rfl | rfl | rfl | rfl <;> exact ⟨_, rfl, by decide +kernel⟩
    · obtain ⟨k, rfl, i, j, ⟨h1, h2⟩, rfl, rfl⟩ := hd
      exact ⟨_, rfl, Nat.lt_of_lt_of_le (by omega : _ < 100) (by decide +kernel)⟩
    · rintro ds ⟨d, r, rfl, _, d2, r2, rfl, _, rfl⟩
      simp
    · obtain ⟨ds, rfl, d, r, rfl, ⟨i, rfl, hi⟩, d2, r2, rfl, ⟨j, rfl, hj⟩, rfl⟩ := p
      exact ⟨i, j, rfl, hi, hj⟩
end
end My
set_option maxHeartbeats 4000000
namespace My
open PySem L2 Lf Evl Tr
theorem sh_cut {ds : List PyData} {lo hi : Option Int} (h : ∀ d ∈ ds, d.showable = true) : ∀ d ∈ cutD ds lo hi, d.showable = true := fun d hd => h d (by
  unfold cutD at hd
  exact List.mem_of_mem_drop (List.mem_of_mem_take hd))
theorem cut_len {ds : List PyData} {lo hi : Option Int} : (cutD ds lo hi).length ≤ ds.length := by
  unfold cutD
  rw [List.length_take, List.length_drop]
  omega
theorem tup_sh {ds : List PyData} (h : ∀ d ∈ ds, d.showable = true) : (PyData.tuple ds).showable = true := by
  rw [PyData.showable]
  exact showable_all h
theorem list_sh {ds : List PyData} (h : ∀ d ∈ ds, d.showable = true) : (PyData.list ds).showable = true := by
  rw [PyData.showable]
  exact showable_all h
section
variable {P : Program} {w : World} {K : PySem.W.Frag} {mg : Str → Option Value} {base : Heap} {CA : Addr}
theorem ok_law_loom (T : Txt P K mg CA) (D : Df K mg "_law_loom" s_law_loom) : DefOk P w K mg base CX0 1 "_law_loom" ["_law_script", "_law_spot"] (spLoom K) := by
  refine D.ok sc_law_loom (fun _ _ _ _ _ _ us hl => match us, hl with | [_, _], _ => rfl) (fun vs H Q E h => ?_) (fun f cdv A outer s H vs Q E hr h => ?_)
  · obtain ⟨_, _, _, rfl, _⟩ := h
    rfl
  obtain ⟨a, ns, i, rfl, hs, q⟩ := h
  refine ⟨_, (pss_cons (ps_set (i := 2) sc_law_loom.nd rfl (Or.inl rfl) (pe_ifExp (pt_cmpR op_lt (pv 1) (pe_callB call_len_seq (by rfl) T.n_len (by decide +kernel) (pa_cons (pv 0) pa_nil)) (nomark _)) (pe_ix ix_list (pv 0) (pv 1) (fun _ _ => rfl)) (pe_op op_add (pe_op op_mul pe_int (pv 1)) pe_int)))
 (pss_cons (ps_set (i := 3) sc_law_loom.nd rfl (Or.inl rfl) (pe_op op_mod (pe_callTy call_int1 (by rfl) T.n_int (by decide +kernel) (pa_cons (pe_callB call_abs (by rfl) T.n_abs (by decide +kernel) (pa_cons (pv 2) pa_nil)) pa_nil)) (pe_op op_powX (pe_op op_powX pe_int pe_int) pe_int)))
 (pss_cons (ps_set (i := 4) sc_law_loom.nd rfl (Or.inl rfl) (pe_op op_add (pe_op op_add (pe_op op_add (pe_op op_mul (pv 3) pe_int) (pe_op op_mul pe_int (pv 1))) (pe_op op_mul pe_int (pe_callTy call_int1 (by rfl) T.n_int (by decide +kernel) (pa_cons (pe_cmpR op_lt (pv 2) pe_int (nomark _)) pa_nil)))) pe_int))
 (pss_one (ps_ret (pe_lst (pa_cons (pe_callB (call_max2 rfl) (by rfl) T.n_max (by decide +kernel) (pa_cons pe_int (pa_cons (pe_op op_sub (pv 3) (pe_op op_powX pe_int pe_int)) pa_nil))) (pa_cons (pe_op op_mod (pe_callTy call_int1 (by rfl) T.n_int (by decide +kernel) (pa_cons (pv 4) pa_nil)) pe_int) (pa_cons pe_int pa_nil))))))))), ?_⟩
  have p1 : CPowX 10 60 := ⟨by decide, by decide +kernel⟩
  have p2 : CPowX ((10 : Int) ^ Int.toNat 60) 10 := ⟨by decide, by decide +kernel⟩
  have p3 : CPowX 10 18 := ⟨by decide, by decide +kernel⟩
  have p4 : 0 < ((10 : Int) ^ Int.toNat 60) ^ Int.toNat 10 := by decide +kernel
  generalize hM : ((10 : Int) ^ Int.toNat 60) ^ Int.toNat 10 = M at p4
  have cell : ∃ c : Int, ∀ Q' : VK, Q' (.int c) H → (tIf (tTest (tOp (rI0 fun i j => .bl (decide (i < j))) (tVar 1) (tCB (fun xs H Q => ∃ p ys, xs = [V.ref p] ∧ (SqL K H p ys ∨ SqT K H p ys) ∧ Q (.int ys.length) H) (tCons (tVar 0) tNil)))) (tOp (rIxL K) (tVar 0) (tVar 1)) (tOp (rI0 fun i j => .int (i + j)) (tOp (rI CMul fun i j => .int (i * j)) (tC (.int 71)) (tVar 1)) (tC (.int 29)))) (start ["_law_script", "_law_spot", "_law_cell", "_law_great", "_law_blend"] [.ref a, .int (i : Int)]) H Q' := by
    by_cases c : i < ns.length
    · refine ⟨ns[i], fun Q' q' => ?_⟩
      refine ⟨_, rfl, _, rfl, _, _, rfl, .inl hs, _, _, rfl, rfl, _, rfl, if_so (decide_eq_true (by rw [List.length_map]; omega)) ?_⟩
      refine ⟨_, rfl, _, rfl, _, _, _, _, rfl, rfl, hs, ?_, q'⟩
      exact atI_nat (by rw [List.getElem?_map, List.getElem?_eq_getElem c]; rfl)
    · refine ⟨71 * (i : Int) + 29, fun Q' q' => ?_⟩
      refine ⟨_, rfl, _, rfl, _, _, rfl, .inl hs, _, _, rfl, rfl, _, rfl, if_no (decide_eq_false (by rw [List.length_map]; omega)) ?_⟩
      exact ⟨_, rfl, _, _, rfl, rfl, .inl ⟨by decide, by decide⟩, _, _, rfl, rfl, q'⟩
  obtain ⟨c, hc⟩ := cell
  refine hc _ ?_
  refine ⟨_, rfl, _, rfl, .inl ⟨_, rfl, _, _, rfl, rfl, p1, _, _, rfl, rfl, p2, _, _, rfl, rfl, ?_⟩⟩
  rw [hM]
  refine ⟨p4, ?_⟩
  refine ⟨_, rfl, _, _, rfl, rfl, .inr ⟨by decide, by decide⟩, _, rfl, _, _, rfl, rfl, .inl ⟨by decide, by decide⟩, _, _, rfl, rfl, _, rfl, _, _, rfl, rfl, .inr ⟨_, rfl, _, _, rfl, rfl, .inl ⟨by decide, by decide⟩, _, _, rfl, rfl, _, _, rfl, rfl, ?_⟩⟩
  refine ⟨_, rfl, _, _, rfl, rfl, p3, _, _, rfl, rfl, _, _, rfl, _, rfl, .inl ⟨_, rfl, _, _, rfl, rfl, show (0 : Int) < 2305843009213693669 by decide, ?_⟩⟩
  refine ⟨show 3 ≤ sizeLine by decide, fun p hp => q p _ hp ⟨_, _, _, rfl, Int.emod_nonneg _ (by decide), Int.lt_trans (Int.emod_lt_of_pos _ (by decide)) (by decide)⟩⟩
theorem ok_law_leaf (T : Txt P K mg CA) (D : Df K mg "_law_leaf" s_law_leaf) (D_law_turn : DefOk P w K mg base CX0 1 "_law_turn" ["_law_loom_here", "_law_total"] (spDr Lm preT postT)) (D_law_pick : DefOk P w K mg base CX0 2 "_law_pick" ["_law_loom_here", "_law_items"] (spDr Lm preP postP))
    (D_law_place : DefOk P w K mg base CX0 3 "_law_place" ["_law_loom_here"] (spDr Lm preE postE)) : DefOk P w K mg base CX0 4 "_law_leaf" ["_law_loom_here", "_law_known", "_law_sets", "_law_arrays"] (spDr Lm preF postF) := by
  refine D.ok sc_law_leaf (fun _ _ _ _ _ _ us hl => match us, hl with | [_, _, _, _], _ => rfl) (fun vs H Q E h => spDr_len (n := 3) (fun ds e => by rw [e]; rfl) h) (fun f cdv A outer s H vs Q E hr h => ?_)
  obtain ⟨L, G, us, ds, rfl, w, hds, rfl, q⟩ := h
  cases hds with
  | cons hk t =>
  cases t with
  | cons hse t =>
  cases t with
  | cons har t =>
  cases t
  have hk : Da G _ (.list [.str "a"]) := hk
  have hse : Da G _ (.list [.str "a", .str "sum"]) := hse
  have har : Da G _ (.list [.str "x", .str "zzzzzzzz", .str "in"]) := har
  refine ⟨_, (pss_cons (ps_if (PW.pt (pw_and (pt_cmpR (op_neEL hr.units0) (pv 2) (pe_lst pa_nil) (nomark _)) (pw_and1 (pt_cmpR op_eq (pe_callD D_law_turn (hr.mono (by decide)) pass0 (pa_cons (pv 0) (pa_cons pe_int pa_nil))) pe_int (nomark _)))))
 (pss_cons (ps_par (by rfl) sc_law_leaf.nd (i := 4) (j := 5) rfl rfl (by decide) rfl rfl (pa_cons (pe_callD D_law_pick (hr.mono (by decide)) pass0 (pa_cons (pv 0) (pa_cons (pv 2) pa_nil))) (pa_cons (pe_callD D_law_turn (hr.mono (by decide)) pass0 (pa_cons (pv 0) (pa_cons pe_int pa_nil))) pa_nil)) (by rfl))
 (pss_one (ps_ret (pe_tup (pa_cons pe_str (pa_cons (pv 4) (pa_cons (pe_ifExp (PW.pt (pw_or (pt_cmpR op_gt (pv 5) pe_int (nomark _)) (pw_or1 (pt_cmpR op_in_seq (pv 4) (pv 1) (by rfl))))) (pv 5) pe_int) pa_nil)))))))
 pss_nil)
 (pss_cons (ps_asg (pe_callD D_law_place (hr.mono (by decide)) pass0 (pa_cons (pv 0) pa_nil)) (pg_tup (by rfl) (pgs_cons (pg_name (i := 6) sc_law_leaf.nd rfl (Or.inl rfl)) (pgs_cons (pg_name (i := 7) sc_law_leaf.nd rfl (Or.inl rfl)) pgs_nil))))
 (pss_one (ps_ret (pe_tup (pa_cons pe_str (pa_cons (pe_callD D_law_pick (hr.mono (by decide)) pass0 (pa_cons (pv 0) (pa_cons (pv 3) pa_nil))) (pa_cons (pv 6) (pa_cons (pv 7) pa_nil))))))))), ?_⟩
  refine q_ifR w (drt_and (drt_of (et_test (ev_neEL (evd_var rfl hse)))) fun _ => drt_test (dr_eqI (dr_turn rfl ev_c (by decide) (by decide)) (dr_int ev_c))) (fun _ G1 H1 r => ?_) (fun _ G1 H1 r => ?_)
  · refine q_parR r.w (drs_cons (dr_pick rfl (evd_var rfl (hse.up r.g)) (by simp) (by simp)) (drs_cons (dr_turn rfl ev_c (by decide) (by decide)) drs_nil)) (fun v1 v2 d1 d2 G2 H2 r2 p hd1 hd2 => ?_) ?_
    · obtain ⟨_, _, e, hm, _, _, e2, ⟨i, rfl, h0, h1⟩, rfl⟩ := p
      cases e
      cases e2
      cases hd2.int_
      have hx : ∃ x : Str, d1 = .str x := by
        simp only [List.mem_cons, List.not_mem_nil, or_false] at hm
        rcases hm with rfl | rfl <;> exact ⟨_, rfl⟩
      obtain ⟨x, rfl⟩ := hx
      obtain ⟨rfl, hxl⟩ := hd1.str_
      obtain ⟨b, ys, rfl, eb, hys⟩ := (hk.up (r.g.trans r2.g)).lst_
      cases hys with
      | cons h1' t =>
      cases t
      obtain ⟨rfl, _⟩ := h1'.str_
      refine s_retR r2.w (dr_tup (drs_cons (dr_of (evd_str ev_c (by decide))) (drs_cons (dr_of (evd_var rfl hd1)) (drs_cons (dr_if (P := isI fun z => 0 ≤ z ∧ z ≤ 3) (drt_of (et_or (et_test (ev_op (ev_var rfl) ev_c rv_I0)) fun _ => et_test (ev_op (ev_var rfl) (ev_var rfl) (rv_isL (SqL.of eb) rfl rfl)))) (fun _ => (dr_int (ev_var rfl)).imp fun d ⟨z, e, e2⟩ => ⟨z, e, by omega⟩) (fun _ => (dr_int ev_c).imp fun d ⟨z, e, e2⟩ => ⟨z, e, by omega⟩)) drs_nil))) ?_) (fun v d G3 H3 r3 p hd => q v d G3 H3 ((r.trans r2).trans r3) ?_ hd)
      · rintro ds ⟨_, _, rfl, _, _, _, rfl, _, _, _, rfl, _, rfl⟩
        simp
      · obtain ⟨ds, rfl, _, _, rfl, rfl, _, _, rfl, rfl, _, _, rfl, ⟨z, rfl, z0, z1⟩, rfl⟩ := p
        refine ⟨tup_sh fun d hd => ?_, by simp, by simp, fun ys e => by cases e⟩
        simp only [List.mem_cons, List.not_mem_nil, or_false] at hd
        rcases hd with rfl | rfl | rfl
        · rfl
        · rfl
        · exact smI_show ⟨z, rfl, Nat.lt_of_lt_of_le (by omega : _ < 100) (by decide +kernel)⟩
    · rintro ds ⟨_, _, rfl, _, _, _, rfl, _, rfl⟩
      rfl
  · refine q_unpR r.w (dr_call (Post := postE) (Pre := preE) rfl drs_nil (fun ds e => e)) (fun d ⟨_, _, a, b, e, _⟩ => ⟨_, _, e⟩) (fun v1 v2 d1 d2 G2 H2 r2 p hd1 hd2 => ?_)
    obtain ⟨_, _, a, b, e, ha, hb⟩ := p
    cases e
    refine s_retR r2.w (dr_tup (drs_cons (dr_of (evd_str ev_c (by decide))) (drs_cons (dr_pick rfl (evd_var rfl (har.up (r.g.trans r2.g))) (by simp) (by simp)) (drs_cons (dr_of (evd_var rfl hd1)) (drs_cons (dr_of (evd_var rfl hd2)) drs_nil)))) ?_) (fun v d G3 H3 r3 p hd => q v d G3 H3 ((r.trans r2).trans r3) ?_ hd)
    · rintro ds ⟨_, _, rfl, _, _, _, rfl, _, _, _, rfl, _, _, _, rfl, _, rfl⟩
      simp
    · obtain ⟨ds, rfl, _, _, rfl, rfl, x, _, rfl, hx, _, _, rfl, rfl, _, _, rfl, rfl, rfl⟩ := p
      refine ⟨tup_sh fun d hd => ?_, by simp, by simp, fun ys e => by cases e⟩
      simp only [List.mem_cons, List.not_mem_nil, or_false] at hd hx
      rcases hd with rfl | rfl | rfl | rfl
      · rfl
      · rcases hx with rfl | rfl | rfl <;> rfl
      · exact smI_show ⟨a, rfl, ha⟩
      · exact smI_show ⟨b, rfl, hb⟩
theorem ok_law_tr0 (D : Df K mg "_law_tree" s_law_tree) : DefOk P w K mg base CX0 1 "_law_tree" ["_law_loom_here", "_law_deep", "_law_known", "_law_sets", "_law_arrays"] (spDr Lm (preG 0) (postG 0)) := by
  refine D.ok sc_law_tree (fun _ _ _ _ _ _ us hl => match us, hl with | [_, _, _, _, _], _ => rfl) (fun vs H Q E h => spDr_len (n := 4) (fun ds ⟨m, e, _⟩ => by rw [e]; rfl) h) (fun f cdv A outer s H vs Q E hr h => ?_)
  obtain ⟨L, G, us, ds, rfl, w, hds, ⟨m, rfl, m0, m1⟩, q⟩ := h
  exact absurd m0 (by omega)
theorem ok_law_trS (T : Txt P K mg CA) (D : Df K mg "_law_tree" s_law_tree) {n l : Nat} (hl3 : 4 ≤ l) (D_law_tree : DefOk P w K mg base CX0 l "_law_tree" ["_law_loom_here", "_law_deep", "_law_known", "_law_sets", "_law_arrays"] (spDr Lm (preG n) (postG n))) (D_law_turn : DefOk P w K mg base CX0 1 "_law_turn" ["_law_loom_here", "_law_total"] (spDr Lm preT postT)) (D_law_pick : DefOk P w K mg base CX0 2 "_law_pick" ["_law_loom_here", "_law_items"] (spDr Lm preP postP))
    (D_law_leaf : DefOk P w K mg base CX0 4 "_law_leaf" ["_law_loom_here", "_law_known", "_law_sets", "_law_arrays"] (spDr Lm preF postF)) : DefOk P w K mg base CX0 (l + 1) "_law_tree" ["_law_loom_here", "_law_deep", "_law_known", "_law_sets", "_law_arrays"] (spDr Lm (preG (n + 1)) (postG (n + 1))) := by
  refine D.ok sc_law_tree (fun _ _ _ _ _ _ us hl => match us, hl with | [_, _, _, _, _], _ => rfl) (fun vs H Q E h => spDr_len (n := 4) (fun ds ⟨m, e, _⟩ => by rw [e]; rfl) h) (fun f cdv A outer s H vs Q E hr h => ?_)
  obtain ⟨L, G, us, ds, rfl, w, hds, ⟨m, rfl, m0, m1⟩, q⟩ := h
  cases hds with
  | cons hm t =>
  cases t with
  | cons hk t =>
  cases t with
  | cons hse t =>
  cases t with
  | cons har t =>
  cases t
  cases hm.int_
  refine ⟨_, (pss_cons (ps_if (PW.pt (pw_or (pt_cmpR op_eq (pv 1) pe_int (nomark _)) (pw_or1 (pt_cmpR op_eq (pe_callD D_law_turn (hr.mono (by omega)) pass0 (pa_cons (pv 0) (pa_cons pe_int pa_nil))) pe_int (nomark _)))))
 (pss_one (ps_ret (pe_callD D_law_leaf (hr.mono (by omega)) pass0 (pa_cons (pv 0) (pa_cons (pv 2) (pa_cons (pv 3) (pa_cons (pv 4) pa_nil)))))))
 pss_nil)
 (pss_cons (ps_asg (pe_callD D_law_pick (hr.mono (by omega)) pass0 (pa_cons (pv 0) (pa_cons (pe_lst (pa_cons (pe_tup (pa_cons pe_str (pa_cons pe_int pa_nil))) (pa_cons (pe_tup (pa_cons pe_str (pa_cons pe_int pa_nil))) (pa_cons (pe_tup (pa_cons pe_str (pa_cons pe_int pa_nil))) (pa_cons (pe_tup (pa_cons pe_str (pa_cons pe_int pa_nil))) (pa_cons (pe_tup (pa_cons pe_str (pa_cons pe_int pa_nil))) pa_nil)))))) pa_nil))) (pg_tup (by rfl) (pgs_cons (pg_name (i := 5) sc_law_tree.nd rfl (Or.inl rfl)) (pgs_cons (pg_name (i := 6) sc_law_tree.nd rfl (Or.inl rfl)) pgs_nil))))
 (pss_one (ps_ret (pe_op op_catA (pe_tup (pa_cons pe_str (pa_cons (pv 5) pa_nil))) (pe_callTy call_tuple_of (by rfl) T.n_tuple (by decide +kernel) (pa_cons (pe_lc (own := [("_law_turn_here", 7)]) (by rfl) sc_law_tree.nd (pi_range1 (by rfl) T.n_range (pa_cons (pv 6) pa_nil)) (blkOk_by (own := [("_law_turn_here", 7)]) (N := ["_law_loom_here", "_law_deep", "_law_known", "_law_sets", "_law_arrays", "_law_operator", "_law_many", "_law_turn_here"]) (sc := defScope s_law_tree) (by decide +kernel)) (fun _ _ _ _ _ => (pg_name (i := 7) sc_law_tree.nd rfl (Or.inl rfl))) (fun _ _ _ _ _ => pts_nil) (fun _ _ _ _ _ => (pe_callD D_law_tree (hr.mono (by omega)) pass0 (pa_cons (pv 0) (pa_cons (pe_op op_sub (pv 1) pe_int) (pa_cons (pv 2) (pa_cons (pv 3) (pa_cons (pv 4) pa_nil)))))))) pa_nil))))))), ?_⟩
  refine q_ifR w (drt_or (drt_of (et_test (ev_eqI (ev_var rfl) ev_c))) fun _ => drt_test (dr_eqI (dr_turn rfl ev_c (by decide) (by decide)) (dr_int ev_c))) (fun _ G1 H1 r => ?_) (fun hb G1 H1 r => ?_)
  · refine s_retR r.w (dr_call (Post := postF) (Pre := preF) rfl (drs_of (evd_cons (evd_var rfl (hk.up r.g)) (evd_cons (evd_var rfl (hse.up r.g)) (evd_cons (evd_var rfl (har.up r.g)) evd_nil)))) (fun ds e => e)) (fun v d G2 H2 r2 ⟨_, _, p⟩ hd => q v d G2 H2 (r.trans r2) (tre_le p (by omega)) hd)
  · have hm1 : ¬ m = 1 := by
      rcases hb with ⟨_, hb, _⟩ | ⟨hb, _⟩
      · exact of_decide_eq_false hb.symm
      · cases hb
    refine q_unpR r.w ((dr_pick rfl (evd_lst (evd_cons (evd_tup (evd_cons (evd_str ev_c (by decide)) (evd_cons (evd_int ev_c) evd_nil)) (by simp)) (evd_cons (evd_tup (evd_cons (evd_str ev_c (by decide)) (evd_cons (evd_int ev_c) evd_nil)) (by simp)) (evd_cons (evd_tup (evd_cons (evd_str ev_c (by decide)) (evd_cons (evd_int ev_c) evd_nil)) (by simp)) (evd_cons (evd_tup (evd_cons (evd_str ev_c (by decide)) (evd_cons (evd_int ev_c) evd_nil)) (by simp)) (evd_cons (evd_tup (evd_cons (evd_str ev_c (by decide)) (evd_cons (evd_int ev_c) evd_nil)) (by simp)) evd_nil))))) (by simp)) (by simp) (by simp)).imp (P' := fun d => ∃ (x : Str) (k : Int), d = .tuple [.str x, .int k] ∧ 0 ≤ k ∧ k ≤ 3) (fun d hd => ?_)) (fun d ⟨x, k, e, _⟩ => ⟨_, _, e⟩) (fun v1 v2 d1 d2 G2 H2 r2 p hd1 hd2 => ?_)
    · simp only [List.mem_cons, List.not_mem_nil, or_false] at hd
      rcases hd with rfl | rfl | rfl | rfl | rfl <;> exact ⟨_, _, rfl, by decide, by decide⟩
    · obtain ⟨x, k, e, k0, k1⟩ := p
      cases e
      cases hd2.int_
      have g2 := r.g.trans r2.g
      refine s_retR r2.w (dr_cat (dr_tup (drs_cons (dr_of (evd_str ev_c (by decide))) (drs_cons (dr_of (evd_var rfl hd1)) drs_nil)) ?_) (dr_tupleOf (dr_lcR (P := Tre n) (drs_of (evd_cons (evd_int (ev_var rfl)) evd_nil)) ⟨k0, by omega⟩ (fun _ => rfl) (fun i G3 x3 => (dr_call (Post := postG n) (Pre := preG n) rfl (drs_of (evd_cons (evd_int (ev_op (ev_var rfl) ev_c rv_I0)) (evd_cons (evd_var rfl (hk.up (g2.trans x3))) (evd_cons (evd_var rfl (hse.up (g2.trans x3))) (evd_cons (evd_var rfl (har.up (g2.trans x3))) evd_nil))))) (fun ds e => ⟨m - 1, e, by omega, by omega⟩)).imp fun d ⟨_, _, p⟩ => p))) ?_) (fun v d G3 H3 r3 p hd => q v d G3 H3 ((r.trans r2).trans r3) ?_ hd)
      · rintro ds ⟨_, _, rfl, _, _, _, rfl, _, rfl⟩
        simp
      · rintro ds es ⟨_, _, rfl, _, _, _, rfl, _, rfl⟩ ⟨h1, _⟩
        simp
        omega
      · obtain ⟨ds, es, rfl, ⟨_, _, rfl, rfl, _, _, rfl, rfl, rfl⟩, h1, h2⟩ := p
        refine ⟨tup_sh fun d hd => ?_, by simp, by simp; omega, fun ys e e2 => ?_⟩
        · rcases List.mem_append.mp hd with hd | hd
          · simp only [List.mem_cons, List.not_mem_nil, or_false] at hd
            rcases hd with rfl | rfl <;> rfl
          · exact (h2 d hd).1
        · rw [List.getLast?_append] at e
          cases he : es.getLast? with
          | none =>
            rw [he] at e
            cases e
          | some z =>
            rw [he] at e
            cases e
            exact (h2 _ (List.mem_of_getLast? he)).2
def preBn (n : Nat) (ds : List PyData) : Prop := ∃ d, ds = [d] ∧ Tre n d
theorem cutD_in {ds : List PyData} {lo hi : Option Int} {d : PyData} (h : d ∈ cutD ds lo hi) : d ∈ ds := by
  unfold cutD at h
  exact List.mem_of_mem_drop (List.mem_of_mem_take h)
theorem ok_law_bent0 (D : Df K mg "_law_bent" s_law_bent) : DefOk P w K mg base CX0 1 "_law_bent" ["_law_loom_here", "_law_value"] (spDr Lm (preB 0) postB) := by
  refine D.ok sc_law_bent (fun _ _ _ _ _ _ us hl => match us, hl with | [_, _], _ => rfl) (fun vs H Q E h => spDr_len (n := 1) (fun ds ⟨m, e, _⟩ => by rw [e]; rfl) h) (fun f cdv A outer s H vs Q E hr h => ?_)
  obtain ⟨L, G, us, ds, rfl, w, hds, ⟨d, rfl, ht⟩, q⟩ := h
  exact ht.2.elim
theorem ok_law_bentS (T : Txt P K mg CA) (D : Df K mg "_law_bent" s_law_bent) {n l : Nat} (hl3 : 2 ≤ l) (D_law_bent : DefOk P w K mg base CX0 l "_law_bent" ["_law_loom_here", "_law_value"] (spDr Lm (preB n) postB)) (D_law_turn : DefOk P w K mg base CX0 1 "_law_turn" ["_law_loom_here", "_law_total"] (spDr Lm preT postT)) (D_law_pick : DefOk P w K mg base CX0 2 "_law_pick" ["_law_loom_here", "_law_items"] (spDr Lm preP postP)) :
    DefOk P w K mg base CX0 (l + 1) "_law_bent" ["_law_loom_here", "_law_value"] (spDr Lm (preB (n + 1)) postB) := by
  refine D.ok sc_law_bent (fun _ _ _ _ _ _ us hl => match us, hl with | [_, _], _ => rfl) (fun vs H Q E h => spDr_len (n := 1) (fun ds ⟨m, e, _⟩ => by rw [e]; rfl) h) (fun f cdv A outer s H vs Q E hr h => ?_)
  obtain ⟨L, G, us, ds, rfl, w, hds, ⟨d, rfl, hsh, ht⟩, q⟩ := h
  cases hds with
  | cons hv t =>
  cases t
  obtain ⟨xs, rfl⟩ : ∃ xs, d = .tuple xs := by
    cases d with
    | tuple xs => exact ⟨xs, rfl⟩
    | _ => exact ht.elim
  obtain ⟨hne, hlen, hlast⟩ := ht
  have hsx := sh_tup hsh
  have hpos : 0 < xs.length := List.length_pos_iff.mpr hne
  refine ⟨_, (pss_cons (ps_set (i := 2) sc_law_bent.nd rfl (Or.inl rfl) (pe_callD D_law_turn (hr.mono (by omega)) pass0 (pa_cons (pv 0) (pa_cons (pe_callB call_len_seq (by rfl) T.n_len (by decide +kernel) (pa_cons (pv 1) pa_nil)) pa_nil))))
 (pss_cons (ps_set (i := 3) sc_law_bent.nd rfl (Or.inl rfl) (pe_lst (pa_cons pe_non (pa_cons pe_int (pa_cons pe_int (pa_cons (pe_un un_neg pe_int) (pa_cons pe_bl (pa_cons pe_str (pa_cons pe_str (pa_cons pe_str (pa_cons pe_str (pa_cons (pe_tup pa_nil) (pa_cons (pe_lst pa_nil) (pa_cons pe_dnewK (pa_cons (pe_op op_pow pe_int pe_int) (pa_cons pe_str (pa_cons (pe_tup (pa_cons pe_str (pa_cons pe_str (pa_cons pe_int (pa_cons pe_int pa_nil))))) pa_nil)))))))))))))))))
 (pss_cons (ps_set (i := 3) sc_law_bent.nd rfl (Or.inl rfl) (pe_callD D_law_pick (hr.mono (by omega)) pass0 (pa_cons (pv 0) (pa_cons (pv 3) pa_nil))))
 (pss_cons (ps_set (i := 4) sc_law_bent.nd rfl (Or.inl rfl) (pe_callD D_law_turn (hr.mono (by omega)) pass0 (pa_cons (pv 0) (pa_cons pe_int pa_nil))))
 (pss_cons (ps_if (pt_cmpR op_eq (pv 4) pe_int (nomark _))
 (pss_one (ps_ret (pe_op op_catA (pe_slice sl_tupA (pv 1) po_none (po_some (pv 2))) (pe_slice sl_tupA (pv 1) (po_some (pe_op op_add (pv 2) pe_int)) po_none))))
 pss_nil)
 (pss_cons (ps_if (pt_cmpR op_eq (pv 4) pe_int (nomark _))
 (pss_one (ps_ret (pe_op op_catA (pe_op op_catA (pe_slice sl_tupA (pv 1) po_none (po_some (pv 2))) (pe_tup (pa_cons (pv 3) pa_nil))) (pe_slice sl_tupA (pv 1) (po_some (pv 2)) po_none))))
 pss_nil)
 (pss_cons (ps_if (pt_cmpR op_eq (pv 4) pe_int (nomark _))
 (pss_one (ps_ret (pe_callTy call_list_of (by rfl) T.n_list (by decide +kernel) (pa_cons (pv 1) pa_nil))))
 pss_nil)
 (pss_cons (ps_if (PW.pt (pw_and (pt_cmpR op_eq (pv 4) pe_int (nomark _)) (pw_and (pt_val (pe_callB call_isi (by rfl) T.n_isinstance (by decide +kernel) (pa_cons (pe_ix ix_tup (pv 1) (pe_un un_neg pe_int) (fun _ _ => rfl)) (pa_cons (pe_bltn (v := .ty "tuple") (by rfl) T.n_tuple (by decide +kernel) rfl) pa_nil)))) (pw_and1 (pt_cmpR (op_neE hr.units0) (pe_ix ix_tup (pv 1) (pe_un un_neg pe_int) (fun _ _ => rfl)) (pe_tup pa_nil) (nomark _))))))
 (pss_one (ps_ret (pe_op op_catA (pe_slice sl_tupA (pv 1) po_none (po_some (pe_un un_neg pe_int))) (pe_tup (pa_cons (pe_callD D_law_bent (hr.mono (by omega)) pass0 (pa_cons (pv 0) (pa_cons (pe_ix ix_tup (pv 1) (pe_un un_neg pe_int) (fun _ _ => rfl)) pa_nil))) pa_nil)))))
 pss_nil)
 (pss_cons (ps_if (pt_cmpR op_eq (pv 4) pe_int (nomark _))
 (pss_one (ps_ret (pe_ifExp (pt_cmpR op_gt (pe_callB call_len_seq (by rfl) T.n_len (by decide +kernel) (pa_cons (pv 1) pa_nil)) pe_int (nomark _)) (pe_tup (pa_cons pe_str (pa_cons (pe_ix ix_tup (pv 1) pe_int (fun _ _ => rfl)) (pa_cons (pv 1) pa_nil)))) (pv 1))))
 pss_nil)
 (pss_one (ps_ret (pe_op op_catA (pe_op op_catA (pe_slice sl_tupA (pv 1) po_none (po_some (pv 2))) (pe_tup (pa_cons (pv 3) pa_nil))) (pe_slice sl_tupA (pv 1) (po_some (pe_op op_add (pv 2) pe_int)) po_none))))))))))))), ?_⟩
  refine q_asgR w (dr_turn rfl (ev_lenT (evd_var rfl hv)) (by omega) (by omega)) (fun v1 d1 G1 H1 r1 ⟨sp, e1, sp0, sp1⟩ hd1 => ?_)
  subst e1
  cases hd1.int_
  refine q_asgR r1.w ((dr_of (evd_lst (evd_cons (evd_non ev_c) (evd_cons (evd_int ev_c) (evd_cons (evd_int ev_c) (evd_cons (evd_int (ev_un ev_c ru_neg)) (evd_cons (evd_bl ev_c) (evd_cons (evd_str ev_c (by decide)) (evd_cons (evd_str ev_c (by decide)) (evd_cons (evd_str ev_c (by decide)) (evd_cons (evd_str ev_c (by decide)) (evd_cons (evd_tup evd_nil (by simp)) (evd_cons (evd_lst evd_nil (by simp)) (evd_cons evd_dnew (evd_cons (evd_pow (cpow 10 30 (by decide) (by decide))) (evd_cons (evd_str ev_c (by decide)) (evd_cons (evd_tup (evd_cons (evd_str ev_c (by decide)) (evd_cons (evd_str ev_c (by decide)) (evd_cons (evd_int ev_c) (evd_cons (evd_int ev_c) evd_nil)))) (by simp)) evd_nil))))))))))))))) (by simp))).imp (P' := fun z => ∃ os, z = .list os ∧ os.length = 15 ∧ ∀ o ∈ os, o.showable = true) (fun z e => ⟨_, e, rfl, fun o ho => ?_⟩)) (fun v2 d2 G2 H2 r2 ⟨os, e2, ol, osh⟩ hd2 => ?_)
  · have big : ((10 : Int) ^ Int.toNat 30).natAbs < 2 ^ 200 := by decide +kernel
    simp only [List.mem_cons, List.not_mem_nil, or_false] at ho
    rcases ho with rfl | rfl | rfl | rfl | rfl | rfl | rfl | rfl | rfl | rfl | rfl | rfl | rfl | rfl | rfl <;> first | exact smI_show ⟨_, rfl, big⟩ | rfl
  subst e2
  refine q_asgR r2.w (dr_pick rfl (evd_var rfl hd2) (by omega) (by omega)) (fun v3 od G3 H3 r3 hod hd3 => ?_)
  have hods : od.showable = true := osh _ hod
  refine q_asgR r3.w (dr_turn rfl ev_c (by decide) (by decide)) (fun v4 d4 G4 H4 r4 ⟨way, e4, w0, w1⟩ hd4 => ?_)
  subst e4
  cases hd4.int_
  have rr := ((r1.trans r2).trans r3).trans r4
  have hv4 := hv.up rr.g
  have ho4 := hd3.up r4.g
  have s4 := rr.s
  have cl : ∀ lo hi, (cutD xs lo hi).length ≤ 50 := fun lo hi => Nat.le_trans cut_len hlen
  have fin : ∀ {H5 : Hp} {te : TE} {σ : L2.St} {d : PyData}, Ex H4 H5 → EvD te σ G4 d → d.showable = true → tRet te { nx := fun x H' => Q V.non H', rt := Q } σ H5 := fun x5 hd5 sh => s_retD (s4.trans x5) hd5 fun v G6 H6 r6 hd6 => q v _ G6 H6 (rr.gr ((Gr.keep s4 x5).trans r6)) sh hd6
  refine q_ifD s4 (et_test (ev_eqI (ev_var rfl) ev_c)) (fun _ H5 x5 => ?_) (fun _ H5 x5 => ?_)
  · refine fin x5 (evd_cat (evd_sl (evd_var rfl hv4) EvO.none_ (EvO.some_ (ev_var rfl))) (evd_sl (evd_var rfl hv4) (EvO.some_ (ev_op (ev_var rfl) ev_c rv_I0)) EvO.none_) ?_) (tup_sh fun z hz => ?_)
    · have := cl none (some sp)
      have := cl (some (sp + 1)) none
      omega
    · rcases List.mem_append.mp hz with hz | hz
      · exact hsx _ (cutD_in hz)
      · exact hsx _ (cutD_in hz)
  refine q_ifD (s4.trans x5) (et_test (ev_eqI (ev_var rfl) ev_c)) (fun _ H6 x6 => ?_) (fun _ H6 x6 => ?_)
  · refine fin (x5.trans x6) (evd_cat (evd_cat (evd_sl (evd_var rfl hv4) EvO.none_ (EvO.some_ (ev_var rfl))) (evd_tup (evd_cons (evd_var rfl ho4) evd_nil) (by simp)) ?_) (evd_sl (evd_var rfl hv4) (EvO.some_ (ev_var rfl)) EvO.none_) ?_) (tup_sh fun z hz => ?_)
    · have := cl none (some sp)
      simp
      omega
    · have := cl none (some sp)
      have := cl (some sp) none
      simp
      omega
    · rcases List.mem_append.mp hz with hz | hz
      · rcases List.mem_append.mp hz with hz | hz
        · exact hsx _ (cutD_in hz)
        · cases List.mem_singleton.mp hz
          exact hods
      · exact hsx _ (cutD_in hz)
  have s6 := s4.trans (x5.trans x6)
  refine q_ifD s6 (et_test (ev_eqI (ev_var rfl) ev_c)) (fun _ H7 x7 => ?_) (fun _ H7 x7 => ?_)
  · exact fin ((x5.trans x6).trans x7) (evd_listOf (evd_var rfl hv4)) (list_sh hsx)
  have x47 := (x5.trans x6).trans x7
  have s7 := s4.trans x47
  obtain ⟨ys, z, hx⟩ : ∃ ys z, xs = ys ++ [z] := ⟨xs.dropLast, xs.getLast hne, (List.dropLast_concat_getLast hne).symm⟩
  have hz : xs.getLast? = some z := by rw [hx]; simp
  have hz1 : atI xs (-1) = some z := by rw [hx]; exact atI_last ys z
  have zin : z ∈ xs := List.mem_of_getLast? hz
  have rest : ∀ {H8 : Hp}, Ex H4 H8 → tSeq (tIfS (tTest (tOp rEq (tVar 4) (tC (.int 4)))) (tRet (tIf (tTest (tOp (rI0 fun i j => .bl (decide (j < i))) (tCB (fun xs H Q => ∃ p ys, xs = [V.ref p] ∧ (SqL K H p ys ∨ SqT K H p ys) ∧ Q (.int ys.length) H) (tCons (tVar 1) tNil)) (tC (.int 1)))) (tTup (tCons (tC (.str "set")) (tCons (tOp (rIxT K) (tVar 1) (tC (.int 1))) (tCons (tVar 1) tNil)))) (tVar 1))) tNext)
      (tRet (tOp (rCatA K) (tOp (rCatA K) (tSl (rSlA K) (tVar 1) tNoPart (tPart (tVar 2))) (tTup (tCons (tVar 3) tNil))) (tSl (rSlA K) (tVar 1) (tPart (tOp (rI0 fun i j => .int (i + j)) (tVar 2) (tC (.int 1)))) tNoPart))) { nx := fun x H' => Q V.non H', rt := Q } (((((start ["_law_loom_here", "_law_value", "_law_spot", "_law_odd", "_law_way"] [.ref L, _]).set 2 (some (.int sp))).set 3 (some v2)).set 3 (some v3)).set 4 (some (.int way))) H8 := fun {H8} x8 => by
    refine q_ifD (s4.trans x8) (et_test (ev_eqI (ev_var rfl) ev_c)) (fun _ H9 x9 => ?_) (fun _ H9 x9 => ?_)
    · by_cases c : 1 < xs.length
      · have e1 : atI xs 1 = some xs[1] := atI_nat (j := 1) (List.getElem?_eq_getElem c)
        refine fin (x8.trans x9) (evd_if (b := true) (et_is (et_test (ev_op (ev_lenT (evd_var rfl hv4)) ev_c rv_I0)) (decide_eq_true (by omega))) (fun _ => evd_tup (evd_cons (evd_str ev_c (by decide)) (evd_cons (evd_ixT (evd_var rfl hv4) ev_c e1) (evd_cons (evd_var rfl hv4) evd_nil))) (by simp)) (fun z => by cases z)) (tup_sh fun z hz => ?_)
        simp only [List.mem_cons, List.not_mem_nil, or_false] at hz
        rcases hz with rfl | rfl | rfl
        · rfl
        · exact hsx _ (List.getElem_mem c)
        · exact hsh
      · exact fin (x8.trans x9) (evd_if (b := false) (et_is (et_test (ev_op (ev_lenT (evd_var rfl hv4)) ev_c rv_I0)) (decide_eq_false (by omega))) (fun z => by cases z) (fun _ => evd_var rfl hv4)) hsh
    · refine fin (x8.trans x9) (evd_cat (evd_cat (evd_sl (evd_var rfl hv4) EvO.none_ (EvO.some_ (ev_var rfl))) (evd_tup (evd_cons (evd_var rfl ho4) evd_nil) (by simp)) ?_) (evd_sl (evd_var rfl hv4) (EvO.some_ (ev_op (ev_var rfl) ev_c rv_I0)) EvO.none_) ?_) (tup_sh fun z hz => ?_)
      · have := cl none (some sp)
        simp
        omega
      · have := cl none (some sp)
        have := cl (some (sp + 1)) none
        simp
        omega
      · rcases List.mem_append.mp hz with hz | hz
        · rcases List.mem_append.mp hz with hz | hz
          · exact hsx _ (cutD_in hz)
          · cases List.mem_singleton.mp hz
            exact hods
        · exact hsx _ (cutD_in hz)
  have ix : ∀ (σ : L2.St) (v : V), σ[1]? = some (some v) → Da G4 v (.tuple xs) → EvD (tOp (rIxT K) (tVar 1) (tUn (rU fun i => .int (-i)) (tC (.int 1)))) σ G4 z := fun σ v h1 h2 => evd_ixT (evd_var h1 h2) (ev_un ev_c ru_neg) hz1
  by_cases c : kd z = "tuple"
  · obtain ⟨zs, rfl⟩ := kd_tup c
    refine q_ifD s7 (et_and (et_test (ev_eqI (ev_var rfl) ev_c)) fun _ => et_and (et_B (ev_isTup (ix _ _ rfl hv4))) fun _ => et_test (ev_neET (ix _ _ rfl hv4))) (fun hb H8 x8 => ?_) (fun hb H8 x8 => rest (x47.trans x8))
    have hzs : zs ≠ [] := fun e => by
      subst e
      simp at hb
    have w8 := rr.w.up (x47.trans x8)
    refine s_retR w8 (dr_cat ((dr_of (evd_sl (evd_var rfl hv4) EvO.none_ (EvO.some_ (ev_un ev_c ru_neg)))).imp (P' := fun d => ∃ ds, d = .tuple ds ∧ ds = cutD xs none (some (-1))) fun d e => ⟨_, e, rfl⟩) (dr_tup (drs_cons (dr_call (Post := postB) (Pre := preB n) rfl (drs_of (evd_cons (ix _ _ rfl hv4) evd_nil)) (fun ds e => ⟨_, e, hsx _ zin, hlast zs hz hzs⟩)) drs_nil) ?_) ?_) (fun v d G9 H9 r9 p hd => q v d G9 H9 ((rr.gr (Gr.keep s4 (x47.trans x8))).trans r9) ?_ hd)
    · rintro ds ⟨_, _, rfl, _, rfl⟩
      simp
    · rintro ds es rfl ⟨_, _, rfl, _, rfl⟩
      have := cl none (some (-1))
      simp
      omega
    · obtain ⟨ds, es, rfl, rfl, _, _, rfl, ⟨_, _, p⟩, rfl⟩ := p
      refine tup_sh fun z hz => ?_
      rcases List.mem_append.mp hz with hz | hz
      · exact hsx _ (cutD_in hz)
      · cases List.mem_singleton.mp hz
        exact p
  · refine q_ifD s7 (et_and (b := false) (et_test (ev_eqI (ev_var rfl) ev_c)) fun _ => et_is (et_and (b := false) (et_B (ev_isTup (ix _ _ rfl hv4))) fun z => absurd (eq_of_beq z) c) (Bool.and_false _)) (fun hb => by rw [Bool.and_false] at hb; cases hb) (fun hb H8 x8 => rest (x47.trans x8))
end
end My
set_option maxHeartbeats 4000000
namespace My
open PySem L2 Lf Evl Tr LamX LfT
abbrev s_law_word : Stmt := top 43
theorem sc_law_word : FnScope ["_law_call"] ["_law_call"] (defScope s_law_word) := ⟨rfl, rfl, rfl, by decide +kernel, rfl, by decide +kernel, by decide +kernel⟩
abbrev s_law_cell_right : Stmt := top 44
theorem sc_law_cell_right : FnScope ["_law_loom_here", "_law_deep", "_law_arrays", "_law_tree_here", "_law_place_here", "_law_rows", "_law_some", "_law_one", "_law_turn_here", "_law_value", "_law_told", "_law_due"] ["_law_loom_here"] (defScope s_law_cell_right) := ⟨rfl, rfl, rfl, by decide +kernel, rfl, by decide +kernel, by decide +kernel⟩
abbrev lamQ : Str := (PyProof.Rows.envOfC "_law_cell_right" (defScope s_law_cell_right) 0 0 .none).qual ++ "<lambda>"
def KeepN (L : Addr) (H H' : Hp) : Prop := ∀ a o, a ≠ L → H a = some o → (∀ ps, o ≠ .tbl ps) → H' a = some o
theorem KeepN.trans {L : Addr} {H H1 H2 : Hp} (a : KeepN L H H1) (b : KeepN L H1 H2) : KeepN L H H2 := fun x o n h t => b x o n (a x o n h t) t
theorem KeepN.ofB {L : Addr} {H H1 : Hp} (a : ExB L H H1) : KeepN L H H1 := fun x o n h _ => a x o n h
theorem KeepN.ofN {L : Addr} {H H1 : Hp} (a : ExtN H H1) : KeepN L H H1 := fun x o _ h t => a x o h t
theorem KeepN.of {L : Addr} {H H1 : Hp} (a : Ex H H1) : KeepN L H H1 := fun x o _ h _ => a x o h
theorem tabs_exB {Tb : List (Addr × Str)} {L : Addr} {H H' : Hp} {xs : List V} (t : Tabs Tb H) (x : ExB L H H') (hL : H L = some (.lst xs)) : Tabs Tb H' := fun p hp => by
  obtain ⟨ps, h1, h2, h3⟩ := t p hp
  refine ⟨ps, x _ _ (fun z => by rw [z, hL] at h1; cases h1) h1, h2, fun pos cv hc => ?_⟩
  obtain ⟨c, e1, e2⟩ := h3 pos cv hc
  exact ⟨c, e1, x _ _ (fun z => by rw [z, hL] at e2; unfold CodeO at e2; cases e2) e2⟩
theorem tabs_up {Tb : List (Addr × Str)} {H : Hp} {p : Addr} {xs ys : List V} (t : Tabs Tb H) (h : H p = some (.lst xs)) : Tabs Tb (upd H p (.lst ys)) := tabs_exB t (fun a o n h => by rw [upd_ne n]; exact h) h
theorem exn_view {G H H1 : Hp} (hG : ∀ a o, G a = some o → dataO o = true) (s : Ex G H) (e : ExtN H H1) : Ex G H1 := fun a o h => e a o (s a o h) fun ps z => by
  have := hG a o h
  rw [z] at this
  cases this
def toldD (fR : PyData → Int) (d : PyData) : PyData := if isTr 4 d = true then .int (fR d) else .str "tree"
theorem told_lam {K : PySem.W.Frag} {T CA : Addr} {q : Str} {fR : PyData → Int} {σ : L2.St} {G H : Hp} {x : V} {d : PyData} {j : Nat} {Q : VK} (hex : PySem.W.exmOne K (.ref CA) (.ref CA) = some true) (hσ : σ[j]? = some (some x)) (hd : Da G x d) (hG : ∀ a o, G a = some o → dataO o = true) (s : Ex G H) (t : Tabs [(T, q)] H)
    (k : ∀ v H', ExtN H H' → Tabs [(T, q)] H' → Ex G H' → (∀ G, Da G v (toldD fR d)) → Q v H') : tLam [(T, q)] (TTold K CA "tree") (fun E => tCallD (spR CA fun d => .int (fR d)) E (tCons (tVar j) tNil)) σ H Q := by
  refine ⟨t, fun H1 e1 t1 => ?_⟩
  have s1 := exn_view hG s e1
  refine ⟨x, hσ, G, x, d, rfl, s1, hd, fun c v' G' H' r hd' => ?_, fun c d' H' x' => ?_⟩
  · refine k v' H' (e1.trans (ExtN.of r.h)) (t1.ext r.h) (s1.trans r.h) fun G2 => ?_
    unfold toldD
    rw [if_pos c, hd'.int_]
    exact .int _
  · refine ⟨true, hex, fun _ => k _ H' (e1.trans (ExtN.of x')) (t1.ext x') (s1.trans x') fun G2 => ?_, fun z => by cases z⟩
    unfold toldD
    rw [c, if_neg Bool.false_ne_true]
    exact .str _ (by decide)
theorem int_len {i : Int} (h0 : 0 ≤ i) (h1 : i < 10000) : (Str.ofString (toString i)).length ≤ 4 := by
  obtain ⟨n, rfl⟩ : ∃ n : Nat, i = (n : Int) := ⟨i.toNat, by omega⟩
  exact (len_digits n 4 (by decide)).mpr (by omega)
theorem shown_ints {i j : Int} (h0 : 0 ≤ i) (h1 : i < 10000) (h2 : 0 ≤ j) (h3 : j < 10000) : (PyData.list [.int i, .int j]).shown.length ≤ sizeLine := by
  have e : (PyData.list [.int i, .int j]).shown = listText [Str.ofString (toString i), Str.ofString (toString j)] := rfl
  rw [e]
  have a := listText_len_le [Str.ofString (toString i), Str.ofString (toString j)]
  have b := int_len h0 h1
  have c := int_len h2 h3
  refine Nat.le_trans (m := 100) (Nat.le_trans a ?_) (by decide)
  simp only [List.map_cons, List.map_nil, List.sum_cons, List.sum_nil, List.length_cons, List.length_nil]
  omega
theorem show_int {i : Int} (h0 : 0 ≤ i) (h1 : i < 10000) : (PyData.int i).showable = true := smI_show ⟨i, rfl, Nat.lt_of_lt_of_le (by omega : _ < 100000) (by decide +kernel)⟩
/-- the due list can be shown -/
theorem told_show {f g : PyData → Int} {d : PyData} (hf : isTr 4 d = true → 0 ≤ f d ∧ f d < 10000) (hg : isTr 4 d = true → 0 ≤ g d ∧ g d < 10000) : flatD (.list [toldD f d, toldD g d]) = true ∧ (PyData.list [toldD f d, toldD g d]).showable = true ∧ (PyData.list [toldD f d, toldD g d]).hasDict = false ∧ (PyData.list [toldD f d, toldD g d]).depth ≤ 32 ∧ (PyData.list [toldD f d, toldD g d]).shown.length ≤ sizeLine := by
  unfold toldD
  cases c : isTr 4 d with
  | true =>
    rw [if_pos rfl, if_pos rfl]
    obtain ⟨a1, a2⟩ := hf c
    obtain ⟨b1, b2⟩ := hg c
    refine ⟨rfl, list_sh fun z hz => ?_, rfl, by simp [PyData.depth, PyData.depthAll], shown_ints a1 a2 b1 b2⟩
    simp only [List.mem_cons, List.not_mem_nil, or_false] at hz
    rcases hz with rfl | rfl
    · exact show_int a1 a2
    · exact show_int b1 b2
  | false =>
    rw [if_neg Bool.false_ne_true, if_neg Bool.false_ne_true]
    exact ⟨rfl, rfl, rfl, by decide +kernel, by decide +kernel⟩
theorem lvl_le : ∀ (n : Nat) (d : PyData), lvl n d ≤ n := by
  intro n
  induction n with
  | zero => intro d; exact Int.le_refl _
  | succ n ih =>
    intro d
    cases d with
    | tuple ds =>
      rw [lvl]
      have h := (foldl_max_ge ((subs ds).map fun t => lvl n t) 0).2.2
      have : mx ((subs ds).map fun t => lvl n t) ≤ n := by
        unfold mx
        rcases h with h | h
        · rw [h]; omega
        · obtain ⟨t, _, e⟩ := List.mem_map.mp h
          rw [← e]
          exact ih t
      omega
    | _ => show (0 : Int) ≤ _; omega
theorem lvl_small {d : PyData} (_ : isTr 4 d = true) : 0 ≤ lvl 4 d ∧ lvl 4 d < 10000 := ⟨lvl_ge 4 d, by have := lvl_le 4 d; omega⟩
theorem wrk_small {d : PyData} (h : isTr 4 d = true) : 0 ≤ wrk 4 d ∧ wrk 4 d < 10000 := by
  have e := keys_len 4 d (Str.ofString "")
  have b := keys_le 4 d (Str.ofString "") h
  omega
def spCell (T : Addr) : Sp := fun vs H Q _ => ∃ L xs, vs = [.ref L] ∧ H L = some (.lst xs) ∧ Lm xs ∧ Tabs [(T, lamQ)] H ∧ ∀ H' xs', KeepN L H H' → H' L = some (.lst xs') → Lm xs' → Tabs [(T, lamQ)] H' → Q (.bl true) H'
theorem dr_catL {Lm : List V → Prop} {L : Addr} {σ : L2.St} {G : Hp} {ta tb : TE} {ds : List PyData} {R : List PyData → Prop} (ha : Dr Lm L ta σ G (fun d => d = .list ds)) (hb : Dr Lm L tb σ G (fun d => ∃ es, d = .list es ∧ R es)) (hl : ∀ es, R es → ds.length + es.length ≤ 100000) : Dr Lm L (tOp rCat ta tb) σ G (fun d => ∃ es, d = .list (ds ++ es) ∧ R es) := fun G1 H1 x w Q q =>
  ha G1 H1 x w _ fun v d G2 H2 r e1 hd => hb G2 H2 (x.trans r.g) r.w _ fun w' d' G3 H3 r2 ⟨es, e2, p2⟩ he => by
    subst e1
    subst e2
    obtain ⟨a, xs, rfl, e1, h1⟩ := (hd.up r2.g).lst_
    obtain ⟨b, ys, rfl, e2, h2⟩ := he.lst_
    have r3 := r.trans r2
    refine ⟨a, b, xs, ys, rfl, rfl, r3.s _ _ e1, r3.s _ _ e2, by rw [h1.len, h2.len]; exact sz_of (hl _ p2), fun p hp => ?_⟩
    have n := Gr.new (o := .lst (xs ++ ys)) r3.s hp rfl
    exact q (.ref p) _ _ _ (r3.gr n) ⟨es, rfl, p2⟩ (.lst upd_same ((h1.app h2).up n.g))
theorem ev_neR {K : PySem.W.Frag} {σ : L2.St} {G : Hp} {ta tb : TE} {x y : Str} (ha : Ev ta σ G (.str x)) (hb : Ev tb σ G (.str y)) (e : x = y) : Ev (tOp rNe ta tb) σ G (.bl false) := by
  have h := ev_op ha hb (rv_ne (x := V.str x) (y := V.str y) rfl)
  rw [e, decide_eq_true rfl] at h
  exact h
section
variable {P : Program} {w : World} {K : PySem.W.Frag} {mg : Str → Option Value} {base : Heap} {CA : Addr}
theorem ok_law_cell_right {c T0 : Addr} (T : Txt P K mg CA) (hex : PySem.W.exmOne K (.ref CA) (.ref CA) = some true) (TB : TabB base mg c T0) (D : DfC K mg "_law_cell_right" s_law_cell_right c) (D_law_word : Df K mg "_law_word" s_law_word)
    (D_law_turn : DefOk P w K mg base CX0 1 "_law_turn" ["_law_loom_here", "_law_total"] (spDr Lm preT postT)) (D_law_tree : DefOk P w K mg base CX0 9 "_law_tree" ["_law_loom_here", "_law_deep", "_law_known", "_law_sets", "_law_arrays"] (spDr Lm (preG 5) (postG 5)))
    (D_law_place : DefOk P w K mg base CX0 3 "_law_place" ["_law_loom_here"] (spDr Lm preE postE)) (D_law_bent : DefOk P w K mg base CX0 8 "_law_bent" ["_law_loom_here", "_law_value"] (spDr Lm (preB 6) postB))
    (D_is_tree : DefOk P w K mg base CX0 9 "is_tree" ["value"] (spB (isTr 4))) (D_law_is_tree : DefOk P w K mg base CX0 6 "_law_is_tree" ["_law_value", "_law_most"] (spL 5))
    (D_is_statement : DefOk P w K mg base CX0 10 "is_statement" ["value"] (spB isSt)) (D_law_is_statement : DefOk P w K mg base CX0 7 "_law_is_statement" ["_law_value"] (spO (fSh isSt)))
    (D_levels : DefOk P w K mg base (L2.CX P w) 11 "levels" ["tree"] (spR CA fun d => .int (lvl 4 d))) (D_nodes : DefOk P w K mg base (L2.CX P w) 11 "nodes" ["tree"] (spR CA fun d => .int (wrk 4 d)))
    (D_law_count : DefOk P w K mg base CX0 5 "_law_count" ["_law_tree_here"] (spO (fLvl 4))) (D_law_working : DefOk P w K mg base CX0 5 "_law_working" ["_law_tree_here"] (spO (fWrk 4))) :
    DefOkG P w K mg base CX0 14 "_law_cell_right" ["_law_loom_here"] (spCell T0) := by
  refine D.okG sc_law_cell_right (fun _ _ _ _ _ _ us hl => match us, hl with | [_], _ => rfl) (fun vs H Q E h => ?_) (fun f A outer s H vs Q E hg hr h => ?_)
  · obtain ⟨L, xs, rfl, _⟩ := h
    rfl
  obtain ⟨L, xs, rfl, hL, hx, tb, q⟩ := h
  refine ⟨_, (pss_cons (ps_par (by rfl) sc_law_cell_right.nd (i := 1) (j := 2) rfl rfl (by decide) rfl rfl (pa_cons (pe_op op_add pe_int (pe_callD D_law_turn (hr.mono (by decide)) pass0 (pa_cons (pv 0) (pa_cons pe_int pa_nil)))) (pa_cons (pe_lst (pa_cons pe_str (pa_cons pe_str (pa_cons pe_str pa_nil)))) pa_nil)) (by rfl))
 (pss_cons (ps_set (i := 3) sc_law_cell_right.nd rfl (Or.inl rfl) (pe_callD D_law_tree (hr.mono (by decide)) pass0 (pa_cons (pv 0) (pa_cons (pv 1) (pa_cons (pe_lst (pa_cons pe_str pa_nil)) (pa_cons (pe_lst (pa_cons pe_str (pa_cons pe_str pa_nil))) (pa_cons (pv 2) pa_nil)))))))
 (pss_cons (ps_set (i := 4) sc_law_cell_right.nd rfl (Or.inl rfl) (pe_callD D_law_place (hr.mono (by decide)) pass0 (pa_cons (pv 0) pa_nil)))
 (pss_cons (ps_set (i := 5) sc_law_cell_right.nd rfl (Or.inl rfl) (pe_lst (pa_cons (pv 3) (pa_cons (pe_tup (pa_cons pe_str (pa_cons pe_str (pa_cons (pv 3) pa_nil)))) (pa_cons (pe_tup (pa_cons pe_str (pa_cons pe_str (pa_cons pe_str (pa_cons (pe_ix ix_tup (pv 4) pe_int (fun _ _ => rfl)) (pa_cons (pe_ix ix_tup (pv 4) pe_int (fun _ _ => rfl)) (pa_cons (pv 3) pa_nil))))))) (pa_cons (pe_tup (pa_cons pe_str (pa_cons pe_str (pa_cons (pv 3) pa_nil)))) pa_nil))))))
 (pss_cons (ps_set (i := 6) sc_law_cell_right.nd rfl (Or.inl rfl) (pe_callTy call_list_of (by rfl) T.n_list (by decide +kernel) (pa_cons (pv 5) pa_nil)))
 (pss_cons (ps_for PassesOwn.never rfl (pi_list (pv 5)) (pg_name (i := 7) sc_law_cell_right.nd rfl (Or.inr rfl))
 (pss_one (ps_set (i := 6) sc_law_cell_right.nd rfl (Or.inl rfl) (pe_op op_cat (pv 6) (pe_lc (own := [("_law_turn_here", 8)]) (by rfl) sc_law_cell_right.nd (pi_range1 (by rfl) T.n_range (pa_cons pe_int pa_nil)) (blkOk_by (own := [("_law_turn_here", 8)]) (N := ["_law_loom_here", "_law_deep", "_law_arrays", "_law_tree_here", "_law_place_here", "_law_rows", "_law_some", "_law_one", "_law_turn_here", "_law_value", "_law_told", "_law_due"]) (sc := defScope s_law_cell_right) (by decide +kernel)) (fun _ _ _ _ _ => (pg_name (i := 8) sc_law_cell_right.nd rfl (Or.inl rfl))) (fun _ _ _ _ _ => pts_nil) (fun _ _ _ _ _ => (pe_callD D_law_bent (hr.mono (by decide)) pass0 (pa_cons (pv 0) (pa_cons (pv 7) pa_nil)))))))))
 (pss_cons (ps_for PassesOwn.never rfl (pi_list (pv 6)) (pg_name (i := 9) sc_law_cell_right.nd rfl (Or.inr rfl))
 (pss_cons (ps_if (pt_cmpR op_ne (pe_callB (call_reprD hg hr) (by rfl) T.n_repr (by decide +kernel) (pa_cons (pe_callD D_is_tree (hr.mono (by decide)) pass0 (pa_cons (pv 9) pa_nil)) pa_nil)) (pe_callB (call_reprD hg hr) (by rfl) T.n_repr (by decide +kernel) (pa_cons (pe_callD D_law_is_tree (hr.mono (by decide)) pass0 (pa_cons (pv 9) (pa_cons pe_int pa_nil))) pa_nil)) (nomark _))
 (pss_one (ps_ret pe_bl))
 pss_nil)
 (pss_cons (ps_if (pt_cmpR op_ne (pe_callB (call_reprD hg hr) (by rfl) T.n_repr (by decide +kernel) (pa_cons (pe_callD D_is_statement (hr.mono (by decide)) pass0 (pa_cons (pv 9) pa_nil)) pa_nil)) (pe_callB (call_reprD hg hr) (by rfl) T.n_repr (by decide +kernel) (pa_cons (pe_callD D_law_is_statement (hr.mono (by decide)) pass0 (pa_cons (pv 9) pa_nil)) pa_nil)) (nomark _))
 (pss_one (ps_ret pe_bl))
 pss_nil)
 (pss_cons (ps_set (i := 10) sc_law_cell_right.nd rfl (Or.inl rfl) (pe_lst (pa_cons (LfT.pe_told (k := 11) D_law_word (by rfl) sc_law_word (by rfl) (by first | exact .inl rfl | exact .inr rfl | decide +kernel) (fun _ _ _ _ _ _ us hl => match us, hl with | [_], _ => rfl) (by decide +kernel) T.gA (fun _ => rfl) TB rfl (by rfl) (hr.mono (by decide)) (show LamX.LamS (defScope s_law_cell_right) _ from LamX.lamS_by (by decide +kernel)) rfl (fun _ _ _ _ _ => rfl) (fun _ _ _ _ _ _ _ hr => (pe_callD D_levels (hr.mono (by decide)) (passes_call (takes_of rfl rfl rfl rfl) (fun _ _ _ _ h => h)) (pa_cons (pv 9) pa_nil)))) pa_nil)))
 (pss_cons (ps_expr (pe_bm PySem.F.plainAttrs_list PySem.F.slot_list_append PySem.F.type_list_append mt_append (pv 10) (pa_cons (LfT.pe_told (k := 11) D_law_word (by rfl) sc_law_word (by rfl) (by first | exact .inl rfl | exact .inr rfl | decide +kernel) (fun _ _ _ _ _ _ us hl => match us, hl with | [_], _ => rfl) (by decide +kernel) T.gA (fun _ => rfl) TB rfl (by rfl) (hr.mono (by decide)) (show LamX.LamS (defScope s_law_cell_right) _ from LamX.lamS_by (by decide +kernel)) rfl (fun _ _ _ _ _ => rfl) (fun _ _ _ _ _ _ _ hr => (pe_callD D_nodes (hr.mono (by decide)) (passes_call (takes_of rfl rfl rfl rfl) (fun _ _ _ _ h => h)) (pa_cons (pv 9) pa_nil)))) pa_nil)))
 (pss_cons (ps_set (i := 11) sc_law_cell_right.nd rfl (Or.inl rfl) (pe_ifExp (pt_val (pe_callD D_law_is_tree (hr.mono (by decide)) pass0 (pa_cons (pv 9) (pa_cons pe_int pa_nil)))) (pe_lst (pa_cons (pe_callD D_law_count (hr.mono (by decide)) pass0 (pa_cons (pv 9) pa_nil)) (pa_cons (pe_callD D_law_working (hr.mono (by decide)) pass0 (pa_cons (pv 9) pa_nil)) pa_nil))) (pe_lst (pa_cons pe_str (pa_cons pe_str pa_nil)))))
 (pss_one (ps_if (pt_cmpR op_ne (pe_callB (call_reprD hg hr) (by rfl) T.n_repr (by decide +kernel) (pa_cons (pv 10) pa_nil)) (pe_callB (call_reprD hg hr) (by rfl) T.n_repr (by decide +kernel) (pa_cons (pv 11) pa_nil)) (nomark _))
 (pss_one (ps_ret pe_bl))
 pss_nil))))))))
 (pss_one (ps_ret pe_bl))))))))), ?_⟩
  have w0 : At Lm L (fun _ => none) H := ⟨(fun a o h => by cases h), rfl, xs, hL, hx⟩
  refine q_parR w0 (drs_cons (dr_opI (dr_int ev_c) (dr_turn rfl ev_c (by decide) (by decide))) (drs_cons (dr_of (evd_lst (evd_cons (evd_str ev_c (by decide)) (evd_cons (evd_str ev_c (by decide)) (evd_cons (evd_str ev_c (by decide)) evd_nil))) (by simp))) drs_nil)) (fun v1 v2 d1 d2 G1 H1 r1 p hd1 hd2 => ?_) ?_
  · obtain ⟨_, _, e, ⟨m, rfl, i, j, rfl, ⟨j0, j1⟩, rfl⟩, _, _, e2, rfl, rfl⟩ := p
    cases e
    cases e2
    cases hd1.int_
    refine q_asgR r1.w (dr_call (Post := postG 5) (Pre := preG 5) rfl (drs_of (evd_cons (evd_int (ev_var rfl)) (evd_cons (evd_lst (evd_cons (evd_str ev_c (by decide)) evd_nil) (by simp)) (evd_cons (evd_lst (evd_cons (evd_str ev_c (by decide)) (evd_cons (evd_str ev_c (by decide)) evd_nil)) (by simp)) (evd_cons (evd_var rfl hd2) evd_nil))))) (fun ds e => ⟨1 + j, e, by omega, by omega⟩)) (fun v3 dt G2 H2 r2 ⟨_, _, ht⟩ hd3 => ?_)
    have ht : Tre 5 dt := ht
    refine q_asgR r2.w (dr_call (Post := postE) (Pre := preE) rfl drs_nil (fun ds e => e)) (fun v4 dp G3 H3 r3 ⟨_, _, a, b, e4, ha, hb⟩ hd4 => ?_)
    subst e4
    have hd3' := hd3.up r3.g
    refine q_asgR r3.w (dr_of (evd_lst (evd_cons (evd_var rfl hd3') (evd_cons (evd_tup (evd_cons (evd_str ev_c (by decide)) (evd_cons (evd_str ev_c (by decide)) (evd_cons (evd_var rfl hd3') evd_nil))) (by simp)) (evd_cons (evd_tup (evd_cons (evd_str ev_c (by decide)) (evd_cons (evd_str ev_c (by decide)) (evd_cons (evd_str ev_c (by decide)) (evd_cons (evd_ixT (evd_var rfl hd4) ev_c (atI_nat (j := 0) rfl)) (evd_cons (evd_ixT (evd_var rfl hd4) ev_c (atI_nat (j := 1) rfl)) (evd_cons (evd_var rfl hd3') evd_nil)))))) (by simp)) (evd_cons (evd_tup (evd_cons (evd_str ev_c (by decide)) (evd_cons (evd_str ev_c (by decide)) (evd_cons (evd_var rfl hd3') evd_nil))) (by simp)) evd_nil)))) (by simp))) (fun v5 dr G4 H4 r4 e5 hd5 => ?_)
    obtain ⟨ds, rfl, hl4, hds⟩ : ∃ ds, dr = .list ds ∧ ds.length = 4 ∧ ∀ d ∈ ds, Tre 6 d := by
      refine ⟨_, e5, rfl, fun d hd => ?_⟩
      have sa := smI_show ⟨a, rfl, ha⟩
      have sb := smI_show ⟨b, rfl, hb⟩
      have up : ∀ (us : List PyData), us.length ≤ 40 → (∀ u ∈ us, u.showable = true) → Tre 6 (.tuple (us ++ [dt])) := fun us hu hs => by
        refine ⟨tup_sh fun d hd => ?_, by simp, by simp; omega, fun ys e _ => ?_⟩
        · rcases List.mem_append.mp hd with hd | hd
          · exact hs d hd
          · cases List.mem_singleton.mp hd
            exact ht.1
        · have : some dt = some (.tuple ys) := by rw [← e]; simp
          cases this
          exact ht.2
      simp only [List.mem_cons, List.not_mem_nil, or_false] at hd
      rcases hd with rfl | rfl | rfl | rfl
      · exact tre_le ht (by decide)
      · exact up [.str "set", .str "s"] (by simp) (fun u hu => by simp only [List.mem_cons, List.not_mem_nil, or_false] at hu; rcases hu with rfl | rfl <;> rfl)
      · exact up [.str "store", .str "s", .str "x", .int a, .int b] (by simp) (fun u hu => by simp only [List.mem_cons, List.not_mem_nil, or_false] at hu; rcases hu with rfl | rfl | rfl | rfl | rfl <;> first | rfl | assumption)
      · exact up [.str "op", .str "deep"] (by simp) (fun u hu => by simp only [List.mem_cons, List.not_mem_nil, or_false] at hu; rcases hu with rfl | rfl <;> rfl)
    refine q_asgR r4.w (dr_of (evd_listOfL (evd_var rfl hd5))) (fun v6 d6 G5 H5 r5 e6 hd6 => ?_)
    subst e6
    have r05 := (((r1.trans r2).trans r3).trans r4).trans r5
    have hd5' := hd5.up r5.g
    obtain ⟨ar, vr, rfl, er, hvr⟩ := hd5'.lst_
    -- the rows bent
    refine ⟨_, rfl, ar, rfl, ⟨vr, SqL.of (r5.s _ _ er)⟩, for_list (K := K) (a := ar) (xs := vr) (fun i σ' H' => ∃ G' v6 u7 u8 es, σ' = [some (.ref L), some (.int (1 + j)), some v2, some v3, some v4, some (.ref ar), some v6, u7, u8, none, none, none] ∧ GrB Lm L G5 H5 G' H' ∧ Da G' v6 (.list es) ∧ es.length = 4 + 6 * i ∧ ∀ d ∈ es, d.showable = true)
      ⟨G5, v6, none, none, ds, rfl, GrB.refl r05.w, hd6, by omega, fun d hd => (hds d hd).1⟩ ?_ ?_ ?_⟩
    · rintro i σ' H' _ ⟨G', v6, u7, u8, es, rfl, r, hd, _⟩
      exact SqL.of (r.s _ _ (r.g _ _ er))
    · rintro i x σ' H' hxi ⟨G', v6, u7, u8, es, rfl, r, hd, hel, hes⟩
      obtain ⟨d, hdi, hdv⟩ := hvr.at hxi
      have htd := hds d (List.mem_of_getElem? hdi)
      have hdv' := hdv.up r.g
      refine Dr.go (dr_catL (dr_of (evd_var rfl hd)) (dr_lcR (P := fun d => d.showable = true) (n := 6) (drs_of (evd_cons (evd_int ev_c) evd_nil)) (by decide) (fun _ => rfl) (fun k G7 x7 => (dr_call (Post := postB) (Pre := preB 6) rfl (drs_of (evd_cons (evd_var rfl (hdv'.up x7)) evd_nil)) (fun ds e => ⟨d, e, htd⟩)).imp fun d ⟨_, _, p⟩ => p)) ?_) r.w (fun v d' G7 H7 r7 p hd7 => ?_)
      · rintro es' ⟨h1, _⟩
        have := (List.getElem?_eq_some_iff.mp hxi).1
        rw [hvr.len, hl4] at this
        omega
      · obtain ⟨es', rfl, h1, h2⟩ := p
        refine ⟨G7, v, _, _, _, rfl, r.trans r7, hd7, by rw [List.length_append]; omega, fun d hd => ?_⟩
        rcases List.mem_append.mp hd with hd | hd
        · exact hes d hd
        · exact h2 d hd
    · rintro σ' H' ⟨G6, v6, u7, u8, es, rfl, r56, hd6, hel, hes⟩
      have r06 := r05.trans r56
      have data6 : ∀ a o, G6 a = some o → dataO o = true := fun a o h => by
        rcases r06.t a o h with z | z
        · cases z
        · exact z
      obtain ⟨xs6, hL6, hx6⟩ := r06.w.l
      have tb6 := tabs_exB tb r06.h hL
      have k6 : KeepN L H H' := KeepN.ofB r06.h
      obtain ⟨as, vs, rfl, ea, hvs⟩ := hd6.lst_
      refine ⟨_, rfl, as, rfl, ⟨vs, SqL.of (r06.s _ _ ea)⟩, for_list (K := K) (a := as) (xs := vs) (fun i σ' H' => ∃ u7 u8 u9 u10 u11, σ' = [some (.ref L), some (.int (1 + j)), some v2, some v3, some v4, some (.ref ar), some (.ref as), u7, u8, u9, u10, u11] ∧ Ex G6 H' ∧ H' L = some (.lst xs6) ∧ Tabs [(T0, lamQ)] H' ∧ KeepN L H H')
        ⟨_, _, _, _, _, rfl, r06.s, hL6, tb6, k6⟩ ?_ ?_ ?_⟩
      · rintro i σ' H' _ ⟨u7, u8, u9, u10, u11, rfl, s7, _⟩
        exact SqL.of (s7 _ _ ea)
      · rintro i x σ' H' hxi ⟨u7, u8, u9, u10, u11, rfl, s7, hL7, tb7, k7⟩
        obtain ⟨d, hdi, hdv⟩ := hvs.at hxi
        have hsd := hes d (List.mem_of_getElem? hdi)
        refine q_ifD s7 (et_is (et_test (ev_neR (K := K) (ev_reprB (ev_callB (evd_var rfl hdv))) (ev_reprB (ev_callL (m := 4) (evd_var rfl hdv) ev_c hsd (by decide) (by decide))) rfl)) rfl) (fun z => by cases z) (fun _ H8 x8 => ?_)
        refine q_ifD (s7.trans x8) (et_is (et_test (ev_neR (K := K) (ev_reprB (ev_callB (evd_var rfl hdv))) (ev_reprB (ev_callO1 (evd_var rfl hdv) hsd)) rfl)) rfl) (fun z => by cases z) (fun _ H9 x9 => ?_)
        have s9 := (s7.trans x8).trans x9
        have x79 := x8.trans x9
        refine told_lam hex rfl hdv data6 s9 (tb7.ext x79) fun va Ha ea1 ta sa da => ?_
        refine ⟨show 1 ≤ sizeLine by decide, fun p hp => ?_⟩
        have gp : G6 p = none := fresh_back sa hp
        have sb : Ex G6 (upd Ha p (.lst [va])) := sa.trans (Ex.new hp)
        have tb' : Tabs [(T0, lamQ)] (upd Ha p (.lst [va])) := ta.ext (Ex.new hp)
        refine ⟨_, rfl, .inl ⟨rfl, _, SqL.of upd_same⟩, ?_⟩
        refine told_lam hex rfl hdv data6 sb tb' fun vb Hb eb1 tb1 sb1 db => ?_
        have hpb : Hb p = some (.lst [va]) := eb1 p _ upd_same (fun ps z => by cases z)
        refine ⟨p, [va], vb, rfl, rfl, hpb, show 1 < sizeLine by decide, ?_⟩
        have sG : Ex (upd G6 p (.lst [va, vb])) (upd Hb p (.lst [va, vb])) := fun a o h => by
          by_cases e : a = p
          · subst e
            rw [upd_same] at h ⊢
            exact h
          · rw [upd_ne e] at h ⊢
            exact sb1 _ _ h
        have gG : Ex G6 (upd G6 p (.lst [va, vb])) := Ex.new gp
        have hdT : Da (upd G6 p (.lst [va, vb])) (.ref p) (.list [toldD (lvl 4) d, toldD (wrk 4) d]) := .lst upd_same (.cons (da _) (.cons (db _) .nil))
        have hdv' := hdv.up gG
        refine q_asgD (d := .list [toldD (lvl 4) d, toldD (wrk 4) d]) sG (evd_if (b := isTr 4 d) (et_B (ev_callL (m := 4) (evd_var rfl hdv') ev_c hsd (by decide) (by decide))) (fun c => EvD.is (evd_lst (evd_cons (evd_callO (e := .int (lvl 4 d)) (evd_var rfl hdv') ?_) (evd_cons (evd_callO (e := .int (wrk 4 d)) (evd_var rfl hdv') ?_) evd_nil)) (by simp)) ?_) (fun c => EvD.is (evd_lst (evd_cons (evd_str ev_c (by decide)) (evd_cons (evd_str ev_c (by decide)) evd_nil)) (by simp)) ?_)) (fun vc Gc Hc rc hdc => ?_)
        · unfold fLvl
          rw [if_pos c]
        · unfold fWrk
          rw [if_pos c]
        · unfold toldD
          rw [if_pos c, if_pos c]
        · unfold toldD
          rw [c, if_neg Bool.false_ne_true, if_neg Bool.false_ne_true]
        · obtain ⟨f1, f2, f3, f4, f5⟩ := told_show (f := lvl 4) (g := wrk 4) (d := d) (fun c => lvl_small c) (fun c => wrk_small c)
          refine (et_is (et_test (ev_neR (K := K) (ev_repr (evd_var rfl (hdT.up rc.g)) f1 f2 f3 f4 f5) (ev_repr (evd_var rfl hdc) f1 f2 f3 f4 f5) rfl)) rfl) Hc rc.s _ fun Hd xd => ?_
          have kk : KeepN L Ha Hd := fun a o na h t => by
            have ne : a ≠ p := fun e => by rw [e, hp] at h; cases h
            refine xd _ _ (rc.h _ _ ?_)
            rw [upd_ne ne]
            exact eb1 _ _ (by rw [upd_ne ne]; exact h) t
          have nL : L ≠ p := fun e => by
            have : Ha L = some (.lst xs6) := ea1 _ _ (x79 _ _ hL7) (fun ps z => by cases z)
            rw [e, hp] at this
            cases this
          refine ⟨_, _, _, _, _, rfl, (gG.trans rc.g).trans (rc.s.trans xd), ?_, ?_, k7.trans ((KeepN.of x79).trans ((KeepN.ofN ea1).trans kk))⟩
          · refine xd _ _ (rc.h _ _ ?_)
            rw [upd_ne nL]
            refine eb1 _ _ ?_ (fun ps z => by cases z)
            rw [upd_ne nL]
            exact ea1 _ _ (x79 _ _ hL7) (fun ps z => by cases z)
          · exact ((tabs_up tb1 hpb).ext rc.h).ext xd
      · rintro σ' H' ⟨u7, u8, u9, u10, u11, rfl, s7, hL7, tb7, k7⟩
        exact q H' xs6 k7 hL7 hx6 tb7
  · rintro ds ⟨_, _, rfl, _, _, _, rfl, _, rfl⟩
    rfl
end
end My
set_option maxHeartbeats 4000000
namespace My
open PySem L2 Lf Evl Tr LamX LfT
abbrev s_law : Stmt := top 45
theorem sc_law : FnScope ["_law_script", "_law_spot", "_law_loom_here", "_law_turn_here", "_law_four", "_law_some", "_law_one"] ["_law_script"] (defScope s_law) := ⟨rfl, rfl, rfl, by decide +kernel, rfl, by decide +kernel, by decide +kernel⟩
/-- the script is there, apart from the loom at p -/
def Sc (K : PySem.W.Frag) (a : Addr) (xs : List V) (p : Addr) (H : Hp) : Prop := (a ≠ p ∧ Rd H a (.lst xs)) ∨ SqL K (fun _ => none) a xs
theorem sc_of {K : PySem.W.Frag} {a p : Addr} {xs : List V} {H : Hp} (h : SqL K H a xs) (hp : H p = none) : Sc K a xs p H := by
  rcases h with h | h
  · refine .inl ⟨fun e => ?_, h⟩
    rcases h with h | ⟨o, h⟩
    · rw [e, hp] at h; cases h
    · rw [e, hp] at h; cases h
  · exact .inr (.inr h)
theorem sc_sq {K : PySem.W.Frag} {a p : Addr} {xs : List V} {H : Hp} (h : Sc K a xs p H) : SqL K H a xs := by
  rcases h with h | h
  · exact .inl h.2
  · rcases h with h | h
    · rcases h with h | ⟨o, h⟩ <;> cases h
    · exact .inr h
theorem sc_keep {K : PySem.W.Frag} {a p : Addr} {xs : List V} {H H' : Hp} (h : Sc K a xs p H) (k : KeepN p H H') : Sc K a xs p H' := by
  rcases h with ⟨n, h⟩ | h
  · refine .inl ⟨n, ?_⟩
    rcases h with h | ⟨o, h⟩
    · exact .inl (k a _ n h (fun ps z => by cases z))
    · exact .inr ⟨o, k a _ n h (fun ps z => by cases z)⟩
  · exact .inr h
def spLaw (K : PySem.W.Frag) (T : Addr) : Sp := fun vs H Q _ => ∃ (a : Addr) (ns : List Int), vs = [.ref a] ∧ SqL K H a (ns.map V.int) ∧ Tabs [(T, lamQ)] H ∧ ∀ H', Q (.bl true) H'
section
variable {K : PySem.W.Frag} {σ : L2.St} {G H : Hp} {ta tb te : TE} {ds es : List PyData} {d : PyData} {D : Ends} {tz : TS}
theorem q_catApp {i : Nat} (hi : i < σ.length) (s : Ex G H) (ha : EvD ta σ G (.list ds)) (hb : EvD tb σ G (.list es)) (he : ∀ p, EvD te (σ.set i (some (.ref p))) G d) (hl : ds.length + es.length ≤ 10000) (k : ∀ v G1 H1, Gr G H G1 H1 → Da G1 v (.list (ds ++ es ++ [d])) → tz D (σ.set i (some v)) H1) :
    tSeq (tAsg (tOp rCat ta tb) (gName i)) (tSeq (tDrop (tBM K "list" rAppend (tVar i) (tCons te tNil))) tz) D σ H := ha G H (Ex.refl _) s _ fun v G2 H2 r hd => hb G2 H2 r.g r.s _ fun w G3 H3 r2 he2 => by
  obtain ⟨a, xs, rfl, e1, h1⟩ := (hd.up r2.g).lst_
  obtain ⟨b, ys, rfl, e2, h2⟩ := he2.lst_
  have r3 := r.trans r2
  have hlen : (xs ++ ys).length ≤ 10000 := by rw [List.length_append, h1.len, h2.len]; exact hl
  refine ⟨a, b, xs, ys, rfl, rfl, r3.s _ _ e1, r3.s _ _ e2, by rw [h1.len, h2.len]; exact sz_of (by omega), fun p hp => ?_⟩
  have hσ : (σ.set i (some (V.ref p)))[i]? = some (some (V.ref p)) := by rw [List.getElem?_set_self hi]
  refine ⟨_, hσ, .inl ⟨rfl, _, SqL.of upd_same⟩, ?_⟩
  have gp : G3 p = none := fresh_back r3.s hp
  refine he p G3 _ r3.g (r3.s.trans (Ex.new hp)) _ fun v G4 H4 r4 hd4 => ?_
  have g4 : G4 p = none := r4.n p (by rw [upd_same]; exact fun z => by cases z) gp
  have h4 : H4 p = some (.lst (xs ++ ys)) := r4.h _ _ upd_same
  refine ⟨p, xs ++ ys, v, rfl, rfl, h4, sz_lt (by omega), ?_⟩
  have hp0 : H p = none := fresh_back r3.h hp
  refine k (.ref p) (upd G4 p (.lst (xs ++ ys ++ [v]))) _ ⟨?_, ?_, ?_, ?_, ?_⟩ (.lst upd_same (((h1.app h2).up (r4.g.trans (Ex.new g4))).app (.cons (hd4.up (Ex.new g4)) .nil)))
  · exact Ex.mut (r3.h.trans ((Ex.new hp).trans r4.h)) hp0
  · exact (r3.g.trans r4.g).trans (Ex.new g4)
  · intro c o h
    by_cases e : c = p
    · subst e
      rw [upd_same] at h ⊢
      exact h
    · rw [upd_ne e] at h ⊢
      exact r4.s _ _ h
  · intro c n1 n2
    have ne : c ≠ p := fun e => n1 (by rw [e]; exact hp0)
    rw [upd_ne ne]
    refine r4.n c ?_ (r3.n c n1 n2)
    rw [upd_ne ne]
    intro z
    cases e : H c with
    | none => exact n1 e
    | some o => rw [r3.h _ _ e] at z; cases z
  · intro c o h
    by_cases e : c = p
    · subst e
      rw [upd_same] at h
      cases h
      exact .inr rfl
    · rw [upd_ne e] at h
      rcases r4.t c o h with z | z
      · exact r3.t c o z
      · exact .inr z
theorem evd_callR {CA : Addr} {f : PyData → PyData} {E : XK} (h : EvD te σ G d) (c : isTr 4 d = true) : EvD (tCallD (spR CA f) E (tCons te tNil)) σ G (f d) := fun G1 H1 x s Q q => h G1 H1 x s _ fun v G2 H2 r hd =>
  ⟨G2, v, d, rfl, r.s, hd, fun _ v' G' H' r' hd' => q v' G' H' (r.trans r') hd', fun z => by rw [c] at z; cases z⟩
end
def dFour : PyData := .tuple [.str "op", .str "f", .tuple [.str "op", .str "g", .tuple [.str "op", .str "h", .tuple [.str "load", .str "a", .int ((10 : Int) ^ Int.toNat 30 - 1), .int (1 - (10 : Int) ^ Int.toNat 30)]]]]
def dSome : List PyData := [dFour, .tuple [.str "op", .str "f", dFour], .tuple [.str "op", .str "one"], .tuple [.str "at", .str "a", .int 3], .tuple [.str "at", .str "a", .int 4], .tuple [.str "at", .str "a", .bool true],
  .tuple [.str "load", .str "a", .int 1], .tuple [.str "load", .str "a", .int ((10 : Int) ^ Int.toNat 30), .int 0], .tuple [.str "op", .str "f", .str "a"], .list [.str "op", .str "one"], .none,
  .tuple [.str "op", .str "f", .tuple [.str "at", .str "a", .int 0], .tuple [.str "at", .str "a", .int 0], .tuple [.str "at", .str "a", .int 0], .tuple [.str "at", .str "a", .int 0]]]
def dOther : List PyData := [.tuple [.str "set", .str "a", .tuple [.str "at", .str "a", .int 1]], .tuple [.str "set", .str "a", .tuple [.str "op", .str "one"]], .tuple [.str "store", .str "a", .str "a", .int 0, .int 0, .tuple [.str "op", .str "one"]],
  .tuple [.str "store", .str "a", .str "a", .int (-1), .int 0, .tuple [.str "at", .str "a", .int 1]], .tuple [.str "store", .str "a", .int 1, .int 0, .tuple [.str "op", .str "one"]], .tuple [.str "set", .str "a", dFour, dFour]]
def bools1 : List PyData := [true, false, true, true, false, false, false, false, false, false, false, false].map PyData.bool
def bools2 : List PyData := [false, true, false, true, false, false].map PyData.bool
theorem some_told : dSome.map (isTr 4) = [true, false, true, true, false, false, false, false, false, false, false, false] := by decide +kernel
theorem other_told : dOther.map isSt = [false, true, false, true, false, false] := by decide +kernel
theorem four_tr : isTr 4 dFour = true := by decide +kernel
theorem four_told : [lvl 4 dFour, wrk 4 dFour, wrk 4 (.tuple [.str "at", .str "a", .int 0]), lvl 4 (.tuple [.str "op", .str "one"])] = [4, 4, 0, 1] := by decide +kernel
section
variable {P : Program} {w : World} {K : PySem.W.Frag} {mg : Str → Option Value} {base : Heap} {CA : Addr}
theorem ok_law {f0 T0 : Addr} {fd : FuncData} (T : Txt P K mg CA) (F : Fun K "law" "law" s_law f0 fd) (D_law_loom : DefOk P w K mg base CX0 1 "_law_loom" ["_law_script", "_law_spot"] (spLoom K))
    (D_law_cell_right : DefOkG P w K mg base CX0 14 "_law_cell_right" ["_law_loom_here"] (spCell T0)) (D_is_tree : DefOk P w K mg base CX0 9 "is_tree" ["value"] (spB (isTr 4))) (D_is_statement : DefOk P w K mg base CX0 10 "is_statement" ["value"] (spB isSt))
    (D_levels : DefOk P w K mg base (L2.CX P w) 11 "levels" ["tree"] (spR CA fun d => .int (lvl 4 d))) (D_nodes : DefOk P w K mg base (L2.CX P w) 11 "nodes" ["tree"] (spR CA fun d => .int (wrk 4 d))) :
    FnOkG P w K mg base CX0 15 f0 fd ["_law_script"] (spLaw K T0) := by
  refine F.okG sc_law (fun vs H Q E h => ?_) (fun cdv A outer s H vs Q E hg hr h => ?_)
  · obtain ⟨a, ns, rfl, _⟩ := h
    rfl
  obtain ⟨a, ns, rfl, hS, tb, q⟩ := h
  refine ⟨_, (pss_cons (ps_for PassesOwn.never rfl (pi_range1 (by rfl) T.n_range (pa_cons (pe_callB (call_max2 rfl) (by rfl) T.n_max (by decide +kernel) (pa_cons pe_int (pa_cons (pe_callB (call_min2 rfl) (by rfl) T.n_min (by decide +kernel) (pa_cons pe_int (pa_cons (pe_callB call_len_seq (by rfl) T.n_len (by decide +kernel) (pa_cons (pv 0) pa_nil)) pa_nil))) pa_nil))) pa_nil)) (pg_name (i := 1) sc_law.nd rfl (Or.inl rfl))
 (pss_cons (ps_set (i := 2) sc_law.nd rfl (Or.inl rfl) (pe_callD D_law_loom (hr.mono (by decide)) pass0 (pa_cons (pv 0) (pa_cons (pv 1) pa_nil))))
 (pss_one (ps_for PassesOwn.never rfl (pi_range1 (by rfl) T.n_range (pa_cons pe_int pa_nil)) (pg_name (i := 3) sc_law.nd rfl (Or.inl rfl))
 (pss_one (ps_if (pt_not (pt_val (pe_callDG D_law_cell_right hg (hr.mono (by decide)) pass0 (pa_cons (pv 2) pa_nil))))
 (pss_one (ps_ret pe_bl))
 pss_nil))))))
 (pss_cons (ps_set (i := 4) sc_law.nd rfl (Or.inl rfl) (pe_tup (pa_cons pe_str (pa_cons pe_str (pa_cons (pe_tup (pa_cons pe_str (pa_cons pe_str (pa_cons (pe_tup (pa_cons pe_str (pa_cons pe_str (pa_cons (pe_tup (pa_cons pe_str (pa_cons pe_str (pa_cons (pe_op op_sub (pe_op op_pow pe_int pe_int) pe_int) (pa_cons (pe_op op_sub pe_int (pe_op op_pow pe_int pe_int)) pa_nil))))) pa_nil)))) pa_nil)))) pa_nil)))))
 (pss_cons (ps_set (i := 5) sc_law.nd rfl (Or.inl rfl) (pe_lst (pa_cons (pv 4) (pa_cons (pe_tup (pa_cons pe_str (pa_cons pe_str (pa_cons (pv 4) pa_nil)))) (pa_cons (pe_tup (pa_cons pe_str (pa_cons pe_str pa_nil))) (pa_cons (pe_tup (pa_cons pe_str (pa_cons pe_str (pa_cons pe_int pa_nil)))) (pa_cons (pe_tup (pa_cons pe_str (pa_cons pe_str (pa_cons pe_int pa_nil)))) (pa_cons (pe_tup (pa_cons pe_str (pa_cons pe_str (pa_cons pe_bl pa_nil)))) pa_nil))))))))
 (pss_cons (ps_set (i := 5) sc_law.nd rfl (Or.inl rfl) (pe_op op_cat (pv 5) (pe_lst (pa_cons (pe_tup (pa_cons pe_str (pa_cons pe_str (pa_cons pe_int pa_nil)))) (pa_cons (pe_tup (pa_cons pe_str (pa_cons pe_str (pa_cons (pe_op op_pow pe_int pe_int) (pa_cons pe_int pa_nil))))) (pa_cons (pe_tup (pa_cons pe_str (pa_cons pe_str (pa_cons pe_str pa_nil)))) (pa_cons (pe_lst (pa_cons pe_str (pa_cons pe_str pa_nil))) (pa_cons pe_non pa_nil))))))))
 (pss_cons (ps_expr (pe_bm PySem.F.plainAttrs_list PySem.F.slot_list_append PySem.F.type_list_append mt_append (pv 5) (pa_cons (pe_op op_catA (pe_tup (pa_cons pe_str (pa_cons pe_str pa_nil))) (pe_op op_repT (pe_tup (pa_cons (pe_tup (pa_cons pe_str (pa_cons pe_str (pa_cons pe_int pa_nil)))) pa_nil)) pe_int)) pa_nil)))
 (pss_cons (ps_if (pt_cmpR (op_neD hr.units) (pe_lc (own := [("_law_one", 6)]) (by rfl) sc_law.nd (pi_list (pv 5)) (blkOk_by (own := [("_law_one", 6)]) (N := ["_law_script", "_law_spot", "_law_loom_here", "_law_turn_here", "_law_four", "_law_some", "_law_one"]) (sc := defScope s_law) (by decide +kernel)) (fun _ _ _ _ _ => (pg_name (i := 6) sc_law.nd rfl (Or.inl rfl))) (fun _ _ _ _ _ => pts_nil) (fun _ _ _ _ _ => (pe_callD D_is_tree (hr.mono (by decide)) pass0 (pa_cons (pv 6) pa_nil)))) (pe_op op_cat (pe_lst (pa_cons pe_bl (pa_cons pe_bl (pa_cons pe_bl (pa_cons pe_bl pa_nil))))) (pe_op op_rep (pe_lst (pa_cons pe_bl pa_nil)) pe_int)) (nomark _))
 (pss_one (ps_ret pe_bl))
 pss_nil)
 (pss_cons (ps_set (i := 5) sc_law.nd rfl (Or.inl rfl) (pe_lst (pa_cons (pe_tup (pa_cons pe_str (pa_cons pe_str (pa_cons (pe_tup (pa_cons pe_str (pa_cons pe_str (pa_cons pe_int pa_nil)))) pa_nil)))) (pa_cons (pe_tup (pa_cons pe_str (pa_cons pe_str (pa_cons (pe_tup (pa_cons pe_str (pa_cons pe_str pa_nil))) pa_nil)))) (pa_cons (pe_tup (pa_cons pe_str (pa_cons pe_str (pa_cons pe_str (pa_cons pe_int (pa_cons pe_int (pa_cons (pe_tup (pa_cons pe_str (pa_cons pe_str pa_nil))) pa_nil))))))) pa_nil)))))
 (pss_cons (ps_set (i := 5) sc_law.nd rfl (Or.inl rfl) (pe_op op_cat (pv 5) (pe_lst (pa_cons (pe_tup (pa_cons pe_str (pa_cons pe_str (pa_cons pe_str (pa_cons (pe_un un_neg pe_int) (pa_cons pe_int (pa_cons (pe_tup (pa_cons pe_str (pa_cons pe_str (pa_cons pe_int pa_nil)))) pa_nil))))))) (pa_cons (pe_tup (pa_cons pe_str (pa_cons pe_str (pa_cons pe_int (pa_cons pe_int (pa_cons (pe_tup (pa_cons pe_str (pa_cons pe_str pa_nil))) pa_nil)))))) pa_nil)))))
 (pss_cons (ps_expr (pe_bm PySem.F.plainAttrs_list PySem.F.slot_list_append PySem.F.type_list_append mt_append (pv 5) (pa_cons (pe_tup (pa_cons pe_str (pa_cons pe_str (pa_cons (pv 4) (pa_cons (pv 4) pa_nil))))) pa_nil)))
 (pss_cons (ps_if (pt_cmpR (op_neD hr.units) (pe_lc (own := [("_law_one", 6)]) (by rfl) sc_law.nd (pi_list (pv 5)) (blkOk_by (own := [("_law_one", 6)]) (N := ["_law_script", "_law_spot", "_law_loom_here", "_law_turn_here", "_law_four", "_law_some", "_law_one"]) (sc := defScope s_law) (by decide +kernel)) (fun _ _ _ _ _ => (pg_name (i := 6) sc_law.nd rfl (Or.inl rfl))) (fun _ _ _ _ _ => pts_nil) (fun _ _ _ _ _ => (pe_callD D_is_statement (hr.mono (by decide)) pass0 (pa_cons (pv 6) pa_nil)))) (pe_lst (pa_cons pe_bl (pa_cons pe_bl (pa_cons pe_bl (pa_cons pe_bl (pa_cons pe_bl (pa_cons pe_bl pa_nil))))))) (nomark _))
 (pss_one (ps_ret pe_bl))
 pss_nil)
 (pss_one (ps_ret (pe_cmpR (op_eqD hr.units) (pe_lst (pa_cons (pe_callD D_levels (hr.mono (by decide)) passL (pa_cons (pv 4) pa_nil)) (pa_cons (pe_callD D_nodes (hr.mono (by decide)) passL (pa_cons (pv 4) pa_nil)) (pa_cons (pe_callD D_nodes (hr.mono (by decide)) passL (pa_cons (pe_tup (pa_cons pe_str (pa_cons pe_str (pa_cons pe_int pa_nil)))) pa_nil)) (pa_cons (pe_callD D_levels (hr.mono (by decide)) passL (pa_cons (pe_tup (pa_cons pe_str (pa_cons pe_str pa_nil))) pa_nil)) pa_nil))))) (pe_lst (pa_cons pe_int (pa_cons pe_int (pa_cons pe_int (pa_cons pe_int pa_nil))))) (nomark _)))))))))))))), ?_⟩
  have hn : (1 : Int) ≤ (if (if ((ns.map V.int).length : Int) < 8 then ((ns.map V.int).length : Int) else 8) > 1 then (if ((ns.map V.int).length : Int) < 8 then ((ns.map V.int).length : Int) else 8) else 1) ∧ (if (if ((ns.map V.int).length : Int) < 8 then ((ns.map V.int).length : Int) else 8) > 1 then (if ((ns.map V.int).length : Int) < 8 then ((ns.map V.int).length : Int) else 8) else 1) ≤ 8 := by
    generalize ((ns.map V.int).length : Int) = z
    split <;> split <;> omega
  refine ⟨_, rfl, _, _, rfl, .inl hS, _, _, rfl, _, _, rfl, _, rfl, by omega, by omega, for_range (lo := 0) (fun i σ' H' => ∃ v1 v2 v3, σ' = [some (.ref a), v1, v2, v3, none, none, none] ∧ SqL K H' a (ns.map V.int) ∧ Tabs [(T0, lamQ)] H') ⟨_, _, _, rfl, hS, tb⟩ ?_ ?_⟩
  · rintro i σ' H' _ ⟨v1, v2, v3, rfl, hS, tb⟩
    refine ⟨_, rfl, _, rfl, a, ns, i, by rw [Int.zero_add], hS, fun p xs hp hx => ?_⟩
    refine ⟨2, rfl, by decide, by decide, for_range (lo := 0) (n := 2) (fun k σ'' H'' => ∃ v3 xs', σ'' = [some (.ref a), some (.int (0 + (i : Int))), some (.ref p), v3, none, none, none] ∧ H'' p = some (.lst xs') ∧ Lm xs' ∧ Tabs [(T0, lamQ)] H'' ∧ Sc K a (ns.map V.int) p H'')
      ⟨_, xs, rfl, upd_same, hx, tb.ext (Ex.new hp), sc_keep (sc_of hS hp) (KeepN.of (Ex.new hp))⟩ ?_ ?_⟩
    · rintro k σ'' H'' _ ⟨v3, xs', rfl, hp2, hx2, tb2, sc2⟩
      refine ⟨_, rfl, p, xs', rfl, hp2, hx2, tb2, fun H3 xs3 k3 hp3 hx3 tb3 => ⟨true, rfl, if_no rfl ?_⟩⟩
      exact ⟨_, xs3, rfl, hp3, hx3, tb3, sc_keep sc2 k3⟩
    · rintro σ'' H'' ⟨v3, xs', rfl, hp2, hx2, tb2, sc2⟩
      exact ⟨_, _, _, rfl, sc_sq sc2, tb2⟩
  · rintro σ' H' ⟨v1, v2, v3, rfl, hS, tb⟩
    have s0 : Ex (fun _ => none) H' := fun a o h => by cases h
    have p30 : CPow 10 30 := cpow 10 30 (by decide) (by decide)
    have st : ∀ {σ : L2.St} {G : Hp} {z : Str}, z.length ≤ 1000 → EvD (tC (.str z)) σ G (.str z) := fun h => evd_str ev_c h
    have pw : ∀ {σ : L2.St} {G : Hp}, Ev (tOp (rI CPow fun i j => .int (i ^ j.toNat)) (tC (.int 10)) (tC (.int 30))) σ G (.int ((10 : Int) ^ Int.toNat 30)) := EvD.int_ (evd_pow p30)
    refine q_asgD (d := dFour) s0 (evd_tup (evd_cons (st (by decide)) (evd_cons (st (by decide)) (evd_cons (evd_tup (evd_cons (st (by decide)) (evd_cons (st (by decide)) (evd_cons (evd_tup (evd_cons (st (by decide)) (evd_cons (st (by decide)) (evd_cons (evd_tup (evd_cons (st (by decide)) (evd_cons (st (by decide)) (evd_cons (evd_int (ev_op pw ev_c rv_I0)) (evd_cons (evd_int (ev_op ev_c pw rv_I0)) evd_nil)))) (by simp)) evd_nil))) (by simp)) evd_nil))) (by simp)) evd_nil))) (by simp)) (fun v4 G1 H1 r1 hd4 => ?_)
    refine q_asgD (d := .list (dSome.take 6)) r1.s (evd_lst (evd_cons (evd_var rfl hd4) (evd_cons (evd_tup (evd_cons (st (by decide)) (evd_cons (st (by decide)) (evd_cons (evd_var rfl hd4) evd_nil))) (by simp)) (evd_cons (evd_tup (evd_cons (st (by decide)) (evd_cons (st (by decide)) evd_nil)) (by simp)) (evd_cons (evd_tup (evd_cons (st (by decide)) (evd_cons (st (by decide)) (evd_cons (evd_int ev_c) evd_nil))) (by simp)) (evd_cons (evd_tup (evd_cons (st (by decide)) (evd_cons (st (by decide)) (evd_cons (evd_int ev_c) evd_nil))) (by simp)) (evd_cons (evd_tup (evd_cons (st (by decide)) (evd_cons (st (by decide)) (evd_cons (evd_bl ev_c) evd_nil))) (by simp)) evd_nil)))))) (show 6 ≤ 100000 by decide)) (fun v5 G2 H2 r2 hd5 => ?_)
    have at0 : ∀ {σ : L2.St} {G : Hp}, EvD (tTup (tCons (tC (.str "at")) (tCons (tC (.str "a")) (tCons (tC (.int 0)) tNil)))) σ G (.tuple [.str "at", .str "a", .int 0]) := evd_tup (evd_cons (st (by decide)) (evd_cons (st (by decide)) (evd_cons (evd_int ev_c) evd_nil))) (by simp)
    refine q_catApp (by simp) r2.s (evd_var rfl hd5) (evd_lst (evd_cons (evd_tup (evd_cons (st (by decide)) (evd_cons (st (by decide)) (evd_cons (evd_int ev_c) evd_nil))) (by simp)) (evd_cons (evd_tup (evd_cons (st (by decide)) (evd_cons (st (by decide)) (evd_cons (evd_int pw) (evd_cons (evd_int ev_c) evd_nil)))) (by simp)) (evd_cons (evd_tup (evd_cons (st (by decide)) (evd_cons (st (by decide)) (evd_cons (st (by decide)) evd_nil))) (by simp)) (evd_cons (evd_lst (evd_cons (st (by decide)) (evd_cons (st (by decide)) evd_nil)) (by simp)) (evd_cons (evd_non ev_c) evd_nil))))) (by simp)) (fun p => evd_cat (evd_tup (evd_cons (st (by decide)) (evd_cons (st (by decide)) evd_nil)) (by simp)) (evd_repT (evd_tup (evd_cons at0 evd_nil) (by simp)) ev_c (by decide) (by decide) (by simp) (by simp)) (by simp)) (by simp [dSome]) (fun v6 G3 H3 r3 hd6 => ?_)
    have hd6 : Da G3 v6 (.list dSome) := hd6
    have len12 : dSome.length = 12 := rfl
    have e1 : (dSome.map fun t => PyData.bool (isTr 4 t)) = bools1 := by
      have := congrArg (List.map PyData.bool) some_told
      rw [List.map_map] at this
      exact this
    refine q_ifD r3.s (et_is (b := false) (et_test (ev_neD (d := .list bools1) (e := .list bools1) (EvD.is (evd_lcL (fun _ => true) (fun t => .bool (isTr 4 t)) (evd_var rfl hd6) (by rw [len12]; decide) (fun _ => rfl) (fun d _ v G1 _ _ => et_yes (b := true)) (fun d _ _ v G1 _ hv => evd_bl (ev_callB (evd_var rfl hv)))) (by rw [filter_yes, e1])) (EvD.is (evd_catL (evd_lst (evd_cons (evd_bl ev_c) (evd_cons (evd_bl ev_c) (evd_cons (evd_bl ev_c) (evd_cons (evd_bl ev_c) evd_nil)))) (by simp)) (evd_repL (n := 8) (evd_lst (evd_cons (evd_bl ev_c) evd_nil) (by simp)) ev_c (by decide) (by decide) (by simp)) (by simp)) rfl) rfl rfl (by decide +kernel) (by decide +kernel))) (by decide +kernel)) (fun z => by cases z) (fun _ H4 x4 => ?_)
    have s4 := r3.s.trans x4
    have hd43 := hd4.up (r2.g.trans r3.g)
    refine q_asgD (d := .list (dOther.take 3)) s4 (evd_lst (evd_cons (evd_tup (evd_cons (st (by decide)) (evd_cons (st (by decide)) (evd_cons (evd_tup (evd_cons (st (by decide)) (evd_cons (st (by decide)) (evd_cons (evd_int ev_c) evd_nil))) (by simp)) evd_nil))) (by simp)) (evd_cons (evd_tup (evd_cons (st (by decide)) (evd_cons (st (by decide)) (evd_cons (evd_tup (evd_cons (st (by decide)) (evd_cons (st (by decide)) evd_nil)) (by simp)) evd_nil))) (by simp)) (evd_cons (evd_tup (evd_cons (st (by decide)) (evd_cons (st (by decide)) (evd_cons (st (by decide)) (evd_cons (evd_int ev_c) (evd_cons (evd_int ev_c) (evd_cons (evd_tup (evd_cons (st (by decide)) (evd_cons (st (by decide)) evd_nil)) (by simp)) evd_nil)))))) (by simp)) evd_nil))) (show 3 ≤ 100000 by decide)) (fun v7 G5 H5 r5 hd7 => ?_)
    have hd45 := hd43.up r5.g
    refine q_catApp (by simp) r5.s (evd_var rfl hd7) (evd_lst (evd_cons (evd_tup (evd_cons (st (by decide)) (evd_cons (st (by decide)) (evd_cons (st (by decide)) (evd_cons (evd_int (ev_un ev_c ru_neg)) (evd_cons (evd_int ev_c) (evd_cons (evd_tup (evd_cons (st (by decide)) (evd_cons (st (by decide)) (evd_cons (evd_int ev_c) evd_nil))) (by simp)) evd_nil)))))) (by simp)) (evd_cons (evd_tup (evd_cons (st (by decide)) (evd_cons (st (by decide)) (evd_cons (evd_int ev_c) (evd_cons (evd_int ev_c) (evd_cons (evd_tup (evd_cons (st (by decide)) (evd_cons (st (by decide)) evd_nil)) (by simp)) evd_nil))))) (by simp)) evd_nil)) (by simp)) (fun p => evd_tup (evd_cons (st (by decide)) (evd_cons (st (by decide)) (evd_cons (evd_var rfl hd45) (evd_cons (evd_var rfl hd45) evd_nil)))) (by simp)) (by simp [dOther]) (fun v8 G6 H6 r6 hd8 => ?_)
    have hd8 : Da G6 v8 (.list dOther) := hd8
    have len6 : dOther.length = 6 := rfl
    have e2 : (dOther.map fun t => PyData.bool (isSt t)) = bools2 := by
      have := congrArg (List.map PyData.bool) other_told
      rw [List.map_map] at this
      exact this
    refine q_ifD r6.s (et_is (b := false) (et_test (ev_neD (d := .list bools2) (e := .list bools2) (EvD.is (evd_lcL (fun _ => true) (fun t => .bool (isSt t)) (evd_var rfl hd8) (by rw [len6]; decide) (fun _ => rfl) (fun d _ v G1 _ _ => et_yes (b := true)) (fun d _ _ v G1 _ hv => evd_bl (ev_callB (evd_var rfl hv)))) (by rw [filter_yes, e2])) (EvD.is (evd_lst (evd_cons (evd_bl ev_c) (evd_cons (evd_bl ev_c) (evd_cons (evd_bl ev_c) (evd_cons (evd_bl ev_c) (evd_cons (evd_bl ev_c) (evd_cons (evd_bl ev_c) evd_nil)))))) (by simp)) rfl) rfl rfl (by decide +kernel) (by decide +kernel))) (by decide +kernel)) (fun z => by cases z) (fun _ H7 x7 => ?_)
    have hd46 := hd45.up r6.g
    have e3 : [PyData.int (lvl 4 dFour), .int (wrk 4 dFour), .int (wrk 4 (.tuple [.str "at", .str "a", .int 0])), .int (lvl 4 (.tuple [.str "op", .str "one"]))] = [.int 4, .int 4, .int 0, .int 1] := congrArg (List.map PyData.int) four_told
    refine Ev.ret (r6.s.trans x7) (ev_is (w := .bl true) (ev_eqD (d := .list [.int 4, .int 4, .int 0, .int 1]) (e := .list [.int 4, .int 4, .int 0, .int 1]) (EvD.is (evd_lst (evd_cons (evd_callR (evd_var rfl hd46) four_tr) (evd_cons (evd_callR (evd_var rfl hd46) four_tr) (evd_cons (evd_callR at0 (by decide +kernel)) (evd_cons (evd_callR (evd_tup (evd_cons (st (by decide)) (evd_cons (st (by decide)) evd_nil)) (by simp)) (by decide +kernel)) evd_nil)))) (by simp)) (congrArg PyData.list e3)) (evd_lst (evd_cons (evd_int ev_c) (evd_cons (evd_int ev_c) (evd_cons (evd_int ev_c) (evd_cons (evd_int ev_c) evd_nil)))) (by simp)) rfl rfl (by decide +kernel) (by decide +kernel)) (congrArg V.bl (by decide +kernel))) (fun H8 _ => q H8)
end
end My
set_option maxHeartbeats 8000000
namespace My
open PySem L2 Lf Evl Tr LamX LfT
theorem all_mk {P : Program} {w : World} {K : PySem.W.Frag} {h : Heap} {mg : Str → Option Value} {fa CA cT T0 : Addr} (X : K.In h) (G : h.Ns mainGlobals mg) (hfa : mg "law" = some (.ref fa))
    {f0 : Addr} {od0 an0 : Option Addr} {sl0 : Array (Option Value)} {oc0 kV0 dc0 pm0 cd0 ct0 : Value}
    (a0 : PySem.W.nsIn K mainGlobals "is_name" = some (some (.ref f0))) (l0 : K.lookup f0 = some ⟨oc0, od0, .func (PySem.W.fnOf "is_name" "is_name" (defArgs s_is_name) (defBody s_is_name) (defScope s_is_name) .none kV0 dc0 pm0 an0 cd0 ct0), sl0⟩) (c0 : PySem.W.codeIn K cd0 "is_name" = true) (k0 : PySem.W.keepIn K (.ref f0) = true)
    {f1 : Addr} {od1 an1 : Option Addr} {sl1 : Array (Option Value)} {oc1 kV1 dc1 pm1 cd1 ct1 : Value}
    (a1 : PySem.W.nsIn K mainGlobals "is_number" = some (some (.ref f1))) (l1 : K.lookup f1 = some ⟨oc1, od1, .func (PySem.W.fnOf "is_number" "is_number" (defArgs s_is_number) (defBody s_is_number) (defScope s_is_number) .none kV1 dc1 pm1 an1 cd1 ct1), sl1⟩) (c1 : PySem.W.codeIn K cd1 "is_number" = true) (k1 : PySem.W.keepIn K (.ref f1) = true)
    {f2 : Addr} {od2 an2 : Option Addr} {sl2 : Array (Option Value)} {oc2 kV2 dc2 pm2 cd2 ct2 : Value}
    (a2 : PySem.W.nsIn K mainGlobals "is_integer" = some (some (.ref f2))) (l2 : K.lookup f2 = some ⟨oc2, od2, .func (PySem.W.fnOf "is_integer" "is_integer" (defArgs s_is_integer) (defBody s_is_integer) (defScope s_is_integer) .none kV2 dc2 pm2 an2 cd2 ct2), sl2⟩) (c2 : PySem.W.codeIn K cd2 "is_integer" = true) (k2 : PySem.W.keepIn K (.ref f2) = true)
    {f3 : Addr} {od3 an3 : Option Addr} {sl3 : Array (Option Value)} {oc3 kV3 dc3 pm3 cd3 ct3 : Value}
    (a3 : PySem.W.nsIn K mainGlobals "is_within" = some (some (.ref f3))) (l3 : K.lookup f3 = some ⟨oc3, od3, .func (PySem.W.fnOf "is_within" "is_within" (defArgs s_is_within) (defBody s_is_within) (defScope s_is_within) .none kV3 dc3 pm3 an3 cd3 ct3), sl3⟩) (c3 : PySem.W.codeIn K cd3 "is_within" = true) (k3 : PySem.W.keepIn K (.ref f3) = true)
    {f4 : Addr} {od4 an4 : Option Addr} {sl4 : Array (Option Value)} {oc4 kV4 dc4 pm4 cd4 ct4 : Value}
    (a4 : PySem.W.nsIn K mainGlobals "is_tree_of" = some (some (.ref f4))) (l4 : K.lookup f4 = some ⟨oc4, od4, .func (PySem.W.fnOf "is_tree_of" "is_tree_of" (defArgs s_is_tree_of) (defBody s_is_tree_of) (defScope s_is_tree_of) .none kV4 dc4 pm4 an4 cd4 ct4), sl4⟩) (c4 : PySem.W.codeIn K cd4 "is_tree_of" = true) (k4 : PySem.W.keepIn K (.ref f4) = true)
    {f5 : Addr} {od5 an5 : Option Addr} {sl5 : Array (Option Value)} {oc5 kV5 dc5 pm5 cd5 ct5 : Value}
    (a5 : PySem.W.nsIn K mainGlobals "is_tree" = some (some (.ref f5))) (l5 : K.lookup f5 = some ⟨oc5, od5, .func (PySem.W.fnOf "is_tree" "is_tree" (defArgs s_is_tree) (defBody s_is_tree) (defScope s_is_tree) .none kV5 dc5 pm5 an5 cd5 ct5), sl5⟩) (c5 : PySem.W.codeIn K cd5 "is_tree" = true) (k5 : PySem.W.keepIn K (.ref f5) = true)
    {f6 : Addr} {od6 an6 : Option Addr} {sl6 : Array (Option Value)} {oc6 kV6 dc6 pm6 cd6 ct6 : Value}
    (a6 : PySem.W.nsIn K mainGlobals "is_statement" = some (some (.ref f6))) (l6 : K.lookup f6 = some ⟨oc6, od6, .func (PySem.W.fnOf "is_statement" "is_statement" (defArgs s_is_statement) (defBody s_is_statement) (defScope s_is_statement) .none kV6 dc6 pm6 an6 cd6 ct6), sl6⟩) (c6 : PySem.W.codeIn K cd6 "is_statement" = true) (k6 : PySem.W.keepIn K (.ref f6) = true)
    {f7 : Addr} {od7 an7 : Option Addr} {sl7 : Array (Option Value)} {oc7 kV7 dc7 pm7 cd7 ct7 : Value}
    (a7 : PySem.W.nsIn K mainGlobals "require_tree" = some (some (.ref f7))) (l7 : K.lookup f7 = some ⟨oc7, od7, .func (PySem.W.fnOf "require_tree" "require_tree" (defArgs s_require_tree) (defBody s_require_tree) (defScope s_require_tree) .none kV7 dc7 pm7 an7 cd7 ct7), sl7⟩) (c7 : PySem.W.codeIn K cd7 "require_tree" = true) (k7 : PySem.W.keepIn K (.ref f7) = true)
    {f8 : Addr} {od8 an8 : Option Addr} {sl8 : Array (Option Value)} {oc8 kV8 dc8 pm8 cd8 ct8 : Value}
    (a8 : PySem.W.nsIn K mainGlobals "subtrees" = some (some (.ref f8))) (l8 : K.lookup f8 = some ⟨oc8, od8, .func (PySem.W.fnOf "subtrees" "subtrees" (defArgs s_subtrees) (defBody s_subtrees) (defScope s_subtrees) .none kV8 dc8 pm8 an8 cd8 ct8), sl8⟩) (c8 : PySem.W.codeIn K cd8 "subtrees" = true) (k8 : PySem.W.keepIn K (.ref f8) = true)
    {f9 : Addr} {od9 an9 : Option Addr} {sl9 : Array (Option Value)} {oc9 kV9 dc9 pm9 cd9 ct9 : Value}
    (a9 : PySem.W.nsIn K mainGlobals "nodes_below" = some (some (.ref f9))) (l9 : K.lookup f9 = some ⟨oc9, od9, .func (PySem.W.fnOf "nodes_below" "nodes_below" (defArgs s_nodes_below) (defBody s_nodes_below) (defScope s_nodes_below) .none kV9 dc9 pm9 an9 cd9 ct9), sl9⟩) (c9 : PySem.W.codeIn K cd9 "nodes_below" = true) (k9 : PySem.W.keepIn K (.ref f9) = true)
    {f10 : Addr} {od10 an10 : Option Addr} {sl10 : Array (Option Value)} {oc10 kV10 dc10 pm10 cd10 ct10 : Value}
    (a10 : PySem.W.nsIn K mainGlobals "level_count" = some (some (.ref f10))) (l10 : K.lookup f10 = some ⟨oc10, od10, .func (PySem.W.fnOf "level_count" "level_count" (defArgs s_level_count) (defBody s_level_count) (defScope s_level_count) .none kV10 dc10 pm10 an10 cd10 ct10), sl10⟩) (c10 : PySem.W.codeIn K cd10 "level_count" = true) (k10 : PySem.W.keepIn K (.ref f10) = true)
    {f11 : Addr} {od11 an11 : Option Addr} {sl11 : Array (Option Value)} {oc11 kV11 dc11 pm11 cd11 ct11 : Value}
    (a11 : PySem.W.nsIn K mainGlobals "levels" = some (some (.ref f11))) (l11 : K.lookup f11 = some ⟨oc11, od11, .func (PySem.W.fnOf "levels" "levels" (defArgs s_levels) (defBody s_levels) (defScope s_levels) .none kV11 dc11 pm11 an11 cd11 ct11), sl11⟩) (c11 : PySem.W.codeIn K cd11 "levels" = true) (k11 : PySem.W.keepIn K (.ref f11) = true)
    {f12 : Addr} {od12 an12 : Option Addr} {sl12 : Array (Option Value)} {oc12 kV12 dc12 pm12 cd12 ct12 : Value}
    (a12 : PySem.W.nsIn K mainGlobals "nodes" = some (some (.ref f12))) (l12 : K.lookup f12 = some ⟨oc12, od12, .func (PySem.W.fnOf "nodes" "nodes" (defArgs s_nodes) (defBody s_nodes) (defScope s_nodes) .none kV12 dc12 pm12 an12 cd12 ct12), sl12⟩) (c12 : PySem.W.codeIn K cd12 "nodes" = true) (k12 : PySem.W.keepIn K (.ref f12) = true)
    {f13 : Addr} {od13 an13 : Option Addr} {sl13 : Array (Option Value)} {oc13 kV13 dc13 pm13 cd13 ct13 : Value}
    (a13 : PySem.W.nsIn K mainGlobals "_law_loom" = some (some (.ref f13))) (l13 : K.lookup f13 = some ⟨oc13, od13, .func (PySem.W.fnOf "_law_loom" "_law_loom" (defArgs s_law_loom) (defBody s_law_loom) (defScope s_law_loom) .none kV13 dc13 pm13 an13 cd13 ct13), sl13⟩) (c13 : PySem.W.codeIn K cd13 "_law_loom" = true) (k13 : PySem.W.keepIn K (.ref f13) = true)
    {f14 : Addr} {od14 an14 : Option Addr} {sl14 : Array (Option Value)} {oc14 kV14 dc14 pm14 cd14 ct14 : Value}
    (a14 : PySem.W.nsIn K mainGlobals "_law_turn" = some (some (.ref f14))) (l14 : K.lookup f14 = some ⟨oc14, od14, .func (PySem.W.fnOf "_law_turn" "_law_turn" (defArgs s_law_turn) (defBody s_law_turn) (defScope s_law_turn) .none kV14 dc14 pm14 an14 cd14 ct14), sl14⟩) (c14 : PySem.W.codeIn K cd14 "_law_turn" = true) (k14 : PySem.W.keepIn K (.ref f14) = true)
    {f15 : Addr} {od15 an15 : Option Addr} {sl15 : Array (Option Value)} {oc15 kV15 dc15 pm15 cd15 ct15 : Value}
    (a15 : PySem.W.nsIn K mainGlobals "_law_pick" = some (some (.ref f15))) (l15 : K.lookup f15 = some ⟨oc15, od15, .func (PySem.W.fnOf "_law_pick" "_law_pick" (defArgs s_law_pick) (defBody s_law_pick) (defScope s_law_pick) .none kV15 dc15 pm15 an15 cd15 ct15), sl15⟩) (c15 : PySem.W.codeIn K cd15 "_law_pick" = true) (k15 : PySem.W.keepIn K (.ref f15) = true)
    {f16 : Addr} {od16 an16 : Option Addr} {sl16 : Array (Option Value)} {oc16 kV16 dc16 pm16 cd16 ct16 : Value}
    (a16 : PySem.W.nsIn K mainGlobals "_law_place" = some (some (.ref f16))) (l16 : K.lookup f16 = some ⟨oc16, od16, .func (PySem.W.fnOf "_law_place" "_law_place" (defArgs s_law_place) (defBody s_law_place) (defScope s_law_place) .none kV16 dc16 pm16 an16 cd16 ct16), sl16⟩) (c16 : PySem.W.codeIn K cd16 "_law_place" = true) (k16 : PySem.W.keepIn K (.ref f16) = true)
    {f17 : Addr} {od17 an17 : Option Addr} {sl17 : Array (Option Value)} {oc17 kV17 dc17 pm17 cd17 ct17 : Value}
    (a17 : PySem.W.nsIn K mainGlobals "_law_leaf" = some (some (.ref f17))) (l17 : K.lookup f17 = some ⟨oc17, od17, .func (PySem.W.fnOf "_law_leaf" "_law_leaf" (defArgs s_law_leaf) (defBody s_law_leaf) (defScope s_law_leaf) .none kV17 dc17 pm17 an17 cd17 ct17), sl17⟩) (c17 : PySem.W.codeIn K cd17 "_law_leaf" = true) (k17 : PySem.W.keepIn K (.ref f17) = true)
    {f18 : Addr} {od18 an18 : Option Addr} {sl18 : Array (Option Value)} {oc18 kV18 dc18 pm18 cd18 ct18 : Value}
    (a18 : PySem.W.nsIn K mainGlobals "_law_tree" = some (some (.ref f18))) (l18 : K.lookup f18 = some ⟨oc18, od18, .func (PySem.W.fnOf "_law_tree" "_law_tree" (defArgs s_law_tree) (defBody s_law_tree) (defScope s_law_tree) .none kV18 dc18 pm18 an18 cd18 ct18), sl18⟩) (c18 : PySem.W.codeIn K cd18 "_law_tree" = true) (k18 : PySem.W.keepIn K (.ref f18) = true)
    {f19 : Addr} {od19 an19 : Option Addr} {sl19 : Array (Option Value)} {oc19 kV19 dc19 pm19 cd19 ct19 : Value}
    (a19 : PySem.W.nsIn K mainGlobals "_law_working" = some (some (.ref f19))) (l19 : K.lookup f19 = some ⟨oc19, od19, .func (PySem.W.fnOf "_law_working" "_law_working" (defArgs s_law_working) (defBody s_law_working) (defScope s_law_working) .none kV19 dc19 pm19 an19 cd19 ct19), sl19⟩) (c19 : PySem.W.codeIn K cd19 "_law_working" = true) (k19 : PySem.W.keepIn K (.ref f19) = true)
    {f20 : Addr} {od20 an20 : Option Addr} {sl20 : Array (Option Value)} {oc20 kV20 dc20 pm20 cd20 ct20 : Value}
    (a20 : PySem.W.nsIn K mainGlobals "_law_is_name" = some (some (.ref f20))) (l20 : K.lookup f20 = some ⟨oc20, od20, .func (PySem.W.fnOf "_law_is_name" "_law_is_name" (defArgs s_law_is_name) (defBody s_law_is_name) (defScope s_law_is_name) .none kV20 dc20 pm20 an20 cd20 ct20), sl20⟩) (c20 : PySem.W.codeIn K cd20 "_law_is_name" = true) (k20 : PySem.W.keepIn K (.ref f20) = true)
    {f21 : Addr} {od21 an21 : Option Addr} {sl21 : Array (Option Value)} {oc21 kV21 dc21 pm21 cd21 ct21 : Value}
    (a21 : PySem.W.nsIn K mainGlobals "_law_is_number" = some (some (.ref f21))) (l21 : K.lookup f21 = some ⟨oc21, od21, .func (PySem.W.fnOf "_law_is_number" "_law_is_number" (defArgs s_law_is_number) (defBody s_law_is_number) (defScope s_law_is_number) .none kV21 dc21 pm21 an21 cd21 ct21), sl21⟩) (c21 : PySem.W.codeIn K cd21 "_law_is_number" = true) (k21 : PySem.W.keepIn K (.ref f21) = true)
    {f22 : Addr} {od22 an22 : Option Addr} {sl22 : Array (Option Value)} {oc22 kV22 dc22 pm22 cd22 ct22 : Value}
    (a22 : PySem.W.nsIn K mainGlobals "_law_is_tree" = some (some (.ref f22))) (l22 : K.lookup f22 = some ⟨oc22, od22, .func (PySem.W.fnOf "_law_is_tree" "_law_is_tree" (defArgs s_law_is_tree) (defBody s_law_is_tree) (defScope s_law_is_tree) .none kV22 dc22 pm22 an22 cd22 ct22), sl22⟩) (c22 : PySem.W.codeIn K cd22 "_law_is_tree" = true) (k22 : PySem.W.keepIn K (.ref f22) = true)
    {f23 : Addr} {od23 an23 : Option Addr} {sl23 : Array (Option Value)} {oc23 kV23 dc23 pm23 cd23 ct23 : Value}
    (a23 : PySem.W.nsIn K mainGlobals "_law_is_statement" = some (some (.ref f23))) (l23 : K.lookup f23 = some ⟨oc23, od23, .func (PySem.W.fnOf "_law_is_statement" "_law_is_statement" (defArgs s_law_is_statement) (defBody s_law_is_statement) (defScope s_law_is_statement) .none kV23 dc23 pm23 an23 cd23 ct23), sl23⟩) (c23 : PySem.W.codeIn K cd23 "_law_is_statement" = true) (k23 : PySem.W.keepIn K (.ref f23) = true)
    {f24 : Addr} {od24 an24 : Option Addr} {sl24 : Array (Option Value)} {oc24 kV24 dc24 pm24 cd24 ct24 : Value}
    (a24 : PySem.W.nsIn K mainGlobals "_law_bent" = some (some (.ref f24))) (l24 : K.lookup f24 = some ⟨oc24, od24, .func (PySem.W.fnOf "_law_bent" "_law_bent" (defArgs s_law_bent) (defBody s_law_bent) (defScope s_law_bent) .none kV24 dc24 pm24 an24 cd24 ct24), sl24⟩) (c24 : PySem.W.codeIn K cd24 "_law_bent" = true) (k24 : PySem.W.keepIn K (.ref f24) = true)
    {f25 : Addr} {od25 an25 : Option Addr} {sl25 : Array (Option Value)} {oc25 kV25 dc25 pm25 cd25 ct25 : Value}
    (a25 : PySem.W.nsIn K mainGlobals "_law_count" = some (some (.ref f25))) (l25 : K.lookup f25 = some ⟨oc25, od25, .func (PySem.W.fnOf "_law_count" "_law_count" (defArgs s_law_count) (defBody s_law_count) (defScope s_law_count) .none kV25 dc25 pm25 an25 cd25 ct25), sl25⟩) (c25 : PySem.W.codeIn K cd25 "_law_count" = true) (k25 : PySem.W.keepIn K (.ref f25) = true)
    {f26 : Addr} {od26 an26 : Option Addr} {sl26 : Array (Option Value)} {oc26 kV26 dc26 pm26 cd26 ct26 : Value}
    (a26 : PySem.W.nsIn K mainGlobals "_law_word" = some (some (.ref f26))) (l26 : K.lookup f26 = some ⟨oc26, od26, .func (PySem.W.fnOf "_law_word" "_law_word" (defArgs s_law_word) (defBody s_law_word) (defScope s_law_word) .none kV26 dc26 pm26 an26 cd26 ct26), sl26⟩) (c26 : PySem.W.codeIn K cd26 "_law_word" = true) (k26 : PySem.W.keepIn K (.ref f26) = true)
    {f27 : Addr} {od27 an27 : Option Addr} {sl27 : Array (Option Value)} {oc27 kV27 dc27 pm27 ct27 : Value}
    (a27 : PySem.W.nsIn K mainGlobals "_law_cell_right" = some (some (.ref f27))) (l27 : K.lookup f27 = some ⟨oc27, od27, .func (PySem.W.fnOf "_law_cell_right" "_law_cell_right" (defArgs s_law_cell_right) (defBody s_law_cell_right) (defScope s_law_cell_right) .none kV27 dc27 pm27 an27 (.ref cT) ct27), sl27⟩) (c27 : PySem.W.codeIn K (.ref cT) "_law_cell_right" = true) (k27 : PySem.W.keepIn K (.ref f27) = true)
    {f28 : Addr} {od28 an28 : Option Addr} {sl28 : Array (Option Value)} {oc28 kV28 dc28 pm28 cd28 ct28 : Value}
    (a28 : PySem.W.nsIn K mainGlobals "law" = some (some (.ref f28))) (l28 : K.lookup f28 = some ⟨oc28, od28, .func (PySem.W.fnOf "law" "law" (defArgs s_law) (defBody s_law) (defScope s_law) .none kV28 dc28 pm28 an28 cd28 ct28), sl28⟩) (c28 : PySem.W.codeIn K cd28 "law" = true) (k28 : PySem.W.keepIn K (.ref f28) = true)
    {e11 : Value} {d11 : Option Addr} {vs11 : Array Value} {s11 : Array (Option Value)} (lcT : K.lookup cT = some ⟨e11, d11, .fields vs11, s11⟩) (hvT : (vs11[11]? : Option Value) = some (.ref T0)) (nTab : K.lookup T0 = none)
    (n_isinstance : PySem.W.nsIn K mainGlobals "isinstance" = some none)
    (n_int : PySem.W.nsIn K mainGlobals "int" = some none)
    (n_bool : PySem.W.nsIn K mainGlobals "bool" = some none)
    (n_str : PySem.W.nsIn K mainGlobals "str" = some none)
    (n_tuple : PySem.W.nsIn K mainGlobals "tuple" = some none)
    (n_len : PySem.W.nsIn K mainGlobals "len" = some none)
    (n_abs : PySem.W.nsIn K mainGlobals "abs" = some none)
    (n_max : PySem.W.nsIn K mainGlobals "max" = some none)
    (n_min : PySem.W.nsIn K mainGlobals "min" = some none)
    (n_list : PySem.W.nsIn K mainGlobals "list" = some none)
    (n_range : PySem.W.nsIn K mainGlobals "range" = some none)
    (n_all : PySem.W.nsIn K mainGlobals "all" = some none)
    (n_sum : PySem.W.nsIn K mainGlobals "sum" = some none)
    (n_repr : PySem.W.nsIn K mainGlobals "repr" = some none)
    (n_enumerate : PySem.W.nsIn K mainGlobals "enumerate" = some none)
    {ti0 ti1 ti2 ti3 ti4 ts0 ts1 ts2 ts3 ts4 ts5 : Tok} (gi0 : PySem.W.nsIn K mainGlobals "MAX_NAME" = some (some (.int 8 ti0)))
    (gi1 : PySem.W.nsIn K mainGlobals "LIMIT" = some (some (.int lim ti1)))
    (gi2 : PySem.W.nsIn K mainGlobals "MAX_LEVELS" = some (some (.int 4 ti2)))
    (gi3 : PySem.W.nsIn K mainGlobals "MAX_TREES" = some (some (.int 3 ti3)))
    (gi4 : PySem.W.nsIn K mainGlobals "MAX_DISTANCE" = some (some (.int 3 ti4)))
    (gs0 : PySem.W.nsIn K mainGlobals "LETTERS" = some (some (.str letters ts0)))
    (gs1 : PySem.W.nsIn K mainGlobals "AT" = some (some (.str "at" ts1)))
    (gs2 : PySem.W.nsIn K mainGlobals "LOAD" = some (some (.str "load" ts2)))
    (gs3 : PySem.W.nsIn K mainGlobals "OP" = some (some (.str "op" ts3)))
    (gs4 : PySem.W.nsIn K mainGlobals "SET" = some (some (.str "set" ts4)))
    (gs5 : PySem.W.nsIn K mainGlobals "STORE" = some (some (.str "store" ts5)))
    (eA : PySem.W.nsIn K mainGlobals "InvalidTree" = some (some (.ref CA))) (xA : PySem.W.excIn K CA [.type "ValueError", .type "Exception", .type "BaseException", .type "object"] "ValueError.__new__" = true) (kA : PySem.W.keepIn K (.ref CA) = true) (bA : PySem.W.subIn K (.ref CA) (.type "BaseException") = some true) (tA : PySem.W.typeIn K (.ref CA) = some (.type "type"))
    (hex : PySem.W.exmOne K (.ref CA) (.ref CA) = some true) :
    ∃ (fd : FuncData) (c T : Addr), PySem.W.tabIn K "_law_cell_right" = some (c, T) ∧ K.lookup T = none ∧ (∀ (s : Shared) (u : Value), BindsTo s fd ⟨[u], []⟩ [("_law_script", u)]) ∧ ∀ base : Heap, K.In base → base.Ns mainGlobals mg → LamX.TabB base mg c T → FnOkG P w K mg base CX0 15 fa fd ["_law_script"] (spLaw K T) := by
  have e := hfa.symm.trans (PySem.W.mg_of X G a28)
  cases e
  have T : Txt P K mg CA := { n_isinstance := PySem.W.mg_none_of X G n_isinstance, n_int := PySem.W.mg_none_of X G n_int, n_bool := PySem.W.mg_none_of X G n_bool, n_str := PySem.W.mg_none_of X G n_str, n_tuple := PySem.W.mg_none_of X G n_tuple, n_len := PySem.W.mg_none_of X G n_len, n_abs := PySem.W.mg_none_of X G n_abs, n_max := PySem.W.mg_none_of X G n_max, n_min := PySem.W.mg_none_of X G n_min, n_list := PySem.W.mg_none_of X G n_list, n_range := PySem.W.mg_none_of X G n_range, n_all := PySem.W.mg_none_of X G n_all, n_sum := PySem.W.mg_none_of X G n_sum, n_repr := PySem.W.mg_none_of X G n_repr, n_enumerate := PySem.W.mg_none_of X G n_enumerate, g_MAX_NAME := ⟨ti0, PySem.W.mg_of X G gi0⟩, g_LIMIT := ⟨ti1, PySem.W.mg_of X G gi1⟩, g_MAX_LEVELS := ⟨ti2, PySem.W.mg_of X G gi2⟩, g_MAX_TREES := ⟨ti3, PySem.W.mg_of X G gi3⟩, g_MAX_DISTANCE := ⟨ti4, PySem.W.mg_of X G gi4⟩, g_LETTERS := ⟨ts0, PySem.W.mg_of X G gs0⟩, g_AT := ⟨ts1, PySem.W.mg_of X G gs1⟩, g_LOAD := ⟨ts2, PySem.W.mg_of X G gs2⟩, g_OP := ⟨ts3, PySem.W.mg_of X G gs3⟩, g_SET := ⟨ts4, PySem.W.mg_of X G gs4⟩, g_STORE := ⟨ts5, PySem.W.mg_of X G gs5⟩, gA := PySem.W.mg_of X G eA, xA := xA, kA := kA, bA := bA, tA := tA }
  have F_is_name := fun_mk (st := s_is_name) l0 c0 k0
  have E_is_name : Df K mg "is_name" s_is_name := ⟨_, _, F_is_name, PySem.W.mg_of X G a0⟩
  have F_is_number := fun_mk (st := s_is_number) l1 c1 k1
  have E_is_number : Df K mg "is_number" s_is_number := ⟨_, _, F_is_number, PySem.W.mg_of X G a1⟩
  have F_is_integer := fun_mk (st := s_is_integer) l2 c2 k2
  have E_is_integer : Df K mg "is_integer" s_is_integer := ⟨_, _, F_is_integer, PySem.W.mg_of X G a2⟩
  have F_is_within := fun_mk (st := s_is_within) l3 c3 k3
  have E_is_within : Df K mg "is_within" s_is_within := ⟨_, _, F_is_within, PySem.W.mg_of X G a3⟩
  have F_is_tree_of := fun_mk (st := s_is_tree_of) l4 c4 k4
  have E_is_tree_of : Df K mg "is_tree_of" s_is_tree_of := ⟨_, _, F_is_tree_of, PySem.W.mg_of X G a4⟩
  have F_is_tree := fun_mk (st := s_is_tree) l5 c5 k5
  have E_is_tree : Df K mg "is_tree" s_is_tree := ⟨_, _, F_is_tree, PySem.W.mg_of X G a5⟩
  have F_is_statement := fun_mk (st := s_is_statement) l6 c6 k6
  have E_is_statement : Df K mg "is_statement" s_is_statement := ⟨_, _, F_is_statement, PySem.W.mg_of X G a6⟩
  have F_require_tree := fun_mk (st := s_require_tree) l7 c7 k7
  have E_require_tree : Df K mg "require_tree" s_require_tree := ⟨_, _, F_require_tree, PySem.W.mg_of X G a7⟩
  have F_subtrees := fun_mk (st := s_subtrees) l8 c8 k8
  have E_subtrees : Df K mg "subtrees" s_subtrees := ⟨_, _, F_subtrees, PySem.W.mg_of X G a8⟩
  have F_nodes_below := fun_mk (st := s_nodes_below) l9 c9 k9
  have E_nodes_below : Df K mg "nodes_below" s_nodes_below := ⟨_, _, F_nodes_below, PySem.W.mg_of X G a9⟩
  have F_level_count := fun_mk (st := s_level_count) l10 c10 k10
  have E_level_count : Df K mg "level_count" s_level_count := ⟨_, _, F_level_count, PySem.W.mg_of X G a10⟩
  have F_levels := fun_mk (st := s_levels) l11 c11 k11
  have E_levels : Df K mg "levels" s_levels := ⟨_, _, F_levels, PySem.W.mg_of X G a11⟩
  have F_nodes := fun_mk (st := s_nodes) l12 c12 k12
  have E_nodes : Df K mg "nodes" s_nodes := ⟨_, _, F_nodes, PySem.W.mg_of X G a12⟩
  have F_law_loom := fun_mk (st := s_law_loom) l13 c13 k13
  have E_law_loom : Df K mg "_law_loom" s_law_loom := ⟨_, _, F_law_loom, PySem.W.mg_of X G a13⟩
  have F_law_turn := fun_mk (st := s_law_turn) l14 c14 k14
  have E_law_turn : Df K mg "_law_turn" s_law_turn := ⟨_, _, F_law_turn, PySem.W.mg_of X G a14⟩
  have F_law_pick := fun_mk (st := s_law_pick) l15 c15 k15
  have E_law_pick : Df K mg "_law_pick" s_law_pick := ⟨_, _, F_law_pick, PySem.W.mg_of X G a15⟩
  have F_law_place := fun_mk (st := s_law_place) l16 c16 k16
  have E_law_place : Df K mg "_law_place" s_law_place := ⟨_, _, F_law_place, PySem.W.mg_of X G a16⟩
  have F_law_leaf := fun_mk (st := s_law_leaf) l17 c17 k17
  have E_law_leaf : Df K mg "_law_leaf" s_law_leaf := ⟨_, _, F_law_leaf, PySem.W.mg_of X G a17⟩
  have F_law_tree := fun_mk (st := s_law_tree) l18 c18 k18
  have E_law_tree : Df K mg "_law_tree" s_law_tree := ⟨_, _, F_law_tree, PySem.W.mg_of X G a18⟩
  have F_law_working := fun_mk (st := s_law_working) l19 c19 k19
  have E_law_working : Df K mg "_law_working" s_law_working := ⟨_, _, F_law_working, PySem.W.mg_of X G a19⟩
  have F_law_is_name := fun_mk (st := s_law_is_name) l20 c20 k20
  have E_law_is_name : Df K mg "_law_is_name" s_law_is_name := ⟨_, _, F_law_is_name, PySem.W.mg_of X G a20⟩
  have F_law_is_number := fun_mk (st := s_law_is_number) l21 c21 k21
  have E_law_is_number : Df K mg "_law_is_number" s_law_is_number := ⟨_, _, F_law_is_number, PySem.W.mg_of X G a21⟩
  have F_law_is_tree := fun_mk (st := s_law_is_tree) l22 c22 k22
  have E_law_is_tree : Df K mg "_law_is_tree" s_law_is_tree := ⟨_, _, F_law_is_tree, PySem.W.mg_of X G a22⟩
  have F_law_is_statement := fun_mk (st := s_law_is_statement) l23 c23 k23
  have E_law_is_statement : Df K mg "_law_is_statement" s_law_is_statement := ⟨_, _, F_law_is_statement, PySem.W.mg_of X G a23⟩
  have F_law_bent := fun_mk (st := s_law_bent) l24 c24 k24
  have E_law_bent : Df K mg "_law_bent" s_law_bent := ⟨_, _, F_law_bent, PySem.W.mg_of X G a24⟩
  have F_law_count := fun_mk (st := s_law_count) l25 c25 k25
  have E_law_count : Df K mg "_law_count" s_law_count := ⟨_, _, F_law_count, PySem.W.mg_of X G a25⟩
  have F_law_word := fun_mk (st := s_law_word) l26 c26 k26
  have E_law_word : Df K mg "_law_word" s_law_word := ⟨_, _, F_law_word, PySem.W.mg_of X G a26⟩
  have F_law_cell_right := fun_mk (st := s_law_cell_right) l27 c27 k27
  have E_law_cell_right : Df K mg "_law_cell_right" s_law_cell_right := ⟨_, _, F_law_cell_right, PySem.W.mg_of X G a27⟩
  have F_law := fun_mk (st := s_law) l28 c28 k28
  have E_law : Df K mg "law" s_law := ⟨_, _, F_law, PySem.W.mg_of X G a28⟩
  have C_law_cell_right : LfT.DfC K mg "_law_cell_right" s_law_cell_right cT := ⟨_, _, F_law_cell_right, PySem.W.mg_of X G a27, rfl⟩
  have hTab : PySem.W.tabIn K "_law_cell_right" = some (cT, T0) := by unfold PySem.W.tabIn; rw [a27]; dsimp only; rw [l27]; dsimp only [PySem.W.fnOf]; rw [lcT]; dsimp only; rw [hvT]
  refine ⟨PySem.W.fnOf "law" "law" (defArgs s_law) (defBody s_law) (defScope s_law) .none kV28 dc28 pm28 an28 cd28 ct28, cT, T0, hTab, nTab, fun s u => .of_eq rfl, fun base _ _ TB => ?_⟩
  have d1 := ok_is_name (w := w) (base := base) T E_is_name
  have d2 := ok_is_number (w := w) (base := base) T E_is_number
  have d3 := ok_is_integer T E_is_integer d2
  have d4 := ok_is_within T E_is_within d3
  have t0 := ok_tree0 (P := P) (w := w) (base := base) E_is_tree_of
  have t1 := ok_treeS T E_is_tree_of (by decide) t0 d1 d3 d4
  have t2 := ok_treeS T E_is_tree_of (by decide) t1 d1 d3 d4
  have t3 := ok_treeS T E_is_tree_of (by decide) t2 d1 d3 d4
  have t4 := ok_treeS T E_is_tree_of (by decide) t3 d1 d3 d4
  have t5 := ok_treeS T E_is_tree_of (by decide) t4 d1 d3 d4
  have d5 := ok_is_tree T E_is_tree t5
  have d6 := ok_is_statement T E_is_statement d5 d1 d3
  have d7 := ok_subtrees (w := w) (base := base) T E_subtrees
  have l0 := ok_level0 (P := P) (w := w) (base := base) E_level_count
  have l1 := ok_levelS T E_level_count (by decide) l0 d7
  have l2 := ok_levelS T E_level_count (by decide) l1 d7
  have l3 := ok_levelS T E_level_count (by decide) l2 d7
  have l4 := ok_levelS T E_level_count (by decide) l3 d7
  have d8 := ok_require_tree T E_require_tree d5
  have d9 := ok_levels T E_levels d8 l4
  have n0 := ok_nodes0 (P := P) (w := w) (base := base) E_nodes_below
  have n1 := ok_nodesS T E_nodes_below (by decide) n0 d7
  have n2 := ok_nodesS T E_nodes_below (by decide) n1 d7
  have n3 := ok_nodesS T E_nodes_below (by decide) n2 d7
  have n4 := ok_nodesS T E_nodes_below (by decide) n3 d7
  have d10 := ok_nodes T E_nodes d8 n4
  have b1 := ok_law_is_name (w := w) (base := base) T E_law_is_name
  have b2 := ok_law_is_number (w := w) (base := base) T E_law_is_number
  have u0 := ok_law_tree0 (P := P) (w := w) (base := base) E_law_is_tree
  have u1 := ok_law_treeS T E_law_is_tree (by decide) u0 b1 b2
  have u2 := ok_law_treeS T E_law_is_tree (by decide) u1 b1 b2
  have u3 := ok_law_treeS T E_law_is_tree (by decide) u2 b1 b2
  have u4 := ok_law_treeS T E_law_is_tree (by decide) u3 b1 b2
  have u5 := ok_law_treeS T E_law_is_tree (by decide) u4 b1 b2
  have b3 := ok_law_is_statement T E_law_is_statement u5 b1 b2
  have c0 := ok_law_count0 (P := P) (w := w) (base := base) E_law_count
  have c1 := ok_law_countS T E_law_count (by decide) c0
  have c2 := ok_law_countS T E_law_count (by decide) c1
  have c3 := ok_law_countS T E_law_count (by decide) c2
  have c4 := ok_law_countS T E_law_count (by decide) c3
  have w0 := ok_law_work0 (P := P) (w := w) (base := base) E_law_working
  have w1 := ok_law_workS T E_law_working (by decide) w0
  have w2 := ok_law_workS T E_law_working (by decide) w1
  have w3 := ok_law_workS T E_law_working (by decide) w2
  have w4 := ok_law_workS T E_law_working (by decide) w3
  have g1 := ok_law_turn (w := w) (base := base) T E_law_turn
  have g2 := ok_law_pick T E_law_pick g1
  have g3 := ok_law_place T E_law_place g1 g2
  have g4 := ok_law_leaf T E_law_leaf g1 g2 g3
  have r0 := ok_law_tr0 (P := P) (w := w) (base := base) E_law_tree
  have r0' := ok_lvl (n := 4) r0 (by decide)
  have r1 := ok_law_trS T E_law_tree (by decide) r0' g1 g2 g4
  have r2 := ok_law_trS T E_law_tree (by decide) r1 g1 g2 g4
  have r3 := ok_law_trS T E_law_tree (by decide) r2 g1 g2 g4
  have r4 := ok_law_trS T E_law_tree (by decide) r3 g1 g2 g4
  have r5 := ok_law_trS T E_law_tree (by decide) r4 g1 g2 g4
  have v0 := ok_law_bent0 (P := P) (w := w) (base := base) E_law_bent
  have v0' := ok_lvl (n := 2) v0 (by decide)
  have v1 := ok_law_bentS T E_law_bent (by decide) v0' g1 g2
  have v2 := ok_law_bentS T E_law_bent (by decide) v1 g1 g2
  have v3 := ok_law_bentS T E_law_bent (by decide) v2 g1 g2
  have v4 := ok_law_bentS T E_law_bent (by decide) v3 g1 g2
  have v5 := ok_law_bentS T E_law_bent (by decide) v4 g1 g2
  have v6 := ok_law_bentS T E_law_bent (by decide) v5 g1 g2
  have x1 := ok_law_loom (w := w) (base := base) T E_law_loom
  have x2 := ok_law_cell_right T hex TB C_law_cell_right E_law_word g1 r5 g3 v6 d5 u5 d6 b3 d9 d10 c4 w4
  exact ok_law T F_law x1 x2 d5 d6 d9 d10
end My
open PySem PySem.W PyProof.Rows
theorem PySem.Challenge.cw_loopfoundry_k01_trees_and_statements_jud_holds : PySem.Challenge.rw_loopfoundry_k01_trees_and_statements_jud.Holds := by
  w_on; o_law; k_head; (case hw => w_witness2)
  k_fill
  refine LfT.walk_ofT1 (l := PySem.Challenge.rw_loopfoundry_k01_trees_and_statements_jud) (y := "_law_cell_right") (k := 15) (CX := L2.CX0) (x := "_law_script") (sp := My.spLaw) rfl (by decide) rfl ⟨rfl, by decide, by decide⟩ (by rfl) (fun w h Y => PySem.W.km_in_of Y) ?F (fun K H a T ns hl hT hS => ⟨a, ns, rfl, hS, fun p hp => by cases List.mem_singleton.mp hp; exact LamX.TabS.nil hT, fun _ => rfl⟩) (fun _ _ _ _ z => z)
  case F =>
    intro w mg fa h KX G hmg
    refine' My.all_mk KX G hmg ?a0 ?l0 ?c0 ?k0 ?a1 ?l1 ?c1 ?k1 ?a2 ?l2 ?c2 ?k2 ?a3 ?l3 ?c3 ?k3 ?a4 ?l4 ?c4 ?k4 ?a5 ?l5 ?c5 ?k5 ?a6 ?l6 ?c6 ?k6 ?a7 ?l7 ?c7 ?k7 ?a8 ?l8 ?c8 ?k8 ?a9 ?l9 ?c9 ?k9 ?a10 ?l10 ?c10 ?k10 ?a11 ?l11 ?c11 ?k11 ?a12 ?l12 ?c12 ?k12 ?a13 ?l13 ?c13 ?k13 ?a14 ?l14 ?c14 ?k14 ?a15 ?l15 ?c15 ?k15 ?a16 ?l16 ?c16 ?k16 ?a17 ?l17 ?c17 ?k17 ?a18 ?l18 ?c18 ?k18 ?a19 ?l19 ?c19 ?k19 ?a20 ?l20 ?c20 ?k20 ?a21 ?l21 ?c21 ?k21 ?a22 ?l22 ?c22 ?k22 ?a23 ?l23 ?c23 ?k23 ?a24 ?l24 ?c24 ?k24 ?a25 ?l25 ?c25 ?k25 ?a26 ?l26 ?c26 ?k26 ?a27 ?l27 ?c27 ?k27 ?a28 ?l28 ?c28 ?k28 ?lcT ?hvT ?nTab ?n_isinstance ?n_int ?n_bool ?n_str ?n_tuple ?n_len ?n_abs ?n_max ?n_min ?n_list ?n_range ?n_all ?n_sum ?n_repr ?n_enumerate ?gi0 ?gi1 ?gi2 ?gi3 ?gi4 ?gs0 ?gs1 ?gs2 ?gs3 ?gs4 ?gs5 ?eA ?xA ?kA ?bA ?tA ?hex
    (case eA => first | k_is | kernel_rfl)
    (case a0 => first | k_is | kernel_rfl)
    (case l0 => first | k_is | kernel_rfl)
    (case c0 => first | k_is | kernel_rfl)
    (case k0 => first | k_is | kernel_rfl)
    (case a1 => first | k_is | kernel_rfl)
    (case l1 => first | k_is | kernel_rfl)
    (case c1 => first | k_is | kernel_rfl)
    (case k1 => first | k_is | kernel_rfl)
    (case a2 => first | k_is | kernel_rfl)
    (case l2 => first | k_is | kernel_rfl)
    (case c2 => first | k_is | kernel_rfl)
    (case k2 => first | k_is | kernel_rfl)
    (case a3 => first | k_is | kernel_rfl)
    (case l3 => first | k_is | kernel_rfl)
    (case c3 => first | k_is | kernel_rfl)
    (case k3 => first | k_is | kernel_rfl)
    (case a4 => first | k_is | kernel_rfl)
    (case l4 => first | k_is | kernel_rfl)
    (case c4 => first | k_is | kernel_rfl)
    (case k4 => first | k_is | kernel_rfl)
    (case a5 => first | k_is | kernel_rfl)
    (case l5 => first | k_is | kernel_rfl)
    (case c5 => first | k_is | kernel_rfl)
    (case k5 => first | k_is | kernel_rfl)
    (case a6 => first | k_is | kernel_rfl)
    (case l6 => first | k_is | kernel_rfl)
    (case c6 => first | k_is | kernel_rfl)
    (case k6 => first | k_is | kernel_rfl)
    (case a7 => first | k_is | kernel_rfl)
    (case l7 => first | k_is | kernel_rfl)
    (case c7 => first | k_is | kernel_rfl)
    (case k7 => first | k_is | kernel_rfl)
    (case a8 => first | k_is | kernel_rfl)
    (case l8 => first | k_is | kernel_rfl)
    (case c8 => first | k_is | kernel_rfl)
    (case k8 => first | k_is | kernel_rfl)
    (case a9 => first | k_is | kernel_rfl)
    (case l9 => first | k_is | kernel_rfl)
    (case c9 => first | k_is | kernel_rfl)
    (case k9 => first | k_is | kernel_rfl)
    (case a10 => first | k_is | kernel_rfl)
    (case l10 => first | k_is | kernel_rfl)
    (case c10 => first | k_is | kernel_rfl)
    (case k10 => first | k_is | kernel_rfl)
    (case a11 => first | k_is | kernel_rfl)
    (case l11 => first | k_is | kernel_rfl)
    (case c11 => first | k_is | kernel_rfl)
    (case k11 => first | k_is | kernel_rfl)
    (case a12 => first | k_is | kernel_rfl)
    (case l12 => first | k_is | kernel_rfl)
    (case c12 => first | k_is | kernel_rfl)
    (case k12 => first | k_is | kernel_rfl)
    (case a13 => first | k_is | kernel_rfl)
    (case l13 => first | k_is | kernel_rfl)
    (case c13 => first | k_is | kernel_rfl)
    (case k13 => first | k_is | kernel_rfl)
    (case a14 => first | k_is | kernel_rfl)
    (case l14 => first | k_is | kernel_rfl)
    (case c14 => first | k_is | kernel_rfl)
    (case k14 => first | k_is | kernel_rfl)
    (case a15 => first | k_is | kernel_rfl)
    (case l15 => first | k_is | kernel_rfl)
    (case c15 => first | k_is | kernel_rfl)
    (case k15 => first | k_is | kernel_rfl)
    (case a16 => first | k_is | kernel_rfl)
    (case l16 => first | k_is | kernel_rfl)
    (case c16 => first | k_is | kernel_rfl)
    (case k16 => first | k_is | kernel_rfl)
    (case a17 => first | k_is | kernel_rfl)
    (case l17 => first | k_is | kernel_rfl)
    (case c17 => first | k_is | kernel_rfl)
    (case k17 => first | k_is | kernel_rfl)
    (case a18 => first | k_is | kernel_rfl)
    (case l18 => first | k_is | kernel_rfl)
    (case c18 => first | k_is | kernel_rfl)
    (case k18 => first | k_is | kernel_rfl)
    (case a19 => first | k_is | kernel_rfl)
    (case l19 => first | k_is | kernel_rfl)
    (case c19 => first | k_is | kernel_rfl)
    (case k19 => first | k_is | kernel_rfl)
    (case a20 => first | k_is | kernel_rfl)
    (case l20 => first | k_is | kernel_rfl)
    (case c20 => first | k_is | kernel_rfl)
    (case k20 => first | k_is | kernel_rfl)
    (case a21 => first | k_is | kernel_rfl)
    (case l21 => first | k_is | kernel_rfl)
    (case c21 => first | k_is | kernel_rfl)
    (case k21 => first | k_is | kernel_rfl)
    (case a22 => first | k_is | kernel_rfl)
    (case l22 => first | k_is | kernel_rfl)
    (case c22 => first | k_is | kernel_rfl)
    (case k22 => first | k_is | kernel_rfl)
    (case a23 => first | k_is | kernel_rfl)
    (case l23 => first | k_is | kernel_rfl)
    (case c23 => first | k_is | kernel_rfl)
    (case k23 => first | k_is | kernel_rfl)
    (case a24 => first | k_is | kernel_rfl)
    (case l24 => first | k_is | kernel_rfl)
    (case c24 => first | k_is | kernel_rfl)
    (case k24 => first | k_is | kernel_rfl)
    (case a25 => first | k_is | kernel_rfl)
    (case l25 => first | k_is | kernel_rfl)
    (case c25 => first | k_is | kernel_rfl)
    (case k25 => first | k_is | kernel_rfl)
    (case a26 => first | k_is | kernel_rfl)
    (case l26 => first | k_is | kernel_rfl)
    (case c26 => first | k_is | kernel_rfl)
    (case k26 => first | k_is | kernel_rfl)
    (case a27 => first | k_is | kernel_rfl)
    (case l27 => first | k_is | kernel_rfl)
    (case c27 => first | k_is | kernel_rfl)
    (case k27 => first | k_is | kernel_rfl)
    (case a28 => first | k_is | kernel_rfl)
    (case l28 => first | k_is | kernel_rfl)
    (case c28 => first | k_is | kernel_rfl)
    (case k28 => first | k_is | kernel_rfl)
    (case lcT => first | k_is | kernel_rfl)
    (case hvT => rfl)
    (case nTab => first | k_is | kernel_rfl)
    (case n_isinstance => first | k_is | kernel_rfl)
    (case n_int => first | k_is | kernel_rfl)
    (case n_bool => first | k_is | kernel_rfl)
    (case n_str => first | k_is | kernel_rfl)
    (case n_tuple => first | k_is | kernel_rfl)
    (case n_len => first | k_is | kernel_rfl)
    (case n_abs => first | k_is | kernel_rfl)
    (case n_max => first | k_is | kernel_rfl)
    (case n_min => first | k_is | kernel_rfl)
    (case n_list => first | k_is | kernel_rfl)
    (case n_range => first | k_is | kernel_rfl)
    (case n_all => first | k_is | kernel_rfl)
    (case n_sum => first | k_is | kernel_rfl)
    (case n_repr => first | k_is | kernel_rfl)
    (case n_enumerate => first | k_is | kernel_rfl)
    (case gi0 => first | k_is | kernel_rfl)
    (case gi1 => first | k_is | kernel_rfl)
    (case gi2 => first | k_is | kernel_rfl)
    (case gi3 => first | k_is | kernel_rfl)
    (case gi4 => first | k_is | kernel_rfl)
    (case gs0 => first | k_is | kernel_rfl)
    (case gs1 => first | k_is | kernel_rfl)
    (case gs2 => first | k_is | kernel_rfl)
    (case gs3 => first | k_is | kernel_rfl)
    (case gs4 => first | k_is | kernel_rfl)
    (case gs5 => first | k_is | kernel_rfl)
    (case xA => k_exc)
    (case kA => first | k_is | kernel_rfl)
    (case bA => first | k_is | kernel_rfl)
    (case tA => first | k_is | kernel_rfl)
    (case hex => first | k_is | kernel_rfl)
#print axioms PySem.Challenge.cw_loopfoundry_k01_trees_and_statements_jud_holds
