import PyProof.Rows.All
import Wide.All
import OpenK.AllK
import Wide.FinOn
import HandS.ForExc
import KE.KExcSuper
import HandS.ForMost
import HandS.ExcField
import HandS.ExcIs
import HandS.IsInst
import HandS.Style
import HandS.Wide
import HandS.Property
import HandS.Evl
import HandS.SlotsOwn
import HandS.Zip
import HandS.Star
import HandS.Defaults
import HandS.MakeKwOnly
import HandS.TryOnly
import PySem.Challenge.RW_loopfoundry_k11_papers_of_meetings_judge
set_option Elab.async false
set_option linter.all false
set_option maxRecDepth 100000
set_option maxHeartbeats 4000000
/-! try: body / except A as n: .. / except B as n: .. : several clauses with names -/
namespace L2
open PySem PySem.Spec PyProof.Rows
/-- the ends of a suite whose name stands in slot i -/
def sufEnds (i : Nat) (D : Ends) : Ends := { nx := fun σ' H' => D.nx (σ'.set i none) H', rt := D.rt, bk := fun σ' H' => D.bk (σ'.set i none) H', ct := fun σ' H' => D.ct (σ'.set i none) H' }
/-- what the clauses wish of an exception of the body, one behind the other: its class, the name's slot, the suite -/
def wAsM (K : PySem.W.Frag) (Wout : WX) (D : Ends) : List (Value × Nat × (Addr → Value → Option Addr → TS)) → WX
  | [] => Wout
  | (c, i, ts) :: r => fun cls d σ H => ∃ b, PySem.W.exmOne K cls c = some b ∧ (b = true → ∀ a, H a = none → ts a cls d (sufEnds i D) (σ.set i (some (.ref a))) H) ∧ (b = false → wAsM K Wout D r cls d σ H)
inductive HdA (X : Cx) : List ExceptHandler → List (Value × Nat × (Addr → Value → Option Addr → TS)) → Prop
  | nil : HdA X [] []
  | cons {x n : Str} {c : Value} {i : Nat} {ts : Addr → Value → Option Addr → TS} {b₀ : Stmt} {suite : List Stmt} {np pos' : Pos} {hds : List ExceptHandler} {l : List (Value × Nat × (Addr → Value → Option Addr → TS))}
      (hi : X.N[i]? = some n) (hln : X.env.kindOf n = some .local) (hc : Names X x c)
      (hsu : ∀ (a : Addr) (oe : Obj) (cls : Value) (d : Option Addr) (pn : List (Addr × Obj)), Zc cls d oe → (∃ vs, oe.data = .fields vs) → PSs (X.suite a ((a, oe) :: pn)) (b₀ :: suite) (ts a cls d)) (r : HdA X hds l) :
      HdA X (.ExceptHandler (some (.Name x np)) (some n) (b₀ :: suite) pos' :: hds) ((c, i, ts) :: l)
section
variable {X : Cx} {body : List Stmt} {h₀ : ExceptHandler} {hds : List ExceptHandler} {l : List (Value × Nat × (Addr → Value → Option Addr → TS))} {pos : Pos} {tb : WX → TS} {Wout : WX}
theorem ps_try_asM (hs : X.stack = X.env :: X.outer) (hf : X.env.frame = some X.env.locals) (hN : X.N.Nodup) (tk : Takes X Wout)
    (hb : ∀ (W : WX) (pn : List (Addr × Obj)) (xe : Value → Shared → Prop), Takes (X.tr pn xe) W → PassesOwn (model X.prog X.w) X.A X.env xe → PSs (X.tr pn xe) body (tb W))
    (hh : HdA X (h₀ :: hds) l) : PS X (.Try body (h₀ :: hds) [] [] pos) (fun D σ H => tb (wAsM X.K Wout D l) D σ H) := by
  refine ⟨fun pins s σ H D I h => ?_⟩
  have ok := I.ok
  have hfr : X.A.frames = some (X.env :: X.outer) := by rw [ok.frames, hs]
  refine wpAny_Try_except ?_
  refine wpAny_mono ((hb (wAsM X.K Wout D l) (X.pn ++ pins) (fun e s₁ => wpAny (model X.prog X.w) X.A (noteFrame e X.env) (fun _ s₂ => wpAny (model X.prog X.w) X.A (setFlight e none) (fun _ s₃ =>
    wpAny (model X.prog X.w) X.A (handleBy e X.env (h₀ :: hds)) (SP X pins D) X.xe s₃) X.xe s₂) X.xe s₁) (fun u s' xx => ?_) PassesOwn.looking).run [] s σ H D (I.toTry _) h) (fun f s1 hsp => ?_) (fun e s1 he => he)
  · obtain ⟨a, B, sI, pins', σ', H', cls, d, rfl, J', nb, up, sky, na, os, ag, w⟩ := xx
    have J : Inv X pins σ' H' sI := J'.ofTry ok
    have sky' : Sky B (X.env :: X.outer) a (Zc cls d) X.env.locals s'.heap := by rw [← hs]; exact sky
    show wpAny (model X.prog X.w) X.A (noteFrame (.ref a) X.env) _ _ _
    refine Sky.land Zc.steady hfr hf sky' fun h3 fl3 up3 => ?_
    have J3 : Inv X pins σ' H' { s' with heap := h3 } := J.landed nb fl3.1 (up.trans up3) os ag
    obtain ⟨oe3, vs3, he3, hz3, hd3⟩ := fl3.there
    have nfr : a ∉ frs (X.env :: X.outer) := fun hm => by
      obtain ⟨_, o', e', hnf⟩ := fl3.2.2.1.mem hm
      rw [he3] at e'; cases e'
      exact hnf _ hd3
    have nL : a ≠ X.env.locals := fun z => nfr (List.mem_filterMap.mpr ⟨X.env, List.mem_cons_self, by rw [hf, z]⟩)
    have nF : a ∉ X.fs := fun hm => by
      obtain ⟨e, he, q⟩ := List.mem_filterMap.mp hm
      exact nfr (List.mem_filterMap.mpr ⟨e, List.mem_cons_of_mem _ he, q⟩)
    have S3 := J3.suite he3 hd3 na nL nF
    have go : ∀ {hds' : List ExceptHandler} {l' : List (Value × Nat × (Addr → Value → Option Addr → TS))}, HdA X hds' l' → wAsM X.K Wout D l' cls d σ' H' →
        wpAny (model X.prog X.w) X.A (handleBy (.ref a) X.env hds') (SP X pins D) X.xe { s' with heap := h3 } := by
      intro hds' l' hk
      induction hk with
      | nil =>
        intro w
        refine wpAny_handleBy_nil ?_
        obtain ⟨k1, k2, k3, oe, vs, T, oT, ts', he, hz, hd, h1, hr⟩ := id fl3
        unfold PySem.passOn
        refine wpAny_bind (wpAny_field he hd h1 ?_)
        rw [if_neg (show ¬ ((Value.ref T == Value.none) = true) from by simp)]
        have fin : wpAny (model X.prog X.w) X.A (setFlight (.ref a) X.env.frame) (fun _ s4 => wpAny (model X.prog X.w) X.A (throw (.ref a) : Sem Flow) (SP X pins D) X.xe s4) X.xe { s' with heap := h3 } := by
          rw [hf]
          refine HandSPX.setFlight_upZ fl3 fun h4 hh4 up4 => wpAny_throw (tk _ _ ?_)
          exact ⟨a, B, sI, pins, σ', H', cls, d, rfl, J, nb, (up.trans up3).trans up4, .inr (.inr (by rw [hs]; exact hh4)), na, os, ag, w⟩
        first
          | exact wpAny_bind (wpAny_pure (wpAny_bind fin))
          | exact wpAny_bind fin
      | @cons x n c i ts b₀ suite np pos' hds2 l2 hi hln hc hsu r ih =>
        intro w
        obtain ⟨b, hb1, hyes, hno⟩ := w
        have hloc : Loc X.env.scope n := .inl hln
        refine wpAny_handleBy_cons (codeAny_handlers_test ?_) (by intro q; cases q)
        have LT : PySem.W.Looks (model X.prog X.w) h3 (typeOf (.ref a)) cls := fun A Q E s k q => wpAny_typeOf_ref (k _ _ he3) (by rw [hz3.1]; exact q)
        have LM := PySem.W.exm_one (M := model X.prog X.w) (J3.kIn) LT hb1
        have test : ∀ {Q : Value → Shared → Prop} {E : Value → Shared → Prop}, Q c { s' with heap := h3 } → wpAny (model X.prog X.w) (X.A.mark (some (.ref a))) (eval (.Name x np) X.env) Q E { s' with heap := h3 } := fun {Q E} q => by
          obtain ⟨hg, hdbg, hm | ⟨hm, hv, hnn⟩⟩ := hc
          · exact ld_glob (X := X.suite a ((a, oe3) :: (X.pn ++ pins))) S3 hg hm q hdbg
          · exact ld_blt (X := X.suite a ((a, oe3) :: (X.pn ++ pins))) S3 hg hm hv q hnn hdbg
        refine test (LM.here ?_)
        cases b with
        | true =>
          refine codeAny_handlers_suite_as ?_
          refine HandSPX.lands_againZ fl3 fun h4 fl4 up4 => ?_
          have J4 : Inv X pins σ' H' { s' with heap := h4 } := J.landed nb fl4.1 ((up.trans up3).trans up4) os ag
          obtain ⟨oe4, vs4, he4, hz4, hd4⟩ := fl4.there
          have S4 := J4.suite he4 hd4 na nL nF
          refine store_ok (X := X.suite a ((a, oe4) :: (X.pn ++ pins))) (v := .ref a) S4 hN hi hloc rfl (fun s5 S5 => ?_) (.inr hln)
          refine wpAny_mono ((hsu a oe4 cls d (X.pn ++ pins) hz4 ⟨_, hd4⟩).run [] s5 _ H' _ S5 (hyes rfl a na)) (fun f s6 hsp => ?_) (fun _ _ z => False.elim z)
          have end_ : ∀ {σ6 : St} {H6 : Hp} {Q : Shared → Prop}, Inv (X.suite a ((a, oe4) :: (X.pn ++ pins))) [] σ6 H6 s6 → (∀ s7, Inv X pins (σ6.set i none) H6 s7 → Q s7) →
              wpAny (model X.prog X.w) X.A (do bindName X.env n .none; unbindBehindTheSuite X.env n pos') (fun _ s7 => Q s7) X.xe s6 := fun {σ6 H6 Q} S6 hq => gone_ok (S6.unsuite ok) hN hi hln hq
          cases f with
          | next =>
            obtain ⟨σ6, H6, S6, q6⟩ := hsp
            exact end_ S6 fun s7 J7 => ⟨_, _, J7, q6⟩
          | brk =>
            obtain ⟨σ6, H6, S6, q6⟩ := hsp
            exact end_ S6 fun s7 J7 => ⟨_, _, J7, q6⟩
          | cont =>
            obtain ⟨σ6, H6, S6, q6⟩ := hsp
            exact end_ S6 fun s7 J7 => ⟨_, _, J7, q6⟩
          | ret u =>
            obtain ⟨v6, σ6, H6, S6, r6, q6⟩ := hsp
            exact end_ S6 fun s7 J7 => ⟨_, _, _, J7, r6, q6⟩
        | false =>
          show wpAny _ X.A (handleBy (.ref a) X.env hds2) _ _ _
          exact ih (hno rfl)
    exact go hh w
  · cases f with
    | next =>
      obtain ⟨σ', H', J', q⟩ := hsp
      exact wpAny_execs_nil ⟨σ', H', J'.ofTry ok, q⟩
    | brk =>
      obtain ⟨σ', H', J', q⟩ := hsp
      exact ⟨σ', H', J'.ofTry ok, q⟩
    | cont =>
      obtain ⟨σ', H', J', q⟩ := hsp
      exact ⟨σ', H', J'.ofTry ok, q⟩
    | ret u =>
      obtain ⟨v, σ', H', J', r, q⟩ := hsp
      exact ⟨v, σ', H', J'.ofTry ok, r, q⟩
end
end L2
set_option maxHeartbeats 4000000
/-! An own error over a built-in one: __init__(self, f): super().__init__('..'); self.f = f -/
namespace PySem
namespace LfX
open PySem.W PySem.Calls PyProof.Rows PySem.HandSPX
def xA (f : Str) (p1 p2 : Pos) : Arguments := { posonlyargs := [], args := [{ arg := "self", annotation := none, pos := p1 }, { arg := f, annotation := none, pos := p2 }], vararg := none, kwonlyargs := [], kw_defaults := [], kwarg := none, defaults := [] }
def xB (f m : Str) (j : Nat) (q1 q2 q3 q4 q5 q6 q7 q8 q9 q10 : Pos) : List Stmt :=
  [.Expr (.Call (.Attribute (.Call (.Name "super" q1) [] [] q2) "__init__" q3) [.Constant (.str m) j q4] [] q5) q6, .Assign [.Attribute (.Name "self" q7) f q8] (.Name f q9) q10]
def xS (f : Str) : Scope := { kind := .function, names := [(PySem.Str.ofString "self", .local), (f, .local), (PySem.Str.ofString "__class__", .free), (PySem.Str.ofString "super", .globalImplicit)], isGenerator := false, isCoroutine := false, more := [] }
/-- the name of the field stands apart from the three others -/
structure FldOk (f : Str) : Prop where
  e1 : (f == PySem.Str.ofString "self") = false
  e2 : (PySem.Str.ofString "__class__" == f) = false
  e3 : (PySem.Str.ofString "super" == f) = false
  e4 : (f == ("__debug__" : Str)) = false
  bd : ∀ (qn : Str) (p1 p2 : Pos) (b : List Stmt) (doc pm : Value) (an : Option Addr) (cdv ct : Value) (cc : Addr) (s : Shared) (x v : Value),
    BindsTo s (ksFn "__init__" qn (xA f p1 p2) b (xS f) .none .none doc pm an cdv ct cc) ⟨[x, v], []⟩ [("self", x), (f, v)]
/-- what the written part says of such a class, at C, and of its __init__, at fI -/
structure XTxt (prog : Program) (K : Frag) (mg : Str → Option Value) (x f : Str) (B i newId : String) (bmB : List Value) (C fI : Addr) : Prop where
  fo : FldOk f
  gC : mg x = some (.ref C)
  cls : ∃ nm q N bs bm sn sub ab col dd k0 k1 k2 k3 k5, K.lookup C = some (excClassObj nm q C N bs bm true sn sub ab col dd k0 k1 k2 k3 k5 newId) ∧ (∀ X : String, bm.contains (.type X) = bmB.contains (.type X)) ∧
    (∀ self : Value, refuseLoop self "__setattr__" bm = pure ()) ∧ alongIn K "__init__" bm = some (some (.builtin i))
  sa : findIn K (.ref C) "__setattr__" = some (some (.builtin "object.__setattr__"))
  noF : findIn K (.ref C) f = some none
  iC : findIn K (.ref C) "__init__" = some (some (.ref fI))
  tC : typeIn K (.ref fI) = some (.type "function")
  kC : keepIn K (.ref C) = true
  exC : subIn K (.ref C) (.type "BaseException") = some true
  sB : subIn K (.ref C) (.type B) = some true
  sD : mroIn K C (.ref C) = some true
  sO : mroIn K C (.type "object") = some true
  tyC : typeIn K (.ref C) = some (.type "type")
  op : nsIn K cStatics "thirdparty.any" = some none
  sup : mg "super" = none
  top : (prog.main.scope.names.lookup ("super" : Str)).isSome = false
  fn : ∃ (oc : Value) (od : Option Addr) (doc pm : Value) (an : Option Addr) (cda : Addr) (ct : Value) (cc : Addr) (osl : Array (Option Value)) (qn m : Str) (j : Nat) (p1 p2 q1 q2 q3 q4 q5 q6 q7 q8 q9 q10 : Pos)
      (ccl : Value) (cdd : Option Addr) (vs : Array Value) (ccs : Array (Option Value)) (file : Str) (tf : Tok) (cl : Value) (cld : Option Addr) (csl : Array (Option Value)),
    K.lookup fI = some ⟨oc, od, .func (ksFn "__init__" qn (xA f p1 p2) (xB f m j q1 q2 q3 q4 q5 q6 q7 q8 q9 q10) (xS f) .none .none doc pm an (.ref cda) ct cc), osl⟩ ∧ codeIn K (.ref cda) qn = true ∧
    K.lookup cda = some ⟨ccl, cdd, .fields vs, ccs⟩ ∧ vs[2]? = some (.str file tf) ∧ ((prog.main.file : Str) == file) = true ∧ K.lookup cc = some ⟨cl, cld, .cell (some (.ref C)), csl⟩ ∧ (q3.endLine == q5.line) = true
section
variable {f : Str}
theorem xS_self : (xS f).names.lookup ("self" : Str) = some .local := by simp [xS, List.lookup]
theorem xS_f (o : FldOk f) : (xS f).names.lookup f = some .local := by simp [xS, List.lookup, o.e1]
theorem xS_class (o : FldOk f) : (xS f).names.lookup ("__class__" : Str) = some .free := by
  have h1 : ((PySem.Str.ofString "__class__") == (PySem.Str.ofString "self")) = false := by decide +kernel
  simp [xS, List.lookup, o.e2, h1]
theorem xS_super (o : FldOk f) : (xS f).names.lookup ("super" : Str) = some .globalImplicit := by
  have h1 : ((PySem.Str.ofString "super") == (PySem.Str.ofString "self")) = false := by decide +kernel
  have h2 : ((PySem.Str.ofString "super") == (PySem.Str.ofString "__class__")) = false := by decide +kernel
  simp [xS, List.lookup, o.e3, h1, h2]
end
theorem own_drop (C : Addr) (l : List Value) : ((Value.ref C :: l).dropWhile (· != .ref C)).drop 1 = l := by simp [List.dropWhile_cons]
/-- what __init__ leaves of a fresh exception at x -/
structure InitEnd (f : Str) (h h' : Heap) (x C dx : Addr) (v : Value) : Prop where
  keep : ∀ b o, b ≠ x → h.get? b = some o → h'.get? b = some o
  obj : ∃ t1, h'.get? x = some { cls := .ref C, dict := some dx, data := .fields #[.ref t1, .none, .none, .none, .bool false, .none] }
  dbig : h.objs.size ≤ dx
  dne : dx ≠ x
  ns : h'.Ns1 dx (fun y => if y = f then some v else none)
/-- a made one -/
structure XMade (f : Str) (h h' : Heap) (e C d : Addr) (v : Value) : Prop where
  keep : ∀ b o, h.get? b = some o → h'.get? b = some o
  new : h.objs.size ≤ e
  obj : ∃ oe vs, h'.get? e = some oe ∧ oe.cls = .ref C ∧ oe.dict = some d ∧ oe.data = .fields vs ∧ vs[1]? = some .none
  dbig : h.objs.size ≤ d
  dne : d ≠ e
  ns : h'.Ns1 d (fun y => if y = f then some v else none)
section
open Builtin Builtin.ObjectAttr
variable {prog : Program} {w : World} {A : Around} {E : Value → Shared → Prop} {R : Result → Shared → Prop} {hp : Heap} {g : Array GenState} {d : Drawn} {t : Nat} {os : OsState}
/-- self.name = v on an exception without a dict, by what its classes let -/
theorem osa_first {K : Frag} {name : Str} {tk : Tok} {v : Value} {x C : Addr} {fv : Array Value} {cd : ClassData}
    (X : K.In hp) (hx : hp.get? x = some { cls := .ref C, data := .fields fv }) (hcd : clsIn K C = some cd) (hob : mroIn K C (.type "object") = some true) (hpass : refuseLoop (.ref x) "__setattr__" cd.mro = pure ()) (hh : cd.hasDict = true) (ha : findIn K (.ref C) name = some none)
    (hq : ∀ h' tk' dx, (∀ b o, b ≠ x → hp.get? b = some o → h'.get? b = some o) → hp.objs.size ≤ dx → dx ≠ x → h'.get? x = some { cls := .ref C, dict := some dx, data := .fields fv } →
      h'.Ns1 dx (fun y => if y = name then some v else none) → R (.ok (.ret .none)) ⟨h', g, d, tk', os⟩) :
    codeAny (model prog w) A (.call (.builtin "object.__setattr__") ⟨[.ref x, .str name tk, v], []⟩) R ⟨hp, g, d, t, os⟩ := by
  have I : InstAt hp x { cls := .ref C, data := .fields fv } C none := ⟨hx, rfl, rfl, trivial⟩
  have hxs : x ≠ hp.objs.size := Nat.ne_of_lt (Heap.lt_size hx)
  have SF := F.store_object
  have sub : Looks (model prog w) hp (isInstance (.ref x) (.type "object")) true := I.type.andThen (looks_mroIn X hob)
  refine codeAny_call_builtin SF.slot.plain SF.entry (@check_slot (model prog w) _ _ ⟨hp, g, d, t, os⟩ "object.__setattr__" "object" "__setattr__" (.ref x) [.str name tk, v] [] _ SF.kind SF.split sub (SF.args (.ref x) (.str name tk) v) ?_)
  have hmr : Looks (model prog w) hp (mroOf (.ref C)) cd.mro := (looks_clsIn X hcd).andThen .now
  have L3 : Looks (model prog w) hp (storeTaker? none) none := .now
  have hcls : Looks (model prog w) hp (classData C) cd := looks_clsIn X hcd
  rw [osa_eq, refuse_eq]
  refine wpAny_bind (wpAny_bind (I.type.at (wpAny_bind (hmr.at ?_))))
  rw [hpass]
  refine wpAny_pure (wpAny_bind (I.type.at (wpAny_bind ((looks_findIn X ha).at (wpAny_bind (L3.at ?_))))))
  show wpAny _ _ (storeInOwnDict (.ref x) (.ref C) (.str name tk) name v false) _ _ _
  obtain ⟨nm, bs, mro, ns, qn, hd, sn, sb, ab, col, del⟩ := cd
  dsimp only at hh
  subst hh
  unfold storeInOwnDict ownDictForStores
  repeat (first | with_reducible refine HandSPX.store_in_new ?_ ?_ | with_reducible refine wpAny_loadPart_at hx ?_ | with_reducible refine hcls.at ?_ | wp_step)
  · exact ⟨_, #[], _, (Heap.get?_update_ne _ _ _ _ hxs.symm).trans (Heap.get?_push_at rfl rfl), rfl, fun e he => absurd he (by simp), fun _ => rfl⟩
  · intro h' tk' hn' hs
    have hx₁ : (hp.push { cls := .type "dict", data := .dict #[] }).get? x = some { cls := .ref C, data := .fields fv } := Heap.get?_push_of_some _ hx
    refine hq h' tk' hp.objs.size (fun b o hb ho => ?_) (Nat.le_refl _) hxs.symm ?_ hn'
    · exact (hs.2 b (Nat.ne_of_lt (Heap.lt_size ho))).trans ((Heap.get?_update_ne _ _ _ _ hb).trans (Heap.get?_push_of_some _ ho))
    · exact (hs.2 x hxs).trans (Heap.get?_update_self _ hx₁ rfl)
/-- the bound built-in __init__ called: the args are laid anew -/
theorem call_mw {nm q : Str} {C N : Addr} {bs bm bmB : List Value} {hdct : Bool} {sn : List Str} {sub : List Value} {ab : Bool} {col : Option Bool} {dd : Option Addr} {k0 k1 k2 k3 k5 : Option Value} {B newId i : String}
    {u e t0 : Addr} {rest : List Value} {Q : Value → Shared → Prop} (FB : ExcBaseFacts B newId i bmB)
    (hC : hp.get? C = some (excClassObj nm q C N bs bm hdct sn sub ab col dd k0 k1 k2 k3 k5 newId)) (he : hp.get? e = some (excO C t0)) (hu : hp.get? u = some (kxs_mw i e)) (hrest : rest.length ≤ sizeLine)
    (hq : ∀ h' t1, (∀ b o, b ≠ e → hp.get? b = some o → h'.get? b = some o) → h'.get? e = some (excO C t1) → Q .none ⟨h', g, d, t, os⟩) :
    wpAny (model prog w) A (call (.ref u) rest) Q E ⟨hp, g, d, t, os⟩ := by
  refine wpAny_call (codeAny_of_tree ?_)
  show wpAny _ A.in1 (callAny (.ref u) ⟨rest, []⟩) _ _ _
  simp only [callAny]
  refine wpAny_bind (wpAny_load hu ?_)
  simp only [kxs_mw, show (Value.type "method-wrapper" == Value.type "method" || Value.type "method-wrapper" == Value.type "builtin_function_or_method" || Value.type "method-wrapper" == Value.type "method-wrapper") = true by decide, if_true]
  refine KFB.if_so (by decide) ?_
  refine wpAny_bind (check_bound_init FB.toExcCallFacts hC he rfl ?_)
  refine wpAny_bind (wpAny_pure (wpAny_pure ?_))
  refine ⟨plainId_quiet FB.init.plain _, codeAny_builtin FB.initEntry ?_⟩
  exact exc_init_tree (cls := .ref C) (t0 := t0) (dv := none) (c2 := .none) (c3 := .none) (b4 := .bool false) he hrest fun h' k e' t' => hq h' _ k e'
end
section
variable {prog : Program} {w : World} {A : Around} {E : Value → Shared → Prop} {R : Result → Shared → Prop} {s : Shared} {K : Frag} {mg : Str → Option Value} {nx f : Str} {B i newId : String} {bmB : List Value} {C fI : Addr}
theorem x_init (T : XTxt prog K mg nx f B i newId bmB C fI) (FB : ExcBaseFacts B newId i bmB) (KF : KxsFacts B i) {x t0 : Addr} {v : Value} (X : K.In s.heap) (G : s.heap.Ns mainGlobals mg) (Bl : ∃ mb, s.heap.Ns builtinsNs mb ∧ ∀ x : Str, x ≠ "__name__" → mb x = bootBuiltins x)
    (hlim : s.heap.NoLimit) (hx : s.heap.get? x = some (excO C t0)) (hnx : K.lookup x = none) (hroom : A.depth < recursionLimit)
    (hq : ∀ h' tk dx, InitEnd f s.heap h' x C dx v → R (.ok (.ret .none)) { s with heap := h', toks := tk }) :
    codeAny (model prog w) A (.call (.ref fI) ⟨[.ref x, v], []⟩) R s := by
  obtain ⟨oc, od, doc, pm, an, cda, ct, cc, osl, qn, m, j, p1, p2, q1, q2, q3, q4, q5, q6, q7, q8, q9, q10, ccl, cdd, vs, ccs, file, tf, cl, cld, csl, ho, hcd, hcda, hvs, hfile, hcc, hln⟩ := T.fn
  obtain ⟨nm, q, N, bs, bm, sn, sub, ab, col, dd, k0, k1, k2, k3, k5, hC, hT, hpass, hal⟩ := T.cls
  obtain ⟨mb, hB, hBB⟩ := Bl
  have hcl : clsIn K C = some { name := nm, bases := bs, mro := .ref C :: bm, ns := N, qualname := q, hasDict := true, slotNames := sn, subclasses := sub, abstract := ab, collection := col, hasDel := false } := by unfold clsIn; rw [hC] <;> rfl
  refine ks_codeAny_call_defAt (fd := ksFn "__init__" qn (xA f p1 p2) (xB f m j q1 q2 q3 q4 q5 q6 q7 q8 q9 q10) (xS f) .none .none doc pm an (.ref cda) ct cc) (binds := [("self", .ref x), (f, v)]) hroom (X _ _ ho) rfl hlim (codeRec_of X hcd) rfl (T.fo.bd qn p1 p2 _ doc pm an _ ct cc s (.ref x) v) ?_ ?_ (fun h₁ hns k => ?_) rfl rfl rfl
  · intro y hy
    simp only [xS, List.mem_cons, List.not_mem_nil, or_false] at hy
    rcases hy with rfl | rfl | rfl | rfl <;> (intro z; cases z)
  · intro y hy
    simp only [List.mem_cons, List.not_mem_nil, or_false] at hy
    rcases hy with rfl | rfl
    · exact xS_self
    · exact xS_f T.fo
  · have X₁ : K.In h₁ := X.keeps k
    have hx₁ := k _ _ hx
    have hself : (fun y => List.lookup y ([(("self" : Str), Value.ref x), (f, v)].reverse)) ("self" : Str) = some (.ref x) := by
      have h1 : (("self" : Str) == f) = false := by rw [BEq.comm]; exact T.fo.e1
      simp [List.lookup, h1]
    have hval : (fun y => List.lookup y ([(("self" : Str), Value.ref x), (f, v)].reverse)) f = some v := by
      simp [List.lookup]
    have hCC : h₁.get? C = some _ := X₁ _ _ hC
    refine ks_wpAt_execs_cons (ks_wpAt_Expr_any (ks_wpAt_MethodCall (pl := do return (← importBound (.Call (.Name "super" q1) [] [] q2) (callEnv (ksFn "__init__" qn (xA f p1 p2) (xB f m j q1 q2 q3 q4 q5 q6 q7 q8 q9 q10) (xS f) .none .none doc pm an (.ref cda) ct cc) s.heap.objs.size fI)).getD true) ?_ ?_) rfl rfl)
    rotate_left
    · have e1 : ∀ (o : Expr) (env : Env), methodCallPos true o env q3 q5 = pure q5 := fun o env => by
        unfold methodCallPos
        rw [hln]
        rfl
      show (attributeBase _ _ _ _ >>= fun ov => standAt q3.atName >>= fun _ => (holding [ov] (calleeOf true _ _ ov _)) >>= fun x => methodCallPos true (.Call (.Name "super" q1) [] [] q2) (callEnv (ksFn "__init__" qn (xA f p1 p2) (xB f m j q1 q2 q3 q4 q5 q6 q7 q8 q9 q10) (xS f) .none .none doc pm an (.ref cda) ct cc) s.heap.objs.size fI) q3 q5 >>= fun cp => callWith cp x.1 x.2 _ _) = _
      rw [e1]
      rfl
    refine ks_wpAt_super_base (f := fI) (cc := cda) (file := file) (tf := tf) (xS_super T.fo) (xS_class T.fo) (by decide) rfl (X₁ _ _ ho) rfl rfl rfl (X₁ _ _ hcda) rfl hvs hfile T.top ?_
    refine ks_loadName_global rfl (xS_super T.fo) (loadGlobal_builtin (G.keeps k) T.sup (hB.keeps k) ((hBB _ (by decide +kernel)).trans (by first | boot_by_name | rfl | kernel_rfl)) ⟨rfl, ?_⟩)
    refine wpAny_loadName_free rfl (xS_class T.fo) rfl ⟨_, X₁ _ _ hcc, rfl⟩ ?_
    refine wpAny_loadName_local rfl xS_self hns hself ?_
    refine ks_wpAny_isType_cls hCC rfl ⟨rfl, ?_⟩
    refine ks_wpAny_call_super hCC rfl hx₁ rfl (fun c e => by cases e) (looks_mroIn X₁ T.sD) (fun h₂ hso k₂ => ?_)
    have X₂ : K.In h₂ := X₁.keeps k₂
    have hx₂ := k₂ _ _ hx₁
    have I₂ : InstAt h₂ x (excO C t0) C none := ⟨hx₂, rfl, rfl, trivial⟩
    have hxC : x ≠ C := fun z => by rw [z, hC] at hnx; cases hnx
    refine kxs_getMethod (l₀ := .ref C :: bm) KF hso (looks_opaque X₂ T.op) ((looks_clsIn X₂ hcl).andThen .now) rfl X₂ (by rw [own_drop]; exact hal) (I₂.type.andThen (looks_subIn X₂ T.sB)) hxC (by decide) ?_
    have k₃ : ∀ b o, h₂.get? b = some o → (h₂.push (kxs_mw i x)).get? b = some o := fun b o e => Heap.get?_push_of_some _ e
    refine kxs_callWith (i := i) (x := x) rfl ?_
    refine evalArgs_plain (Calls.spliced_cons ?_)
    refine Calls.Constant_str (x := m) (k := j) (pos := q4) (Calls.spliced_nil ?_)
    have hu : (h₂.push (kxs_mw i x)).get? h₂.objs.size = some (kxs_mw i x) := Heap.get?_push_at rfl rfl
    refine ⟨hu, ?_⟩
    show wpAny _ _ (call (.ref h₂.objs.size) [_]) _ _ _
    refine call_mw FB (k₃ _ _ (X₂ _ _ hC)) (k₃ _ _ hx₂) hu (by show 1 ≤ sizeLine; rw [sizeLine_eq]; decide) (fun h₄ t1 k₄ hx₄ => ?_)
    have kx : ∀ b o, b ≠ x → s.heap.get? b = some o → h₄.get? b = some o := fun b o hb e => k₄ b o hb (k₃ b o (k₂ b o (k b o e)))
    have X₄ : K.In h₄ := fun b o e => kx b o (fun z => by rw [z, hnx] at e; cases e) (X b o e)
    have hxL : x ≠ s.heap.objs.size := Nat.ne_of_lt (Heap.lt_size hx)
    have hns₄ : h₄.Ns s.heap.objs.size (fun y => List.lookup y ([(("self" : Str), Value.ref x), (f, v)].reverse)) := by
      obtain ⟨oL, es, ep, hL, r⟩ := hns
      exact ⟨oL, es, ep, k₄ _ _ hxL.symm (k₃ _ _ (k₂ _ _ hL)), r⟩
    refine ks_wpAt_execs_cons (_root_.PySem.wpAt_of_wpAny (plainObj_wpAny_Assign_Attribute ?_))
    refine wpAny_Name (wpAny_loadName_local rfl (xS_f T.fo) hns₄ hval ?_) T.fo.e4
    refine wpAny_Name (wpAny_loadName_local rfl xS_self hns₄ hself ?_) (by decide)
    refine set_plain X₄ (ox := excO C t1) (od := none) ⟨hx₄, rfl, rfl, trivial⟩ T.sa ?_
    refine osa_first X₄ hx₄ hcl T.sO (by rw [refuseLoop_ref]; exact hpass _) rfl T.noF (fun h₅ tk₅ dx k₅ dn dne hx₅ hn₅ => ?_)
    refine _root_.PySem.wpAt_of_wpAny (wpAny_execs_nil ?_)
    refine hq h₅ tk₅ dx ⟨fun b o hb e => k₅ b o hb (kx b o hb e), ⟨t1, hx₅⟩, ?_, dne, hn₅⟩
    exact Nat.le_trans (Nat.le_of_lt hns₄.lt) dn
theorem x_made (T : XTxt prog K mg nx f B i newId bmB C fI) (FB : ExcBaseFacts B newId i bmB) (KF : KxsFacts B i) {v : Value} (X : K.In s.heap) (G : s.heap.Ns mainGlobals mg) (Bl : ∃ mb, s.heap.Ns builtinsNs mb ∧ ∀ x : Str, x ≠ "__name__" → mb x = bootBuiltins x)
    (hlim : s.heap.NoLimit) (hroom : A.depth + 1 < recursionLimit)
    (hq : ∀ h' tk e d, XMade f s.heap h' e C d v → R (.ok (.ret (.ref e))) { s with heap := h', toks := tk }) :
    codeAny (model prog w) A (.call (.ref C) ⟨[v], []⟩) R s := by
  obtain ⟨nm, q, N, bs, bm, sn, sub, ab, col, dd, k0, k1, k2, k3, k5, hC, hT, hpass, hal⟩ := T.cls
  obtain ⟨mb, hB, hBB⟩ := Bl
  obtain ⟨hp, g, dr, tk, os⟩ := s
  have k : ∀ b o, hp.get? b = some o → ((hp.push (kdv_tup [v])).push (excO C hp.objs.size)).get? b = some o := fun b o e => Heap.get?_push_of_some _ (Heap.get?_push_of_some _ e)
  have hget : ((hp.push (kdv_tup [v])).push (excO C hp.objs.size)).get? (hp.objs.size + 1) = some (excO C hp.objs.size) := by heap_get
  have hnx : K.lookup (hp.objs.size + 1) = none := by
    cases e : K.lookup (hp.objs.size + 1) with
    | none => rfl
    | some o =>
      have z : hp.get? (hp.objs.size + 1) = some o := X _ _ e
      exact absurd (Nat.lt_of_succ_lt (Heap.lt_size z)) (Nat.lt_irrefl _)
  refine call_own FB hT (X _ _ hC) (looks_findIn X T.iC) (fun self => bind_fn X self T.tC) (by show 1 ≤ sizeLine; rw [sizeLine_eq]; decide) ?_
  refine x_init (s := ⟨(hp.push (kdv_tup [v])).push (excO C hp.objs.size), g, dr, tk, os⟩) T FB KF (X.keeps k) (G.keeps k) ⟨mb, hB.keeps k, hBB⟩ (hlim.keeps k) hget hnx ?_ fun h' tk' dx ⟨k', ⟨t1, hx⟩, dn, dne, hns⟩ => ?_
  · show A.depth + 1 < recursionLimit
    exact hroom
  · have old : ∀ b o, hp.get? b = some o → h'.get? b = some o := fun b o e => k' b o (Nat.ne_of_lt (Nat.lt_succ_of_lt (Heap.lt_size e))) (k b o e)
    have z : hp.objs.size + 1 + 1 ≤ dx := by
      have q := dn
      rw [Heap.size_push, Heap.size_push] at q
      exact q
    exact ⟨rfl, hq h' tk' (hp.objs.size + 1) dx ⟨old, Nat.le_succ _, ⟨_, _, hx, rfl, rfl, rfl, rfl⟩, Nat.le_trans (Nat.le_trans (Nat.le_succ _) (Nat.le_succ _)) z, dne, hns⟩⟩
end
end LfX
end PySem
namespace L2
open PySem PySem.Spec PyProof.Rows
theorem relO_one {f : Str} {v : V} {v' : Value} (r : RelV v v') (y : Str) : RelO (List.lookup y [(f, v)]) (if y = f then some v' else none) := by
  by_cases hw : y = f
  · subst hw
    rw [if_pos rfl]
    have q : List.lookup y [(y, v)] = some v := by simp [List.lookup]
    rw [q]
    exact r
  · rw [if_neg hw]
    have qw : (y == f) = false := by simpa using hw
    have q2 : List.lookup y [(f, v)] = none := by simp [List.lookup, qw]
    rw [q2]
    trivial
section
variable {X : Cx} {C fI : Addr} {nx f : Str} {B i newId : String} {bmB : List Value}
/-- C(e) for such a class -/
def tMkX (C : Addr) (f : Str) (ta : TA) : L2.St → Hp → XK → Prop := fun σ H Q => ta σ H fun vs H1 => ∃ v, vs = [v] ∧ ∀ d, H1 d = none → Q (.ref C) (some d) (upd H1 d (.xd [(f, v)]))
theorem pmk_x {a : Expr} {ta : TA} {p pos : Pos} {k : Nat} (T : PySem.LfX.XTxt X.prog X.K X.mg nx f B i newId bmB C fI) (FB : ExcBaseFacts B newId i bmB) (KF : PySem.W.KxsFacts B i) (hr : Room k X.A) (ha : PA X [a] ta) (hg : Gl X nx := by rfl) (hdb : (nx == ("__debug__" : Str)) = false := by decide)
    (he : starEach (a :: []) X.env = (false, eval a X.env) :: starEach [] X.env := by rfl) (hpl : (backTo pos (starEach [] X.env)).any (·.1) = false := by rfl) :
    PMk X (.Call (.Name nx p) [a] [] pos) (tMkX C f ta) := by
  intro pins s σ H Q I h
  refine wpAny_Call_Name_kw (ld_glob I hg T.gC ?_ hdb)
  refine PySem.W.callWith_K (h₀ := X.base) I.ok.mod.kin T.kC (thn (ha.run pos pins s σ H _ I h) fun us s1 hh => ?_) he hpl
  obtain ⟨vs, H1, I1, r1, v, ev, q1⟩ := hh
  subst ev
  refine ⟨I1.kIn, ?_⟩
  cases r1 with
  | cons rv rn =>
    rename_i v' us'
    cases rn
    show wpAny _ _ (call (.ref C) [v']) _ _ _
    have hlim := I1.nolimit
    have hG : s1.heap.Ns mainGlobals X.mg := I1.ok.mod.glob.keeps I1.bk
    have hB : ∃ mb, s1.heap.Ns builtinsNs mb ∧ ∀ x : Str, x ≠ "__name__" → mb x = bootBuiltins x := by
      obtain ⟨mb, b1, b2⟩ := I1.ok.mod.blt
      exact ⟨mb, b1.keeps I1.bk, b2⟩
    obtain ⟨hp, g, dr, tk, os⟩ := s1
    refine wpAny_call (PySem.LfX.x_made T FB KF I1.kIn hG hB hlim (by have := hr.dp; omega) fun h' tk' e d M => ?_)
    show MkP X pins σ Q (.ref e) ⟨h', g, dr, tk', os⟩
    obtain ⟨oe, fv, hoe, hc, hd, hdat, h1⟩ := M.obj
    have hns := M.ns
    obtain ⟨G', g1, g2⟩ := restrict h' fun b => decide (b ≠ e)
    have gk : ∀ b, b ≠ e → G'.get? b = h'.get? b := fun b hb => g1 b (decide_eq_true hb)
    have ge : G'.get? e = none := g2 e (by simp)
    have old : ∀ b o, hp.get? b = some o → G'.get? b = some o := fun b o q => (gk b (Nat.ne_of_lt (Nat.lt_of_lt_of_le (Heap.lt_size q) M.new))).trans (M.keep b o q)
    have ob : ObjOk X.prog X.w (upd H1 d (.xd [(f, v)])) G' d (.xd [(f, v)]) :=
      ⟨_, hns.at (fun o q => (gk d M.dne).trans q), fun y => relO_one rv y⟩
    have J : Inv X pins σ (upd H1 d (.xd [(f, v)])) ⟨G', g, dr, tk', os⟩ := I1.laid (t' := tk') old M.dbig ob
    refine ⟨e, oe, fv, ⟨G', g, dr, tk', os⟩, _, .ref C, some d, rfl, J, fun b o q => ?_, ge, hoe, ⟨hc, hd⟩, hdat, h1, ?_, rfl, I1.bare, raises_own T.exC T.tyC, q1 d (I1.hok.fresh M.dbig)⟩
    · by_cases hb : b = e
      · have q' : G'.get? b = some o := q
        rw [hb, ge] at q'; cases q'
      · exact (gk b hb).symm.trans q
    · rw [upd_ne (Ne.symm M.dne)]
      exact I1.hok.fresh M.new
end
end L2
set_option maxHeartbeats 4000000
/-! A def of the text as one fact, and its call -/
namespace L2
open PySem PySem.Spec PyProof.Rows
/-- the def x of the text stands at its name -/
def Df (K : PySem.W.Frag) (mg : Str → Option Value) (x : Str) (st : Stmt) : Prop := ∃ f fd, Fun K x x st f fd ∧ mg x = some (.ref f)
/-- the def x keeps the promise sp -/
def DefOk (P : Program) (w : World) (K : PySem.W.Frag) (mg : Str → Option Value) (base : Heap) (CX : CXT) (k : Nat) (x : Str) (ps : List Str) (sp : Sp) : Prop :=
  ∃ f fd, mg x = some (.ref f) ∧ PySem.W.keepIn K (.ref f) = true ∧ Binds K fd ps [] ∧ FnOk P w K mg base CX k f fd ps sp
section
variable {P : Program} {w : World} {K : PySem.W.Frag} {mg : Str → Option Value} {base : Heap} {x : Str} {st : Stmt} {N ps : List Str} {k : Nat} {sp : Sp}
theorem Df.ok (D : Df K mg x st) (S : FnScope N ps (defScope st))
    (bd : ∀ (kV doc pm : Value) (an : Option Addr) (cdv ct : Value) (us : List Value), us.length = ps.length → bindArgs (PySem.W.fnOf x x (defArgs st) (defBody st) (defScope st) .none kV doc pm an cdv ct) ⟨us, []⟩ = pure (ps.zip us))
    (len : ∀ vs H Q E, sp vs H Q E → vs.length = ps.length)
    (hbody : ∀ (f : Addr) (cdv : Value) (A : Around) (outer : List Env) (s : Shared) (H : Hp) (vs : List V) (Q : VK) (E : XK), Room k (A.deeper (envOfC x (defScope st) s.heap.objs.size f cdv)) → sp vs H Q E →
      ∃ t, PSs (cxOf CX0 P w K mg base N x (defScope st) f cdv A outer s H E).nox (defBody st) t ∧ t { nx := fun _ H' => Q .non H', rt := Q } (start N vs) H) : DefOk P w K mg base CX0 (k + 1) x ps sp := by
  obtain ⟨f, fd, F, hm⟩ := D
  exact ⟨f, fd, hm, F.kp, F.binds bd, F.ok S len (hbody f)⟩
theorem Df.okX (D : Df K mg x st) (S : FnScope N ps (defScope st))
    (bd : ∀ (kV doc pm : Value) (an : Option Addr) (cdv ct : Value) (us : List Value), us.length = ps.length → bindArgs (PySem.W.fnOf x x (defArgs st) (defBody st) (defScope st) .none kV doc pm an cdv ct) ⟨us, []⟩ = pure (ps.zip us))
    (len : ∀ vs H Q E, sp vs H Q E → vs.length = ps.length)
    (hbody : ∀ (f : Addr) (cdv : Value) (A : Around) (outer : List Env) (s : Shared) (H : Hp) (vs : List V) (Q : VK) (E : XK), Room k (A.deeper (envOfC x (defScope st) s.heap.objs.size f cdv)) → sp vs H Q E →
      ∃ t, PSs (cxOf (L2.CX P w) P w K mg base N x (defScope st) f cdv A outer s H E) (defBody st) t ∧ t { nx := fun _ H' => Q .non H', rt := Q } (start N vs) H) : DefOk P w K mg base (L2.CX P w) (k + 1) x ps sp := by
  obtain ⟨f, fd, F, hm⟩ := D
  exact ⟨f, fd, hm, F.kp, F.binds bd, F.okX S len (hbody f)⟩
end
section
variable {X : Cx} {CX : CXT} {k : Nat} {ps : List Str} {sp : Sp} {E : XK} {ES : St → XK} {x : Str} {p pos : Pos} {e : Expr} {es : List Expr} {t : TA}
def tCallD (sp : Sp) (E : XK) (t : TA) : TE := fun σ H Q => t σ H fun vs H1 => sp vs H1 Q E
theorem pe_callD (D : DefOk X.prog X.w X.K X.mg X.base CX k x ps sp) (hr : Room k X.A) (hx : Passes CX X E) (ha : PA X (e :: es) t) (hg : Gl X x := by rfl) (hdb : (x == ("__debug__" : Str)) = false := by decide)
    (he : starEach (e :: es) X.env = (false, eval e X.env) :: starEach es X.env := by rfl) (hpl : (backTo pos (starEach es X.env)).any (·.1) = false := by rfl) :
    PE X (.Call (.Name x p) (e :: es) [] pos) (tCallD sp E t) := by
  obtain ⟨f, fd, hm, hk, hb, F⟩ := D
  refine ⟨fun pins s σ H Q I h => (pe_call F hr hg hm hk hb (.nil) hx ha hdb he hpl).run pins s σ H Q I ?_⟩
  have q : (fun vs H1 => sp vs H1 Q E) = fun vs H1 => sp (vs ++ []) H1 Q E := by
    funext vs H1
    rw [List.append_nil]
  show t σ H (fun vs H1 => sp (vs ++ []) H1 Q E)
  rw [← q]
  exact h
theorem pe_callDS (D : DefOk X.prog X.w X.K X.mg X.base CX k x ps sp) (hr : Room k X.A) (hx : ∀ σ, PassesAt CX X σ (ES σ)) (ha : PA X (e :: es) t) (hg : Gl X x := by rfl) (hdb : (x == ("__debug__" : Str)) = false := by decide)
    (he : starEach (e :: es) X.env = (false, eval e X.env) :: starEach es X.env := by rfl) (hpl : (backTo pos (starEach es X.env)).any (·.1) = false := by rfl) :
    PE X (.Call (.Name x p) (e :: es) [] pos) (tCallS sp ES t) := by
  obtain ⟨f, fd, hm, hk, hb, F⟩ := D
  exact pe_callS F hr hg hm hk hb hx ha hdb he hpl
/-- a module's int -/
theorem pe_gInt {n : Int} (hg : Gl X x) (h : ∃ t, X.mg x = some (.int n t)) (hd : (x == ("__debug__" : Str)) = false := by decide) : PE X (.Name x pos) (tC (.int n)) := by
  obtain ⟨t, hm⟩ := h
  exact pe_glob hg hm ⟨t, rfl⟩ hd
theorem pe_gStr {n : Str} (hg : Gl X x) (h : ∃ t, X.mg x = some (.str n t)) (hd : (x == ("__debug__" : Str)) = false := by decide) : PE X (.Name x pos) (tC (.str n)) := by
  obtain ⟨t, hm⟩ := h
  exact pe_glob hg hm ⟨t, rfl⟩ hd
end
end L2
set_option maxHeartbeats 4000000
/-! Kinds of values, numbers; the defs is_number, is_integer, require_integer -/
namespace Lf
open PySem L2
/-- the built-in kind of a value -/
inductive Kd (H : Hp) : V → String → Prop
  | non : Kd H .non "NoneType"
  | bl (b : Bool) : Kd H (.bl b) "bool"
  | int (i : Int) : Kd H (.int i) "int"
  | str (x : Str) : Kd H (.str x) "str"
  | lst {a : Addr} {xs : List V} (e : H a = some (.lst xs)) : Kd H (.ref a) "list"
  | tup {a : Addr} {xs : List V} (e : H a = some (.tup xs)) : Kd H (.ref a) "tuple"
  | dic {a : Addr} {kvs : List (Key × V)} (e : H a = some (.dK kvs)) : Kd H (.ref a) "dict"
theorem Kd.ty {H : Hp} {v : V} {t : String} (K : PySem.W.Frag) (k : Kd H v t) : TyX K H v (.type t) := by
  cases k with
  | non => exact .base .non
  | bl b => exact .base (.bl b)
  | int i => exact .base (.int i)
  | str x => exact .base (.str x)
  | lst e => exact .base (.lst e)
  | tup e => exact .base (.tup e)
  | dic e => exact .base (.dK e)
theorem Kd.same {H H' : Hp} {v : V} {t : String} (s : Same H H') (k : Kd H v t) : Kd H' v t := by
  cases k with
  | non => exact .non
  | bl b => exact .bl b
  | int i => exact .int i
  | str x => exact .str x
  | lst e => exact .lst (s _ _ e)
  | tup e => exact .tup (s _ _ e)
  | dic e => exact .dic (s _ _ e)
def numV : V → Bool
  | .int _ => true
  | _ => false
def lim : Int := 1000000000000000000000000000000
def intV : V → Bool
  | .int i => decide (-lim < i) && decide (i < lim)
  | _ => false
theorem Kd.int_ {H : Hp} {v : V} {t : String} (k : Kd H v t) : kitB t "int" = some (numV v || t == "bool") := by
  cases k <;> (first | rfl | decide +kernel)
theorem Kd.bool_ {H : Hp} {v : V} {t : String} (k : Kd H v t) : kitB t "bool" = some (t == "bool") := by
  cases k <;> (first | rfl | decide +kernel)
theorem Kd.tuple_ {H : Hp} {v : V} {t : String} (k : Kd H v t) : kitB t "tuple" = some (t == "tuple") := by
  cases k <;> (first | rfl | decide +kernel)
theorem Kd.num_ {H : Hp} {v : V} {t : String} (k : Kd H v t) : (if (numV v || t == "bool") = true then (!(t == "bool")) else false) = numV v := by
  cases k <;> (first | rfl | decide +kernel)
theorem if_so {c : Bool} {A B : Prop} (hc : c = true) (h : A) : if c = true then A else B := by
  rw [if_pos hc]
  exact h
theorem if_no {c : Bool} {A B : Prop} (hc : c = false) (h : B) : if c = true then A else B := by
  rw [hc, if_neg Bool.false_ne_true]
  exact h
def spIsNumber : Sp := fun vs H Q _ => ∃ v t, vs = [v] ∧ Kd H v t ∧ Q (.bl (numV v)) H
def spIsInteger : Sp := fun vs H Q _ => ∃ v t, vs = [v] ∧ Kd H v t ∧ Q (.bl (intV v)) H
def spReqInt (CN : Addr) : Sp := fun vs H Q E => ∃ v t, vs = [v] ∧ Kd H v t ∧ (intV v = true → Q .non H) ∧
  (intV v = false → ∀ d, H d = none → E (.ref CN) (some d) (upd H d (.xd [("value", v)])))
/-- the builtins' names that are not bound by the text, the constants -/
structure NumT (K : PySem.W.Frag) (mg : Str → Option Value) : Prop where
  n_isinstance : mg "isinstance" = none
  n_int : mg "int" = none
  n_bool : mg "bool" = none
  g_LIMIT : ∃ t, mg "LIMIT" = some (.int lim t)
section
variable {P : Program} {w : World} {K : PySem.W.Frag} {mg : Str → Option Value} {base : Heap} {st : Stmt}
end
end Lf
set_option maxHeartbeats 4000000
/-! Methods and properties as one fact each; sizes of ints -/
namespace L2
open PySem PySem.Spec PyProof.Rows
/-- the method m of the class at C, by its text -/
def Dm (K : PySem.W.Frag) (C : Addr) (m qual : Str) (st : Stmt) : Prop := ∃ f fd, Fun K m qual st f fd ∧ Meth K C m f
/-- the property m of the class at C, by its getter's text -/
def Dp_ (K : PySem.W.Frag) (C : Addr) (m qual : Str) (st : Stmt) : Prop := ∃ p f fd, Fun K m qual st f fd ∧ PropOf K C m p f
def MethOk (P : Program) (w : World) (K : PySem.W.Frag) (mg : Str → Option Value) (base : Heap) (CX : CXT) (k : Nat) (C : Addr) (m : Str) (ps : List Str) (sp : Sp) : Prop :=
  ∃ f fd, Meth K C m f ∧ Binds K fd ps [] ∧ FnOk P w K mg base CX k f fd ps sp
def PropOk (P : Program) (w : World) (K : PySem.W.Frag) (mg : Str → Option Value) (base : Heap) (CX : CXT) (k : Nat) (C : Addr) (m : Str) (ps : List Str) (sp : Sp) : Prop :=
  ∃ p f fd, PropOf K C m p f ∧ Binds K fd ps [] ∧ FnOk P w K mg base CX k f fd ps sp
section
variable {P : Program} {w : World} {K : PySem.W.Frag} {mg : Str → Option Value} {base : Heap} {C : Addr} {x qual : Str} {st : Stmt} {N ps : List Str} {k : Nat} {sp : Sp}
theorem Dm.ok (D : Dm K C x qual st) (S : FnScope N ps (defScope st))
    (bd : ∀ (kV doc pm : Value) (an : Option Addr) (cdv ct : Value) (us : List Value), us.length = ps.length → bindArgs (PySem.W.fnOf x qual (defArgs st) (defBody st) (defScope st) .none kV doc pm an cdv ct) ⟨us, []⟩ = pure (ps.zip us))
    (len : ∀ vs H Q E, sp vs H Q E → vs.length = ps.length)
    (hbody : ∀ (f : Addr) (cdv : Value) (A : Around) (outer : List Env) (s : Shared) (H : Hp) (vs : List V) (Q : VK) (E : XK), Room k (A.deeper (envOfC qual (defScope st) s.heap.objs.size f cdv)) → sp vs H Q E →
      ∃ t, PSs (cxOf CX0 P w K mg base N qual (defScope st) f cdv A outer s H E).nox (defBody st) t ∧ t { nx := fun _ H' => Q .non H', rt := Q } (start N vs) H) : MethOk P w K mg base CX0 (k + 1) C x ps sp := by
  obtain ⟨f, fd, F, hm⟩ := D
  exact ⟨f, fd, hm, F.binds bd, F.ok S len (hbody f)⟩
theorem Dp_.ok (D : Dp_ K C x qual st) (S : FnScope N ps (defScope st))
    (bd : ∀ (kV doc pm : Value) (an : Option Addr) (cdv ct : Value) (us : List Value), us.length = ps.length → bindArgs (PySem.W.fnOf x qual (defArgs st) (defBody st) (defScope st) .none kV doc pm an cdv ct) ⟨us, []⟩ = pure (ps.zip us))
    (len : ∀ vs H Q E, sp vs H Q E → vs.length = ps.length)
    (hbody : ∀ (f : Addr) (cdv : Value) (A : Around) (outer : List Env) (s : Shared) (H : Hp) (vs : List V) (Q : VK) (E : XK), Room k (A.deeper (envOfC qual (defScope st) s.heap.objs.size f cdv)) → sp vs H Q E →
      ∃ t, PSs (cxOf CX0 P w K mg base N qual (defScope st) f cdv A outer s H E).nox (defBody st) t ∧ t { nx := fun _ H' => Q .non H', rt := Q } (start N vs) H) : PropOk P w K mg base CX0 (k + 1) C x ps sp := by
  obtain ⟨p, f, fd, F, hm⟩ := D
  exact ⟨p, f, fd, hm, F.binds bd, F.ok S len (hbody f)⟩
end
section
variable {X : Cx} {CX : CXT} {k : Nat} {C : Addr} {ps : List Str} {sp : Sp} {E : XK} {m : Str} {p pos apos : Pos} {o e : Expr} {es : List Expr} {ta : TE} {t : TA}
def tMethD (C : Addr) (m : Str) (sp : Sp) (E : XK) (ta : TE) (t : TA) : TE := fun σ H Q => ta σ H fun x H1 => ∃ a dx fs, x = .ref a ∧ H1 a = some (.ins C dx fs) ∧ fs.lookup m = none ∧ t σ H1 fun vs H2 => sp (x :: vs) H2 Q E
theorem meth_nil {ta : TE} {t : TA} {σ : St} {H : Hp} {Q : VK} (h : tMethD C m sp E ta t σ H Q) : tMeth C m sp [] E ta t σ H Q := by
  have e : tMethD C m sp E ta t = tMeth C m sp [] E ta t := by
    funext σ H Q
    unfold tMethD tMeth
    simp only [List.append_nil]
  rw [← e]
  exact h
theorem pe_methD {pl : Sem Bool} (he : PE X o ta) (c : Cls X.K C) (D : MethOk X.prog X.w X.K X.mg X.base CX k C m ps sp) (hr : Room k X.A) (hx : Passes CX X E) (ha : PA X (e :: es) t)
    (hst : starEach (e :: es) X.env = (false, eval e X.env) :: starEach es X.env := by rfl) (hpl : (backTo pos (starEach es X.env)).any (·.1) = false := by rfl)
    (ht : eval (.Call (.Attribute o m apos) (e :: es) [] pos) X.env = (do
      let ov ← eval o X.env
      standAt apos.atName
      let (f, first) ← holding [ov] (getMethod ov m pl)
      callWith pos f first (backTo pos (starEach (e :: es) X.env)) (backToKw pos (keywordEach [] X.env))) := by rfl) :
    PE X (.Call (.Attribute o m apos) (e :: es) [] pos) (tMethD C m sp E ta t) := by
  obtain ⟨f, fd, hm, hb, F⟩ := D
  exact ⟨fun pins s σ H Q I h => (pe_meth he c hm F hr hb .nil hx ha hst hpl ht).run pins s σ H Q I (meth_nil h)⟩
theorem pe_methD0 {pl : Sem Bool} (he : PE X o ta) (c : Cls X.K C) (D : MethOk X.prog X.w X.K X.mg X.base CX k C m ps sp) (hr : Room k X.A) (hx : Passes CX X E)
    (ht : eval (.Call (.Attribute o m apos) [] [] pos) X.env = (do
      let ov ← eval o X.env
      standAt apos.atName
      let (f, first) ← holding [ov] (getMethod ov m pl)
      callWith pos f first (backTo pos (starEach [] X.env)) (backToKw pos (keywordEach [] X.env))) := by rfl) :
    PE X (.Call (.Attribute o m apos) [] [] pos) (tMethD C m sp E ta tNil) := by
  obtain ⟨f, fd, hm, hb, F⟩ := D
  exact ⟨fun pins s σ H Q I h => (pe_meth0 he c hm F hr hb .nil hx ht).run pins s σ H Q I (meth_nil h)⟩
/-- e.f, a property -/
theorem pe_propD (he : PE X e ta) (c : Cls X.K C) (D : PropOk X.prog X.w X.K X.mg X.base CX k C m ps sp) (hr : Room (k + 1) X.A) (hx : Passes CX X.nox E)
    (hab : attributeBase e m X.env (eval e X.env) = eval e X.env := by rfl) : PE X (.Attribute e m pos) (tProp C sp [] E ta) := by
  obtain ⟨p, f, fd, hm, hb, F⟩ := D
  exact pe_prop he c hm F hr hb .nil hx hab
/-- // by any great divisor but 0 -/
def CDivV (_ j : Int) : Prop := j ≠ 0 ∧ j.natAbs.log2 < 9000
theorem op_fdivV : OpR X (binaryOp .FloorDiv) (rI CDivV fun i j => .int (i.fdiv j)) := opI fun _ _ _ _ _ _ _ hc q => floordiv_int hc.1 q (.inl (PyProof.noPylong_of_log2 hc.2))
end
end L2
namespace Lf
open PySem L2
/-! ### sizes -/
def Bd (n : Nat) (i : Int) : Prop := i.natAbs < 2 ^ n
theorem Bd.mono {n m : Nat} {i : Int} (h : Bd n i) (hm : n ≤ m) : Bd m i := Nat.lt_of_lt_of_le h (Nat.pow_le_pow_right (by decide) hm)
theorem Bd.add {n m : Nat} {i j : Int} (h : Bd n i) (h' : Bd n j) (hm : n + 1 ≤ m) : Bd m (i + j) := by
  refine Bd.mono (n := n + 1) ?_ hm
  unfold Bd at *
  have := Int.natAbs_add_le i j
  rw [Nat.pow_succ]
  omega
theorem Bd.neg {n : Nat} {i : Int} (h : Bd n i) : Bd n (-i) := by
  unfold Bd at *
  rw [Int.natAbs_neg]
  exact h
theorem Bd.sub {n m : Nat} {i j : Int} (h : Bd n i) (h' : Bd n j) (hm : n + 1 ≤ m) : Bd m (i - j) := by
  rw [Int.sub_eq_add_neg]
  exact Bd.add h h'.neg hm
theorem Bd.mul {n m k : Nat} {i j : Int} (h : Bd n i) (h' : Bd m j) (hk : n + m ≤ k) : Bd k (i * j) := Bd.mono (wide_lt h h') hk
theorem Bd.ok {n m : Nat} {i j : Int} (h : Bd n i) (h' : Bd m j) (h0 : 0 < n) (h1 : 0 < m) (hs : n + m ≤ 1000000) : CMulW i j := wide_mul h h' h0 h1 hs
theorem Bd.div {n : Nat} {i j : Int} (h : Bd n i) : Bd n (i / j) := Nat.lt_of_le_of_lt (Int.natAbs_ediv_le_natAbs i j) h
theorem Bd.dok {n : Nat} {i j : Int} (h : Bd n j) (hj : j ≠ 0) (h0 : 0 < n) (h9 : n ≤ 9000) : CDivV i j := ⟨hj, Nat.lt_of_lt_of_le (PySem.Flt.log2_lt_of h0 h) h9⟩
theorem Bd.dpos {n : Nat} {i j : Int} (h : Bd n j) (hj : 0 < j) (h0 : 0 < n) (h9 : n ≤ 9000) : CDivW i j := wide_div hj h h0 h9
theorem Bd.lit {n : Nat} {i : Int} (h : i.natAbs < 2 ^ n) : Bd n i := h
end Lf
set_option maxHeartbeats 4000000
/-! bool(x), x an instance whose class has a __bool__ of its own -/
namespace LfB
open PySem PySem.Spec PyProof.Rows
section
variable {prog : Program} {w : World} {A : Around} {E : Value → Shared → Prop} {s : Shared} {K : PySem.W.Frag} {x C D f : Addr} {ox od : Obj} {odd : Option Obj}
theorem truthy_own {Q : Bool → Shared → Prop} (X : K.In s.heap) (I : PySem.W.InstAt s.heap x ox C odd) (hs : PySem.W.findIn K (.ref C) "__bool__" = some (some (.ref f))) (hf : PySem.W.isFn K (.ref f) = true)
    (h : wpAny (model prog w) A (call (.ref f) [.ref x]) (fun r s₁ => ∃ b, r = Value.bool b ∧ Q b s₁) E s) : wpAny (model prog w) A (truthy (.ref x)) Q E s := by
  unfold truthy
  have key : wpAny (model prog w) A (callSpecial? (.ref x) (Str.ofString "__bool__")) (fun r s₁ => ∃ b, r = some (Value.bool b) ∧ Q b s₁) E s :=
    PySem.W.special_fn X I hs (beq_iff_eq.mp hf) (wpAny_mono h (fun r s' ⟨b, e, q⟩ => ⟨b, by rw [e], q⟩) fun _ _ y => y)
  first
    | refine wpAny_bind (wpAny_mono key (fun r s' hr => ?_) fun _ _ y => y)
    | refine wpAny_bind (wpAny_pure (wpAny_bind (wpAny_mono key (fun r s' hr => ?_) fun _ _ y => y)))
  obtain ⟨b, rfl, q⟩ := hr
  first
    | exact wpAny_pure q
    | exact wpAny_bind (wpAny_pure q)
theorem type_bool : isType (.type "bool") = pure true := rfl
theorem bool_own {Q : Value → Shared → Prop} (X : K.In s.heap) (I : PySem.W.InstAt s.heap x ox C odd) (hs : PySem.W.findIn K (.ref C) "__bool__" = some (some (.ref f))) (hf : PySem.W.isFn K (.ref f) = true)
    (h : wpAny (model prog w) A.in1.in1 (call (.ref f) [.ref x]) (fun r s₁ => ∃ b, r = Value.bool b ∧ Q r s₁) E s) : wpAny (model prog w) A (call (.type "bool") [.ref x]) Q E s := by
  refine callType_codes (T := "bool") (Bi := Builtin.«object.__init__») (Q₁ := fun r s₁ => ∃ b, r = Value.bool b ∧ Q r s₁) PySem.F.called_bool (PySem.F.typeCall_bool_1 _) PySem.F.entry_object_init ?_ ?_
  · refine codeAny_of_tree ?_
    show wpAny _ A.in1.in1 (do checkBuiltinCall "bool.__new__" ⟨[.type "bool", .ref x], []⟩; again (.builtin "bool.__new__" ⟨[.type "bool", .ref x], []⟩)) _ _ s
    refine wpAny_bind (wpAny_of_eq (PySem.F.newCall_bool_1 _) (wpAny_pure ⟨plainId_quiet (by decide +kernel) _, codeAny_builtin PySem.F.entry_bool_new ?_⟩))
    rw [Around.under_plainId (by decide +kernel) _]
    unfold Builtin.«bool.__new__»
    refine wpAny_bind (wpAny_of_eq (a := true) type_bool ?_)
    refine PySem.W.KFB.if_not rfl ?_
    refine wpAny_bind (wpAny_of_eq (a := true) PySem.F.conv_sub_bool ?_)
    refine PySem.W.KFB.if_not rfl ?_
    refine wpAny_bind (wpAny_of_eq (a := [.ref x]) rfl ?_)
    refine wpAny_bind (truthy_own X I hs hf (wpAny_mono h (fun r s₁ hr => ?_) fun _ _ y => y))
    obtain ⟨b, rfl, hq⟩ := hr
    refine ⟨b, rfl, ?_⟩
    exact wpAny_pure ⟨b, rfl, hq⟩
  · rintro obj s₁ ⟨b, rfl, hq⟩
    exact ⟨PySem.typeIs_bool _ _, PySem.F.args_object_init_2 _ _, object_init_meets PySem.F.called_bool.init.lookup PySem.F.called_bool.made (by decide) prog w A.in1 _ s₁ ⟨PySem.typeIs_bool _ _, rfl, hq⟩⟩
end
end LfB
namespace L2
open PySem PySem.Spec PyProof.Rows
section
variable {X : Cx} {CX : CXT} {pins : List (Addr × Obj)} {σ : St} {H : Hp} {s : Shared} {C : Addr} {ps : List Str} {m : Str} {n : Nat} {sp : Sp} {E : XK}
theorem run_fnAt {A : Around} {Q : VK} {g : Addr} {fd : FuncData} {us : List Value} {ws : List V} (F : FnOk X.prog X.w X.K X.mg X.base CX n g fd ps sp) (hb : Binds X.K fd ps []) (hr : Room n A) (e0 : Env0 X.prog X.w X.K X.mg X.base A X.stack s H) (hx : Passes CX X E) (I : Inv X pins σ H s) (r : Vals ws us) (h : sp ws H Q E) :
    codeAny (model X.prog X.w) A (.call (.ref g) ⟨us, []⟩) (fun r s' => match r with | .ok (.ret v) => EP X pins σ Q v s' | .ok _ => False | .error e => X.xe e s') s := by
  have hl : us.length = ps.length := by rw [← r.length]; exact F.len _ _ _ _ h
  have b := hb s us I.kIn (by rw [List.append_nil]; exact hl)
  rw [List.append_nil] at b
  refine codeAny_mono (F.run A X.stack s H ⟨us, []⟩ us ws Q E hr e0 b r h) fun r s' hq => ?_
  cases r with
  | error e => exact hx pins σ H s e s' I hq
  | ok fl =>
    cases fl with
    | ret u => exact I.after hq
    | next => exact False.elim hq
    | brk => exact False.elim hq
    | cont => exact False.elim hq
/-- bool(x) of an instance with an own __bool__ -/
def rBoolOwn (C : Addr) (sp : Sp) (E : XK) : List V → Hp → VK → Prop := fun xs H Q => ∃ a dx fs, xs = [V.ref a] ∧ H a = some (.ins C dx fs) ∧ sp [.ref a] H (fun z H' => ∃ b, z = .bl b ∧ Q z H') E
theorem call_boolOwn (D : MethOk X.prog X.w X.K X.mg X.base CX n C "__bool__" ps sp) (hr : Room (n + 2) X.A) (hx : Passes CX X E) : CallR X (.type "bool") (rBoolOwn C sp E) := by
  obtain ⟨f, fd, hm, hb, F⟩ := D
  intro pins s σ H xs us Q I r h
  obtain ⟨a, dx, fs, rfl, hsl, q⟩ := h
  obtain ⟨u, rfl, ru⟩ := r.one
  cases (show u = Value.ref a from ru)
  obtain ⟨mA, O, _⟩ := ins_get I.hok hsl
  obtain ⟨od, J, _⟩ := O.look
  have hr2 : Room n X.A.in1.in1 := (show Room (n + 1) X.A.in1 from Room.in1 hr).in1
  refine LfB.bool_own I.kIn J hm.at_ hm.fn (wpAny_mono (wpAny_call (run_fnAt (us := [.ref a]) (ws := [.ref a]) F hb hr2 I.env0.in1.in1 hx I (.cons rfl .nil) q)) (fun w s' z => ?_) fun _ _ x => x)
  obtain ⟨z', H', I', rz, b, eb, qz⟩ := z
  subst eb
  cases (show w = Value.bool b from rz)
  exact ⟨b, rfl, .bl b, H', I', rfl, qz⟩
end
end L2
set_option maxHeartbeats 1000000
/-! Lines of pairs of rounds: the mathematics of meetings, without the program -/
namespace Mt
/-! ### the combination: g = one * x + other * y -/
/-- a state of the loop: what holds of (r0, x0, y0), (r1, x1, y1) -/
structure CombI (a b : Int) (r0 x0 y0 r1 x1 y1 : Int) : Prop where
  h0 : a * x0 + b * y0 = r0
  h1 : a * x1 + b * y1 = r1
  da : ∃ u v : Int, a = u * r0 + v * r1
  db : ∃ u v : Int, b = u * r0 + v * r1
theorem CombI.start (a b : Int) : CombI a b a 1 0 b 0 1 := ⟨by omega, by omega, ⟨1, 0, by omega⟩, ⟨0, 1, by omega⟩⟩
theorem CombI.step {a b r0 x0 y0 r1 x1 y1 m : Int} (h : CombI a b r0 x0 y0 r1 x1 y1) : CombI a b r1 x1 y1 (r0 - m * r1) (x0 - m * x1) (y0 - m * y1) := by
  obtain ⟨h0, h1, ⟨u, v, ea⟩, ⟨u', v', eb⟩⟩ := h
  refine ⟨h1, ?_, ⟨u * m + v, u, ?_⟩, ⟨u' * m + v', u', ?_⟩⟩
  · rw [Int.mul_sub, Int.mul_sub, ← h0, ← h1, Int.mul_add]
    have e1 : a * (m * x1) = m * (a * x1) := Int.mul_left_comm _ _ _
    have e2 : b * (m * y1) = m * (b * y1) := Int.mul_left_comm _ _ _
    rw [e1, e2]
    omega
  · rw [Int.add_mul, Int.mul_sub, ← Int.mul_assoc]
    omega
  · rw [Int.add_mul, Int.mul_sub, ← Int.mul_assoc]
    omega
/-- how great the parts may be: |r0| * |x1| + |r1| * |x0| stays below a bound -/
def Sz (C : Nat) (r0 x0 r1 x1 : Int) : Prop := r0.natAbs * x1.natAbs + r1.natAbs * x0.natAbs ≤ C
/-- the signs are alike (or r1 is 0), as they are behind the first turn -/
def Like (r0 r1 : Int) : Prop := (0 ≤ r0 ∧ 0 ≤ r1) ∨ (r0 ≤ 0 ∧ r1 ≤ 0)
theorem fm_pos {r1 : Int} (r0 : Int) (h : 0 < r1) : 0 ≤ r0.fmod r1 ∧ r0.fmod r1 < r1 := by
  rw [Int.fmod_eq_emod_of_nonneg _ (by omega)]
  exact ⟨Int.emod_nonneg _ (by omega), Int.emod_lt_of_pos _ h⟩
theorem like_step {r0 r1 : Int} (h : r1 ≠ 0) : Like r1 (r0 - r0.fdiv r1 * r1) ∧ (r0 - r0.fdiv r1 * r1).natAbs < r1.natAbs := by
  have e : r0 - r0.fdiv r1 * r1 = r0.fmod r1 := by
    have := Int.fmod_add_mul_fdiv r0 r1
    rw [Int.mul_comm] at this
    omega
  rw [e]
  by_cases hp : 0 < r1
  · obtain ⟨h1, h2⟩ := fm_pos r0 hp
    exact ⟨.inl ⟨by omega, h1⟩, by omega⟩
  · have hn : r1 < 0 := by omega
    have e2 : r0.fmod r1 = -((-r0).fmod (-r1)) := by
      have := Int.neg_fmod_neg r0 r1
      omega
    obtain ⟨h1, h2⟩ := fm_pos (-r0) (show (0 : Int) < -r1 by omega)
    rw [e2]
    exact ⟨.inr ⟨by omega, by omega⟩, by omega⟩
theorem sz_step {C : Nat} {r0 x0 r1 x1 : Int} (h : r1 ≠ 0) (hl : Like r0 r1) (s : Sz C r0 x0 r1 x1) : Sz C r1 x1 (r0 - r0.fdiv r1 * r1) (x0 - r0.fdiv r1 * x1) := by
  have e : (r0.fdiv r1).natAbs * r1.natAbs + (r0 - r0.fdiv r1 * r1).natAbs = r0.natAbs := by
    have e0 : r0 - r0.fdiv r1 * r1 = r0.fmod r1 := by
      have := Int.fmod_add_mul_fdiv r0 r1
      rw [Int.mul_comm] at this
      omega
    rw [e0]
    rcases hl with ⟨p, q⟩ | ⟨p, q⟩
    · have hp : 0 < r1 := by omega
      rw [Int.fdiv_eq_ediv_of_nonneg _ q, Int.fmod_eq_emod_of_nonneg _ q]
      have a1 := Int.ediv_nonneg p q
      have a2 := Int.emod_nonneg r0 h
      have a3 := Int.mul_ediv_add_emod r0 r1
      have a4 : 0 ≤ (r0 / r1) * r1 := Int.mul_nonneg a1 q
      rw [← Int.natAbs_mul, ← Int.natAbs_add_of_nonneg a4 a2, Int.mul_comm (r0 / r1) r1, a3]
    · have hp : 0 < -r1 := by omega
      have f1 : r0.fdiv r1 = (-r0) / (-r1) := by
        rw [← Int.fdiv_eq_ediv_of_nonneg _ (by omega), Int.neg_fdiv_neg]
      have f2 : r0.fmod r1 = -((-r0) % (-r1)) := by
        have := Int.neg_fmod_neg r0 r1
        rw [← Int.fmod_eq_emod_of_nonneg _ (show (0 : Int) ≤ -r1 by omega)]
        omega
      rw [f1, f2]
      have a1 := Int.ediv_nonneg (show (0 : Int) ≤ -r0 by omega) (show (0 : Int) ≤ -r1 by omega)
      have a2 := Int.emod_nonneg (-r0) (show -r1 ≠ 0 by omega)
      have a3 := Int.mul_ediv_add_emod (-r0) (-r1)
      have a4 : 0 ≤ ((-r0) / (-r1)) * (-r1) := Int.mul_nonneg a1 (by omega)
      have b1 : r1.natAbs = (-r1).natAbs := (Int.natAbs_neg r1).symm
      have b2 : (-((-r0) % (-r1))).natAbs = ((-r0) % (-r1)).natAbs := Int.natAbs_neg _
      rw [b1, b2, ← Int.natAbs_mul, ← Int.natAbs_add_of_nonneg a4 a2, Int.mul_comm ((-r0) / (-r1)) (-r1), a3, Int.natAbs_neg]
  unfold Sz at s ⊢
  have t : (x0 - r0.fdiv r1 * x1).natAbs ≤ x0.natAbs + (r0.fdiv r1).natAbs * x1.natAbs := by
    have := Int.natAbs_sub_le x0 (r0.fdiv r1 * x1)
    rw [Int.natAbs_mul] at this
    exact this
  have u : r1.natAbs * (x0 - r0.fdiv r1 * x1).natAbs ≤ r1.natAbs * (x0.natAbs + (r0.fdiv r1).natAbs * x1.natAbs) := Nat.mul_le_mul_left _ t
  have v : r1.natAbs * (x0.natAbs + (r0.fdiv r1).natAbs * x1.natAbs) + (r0 - r0.fdiv r1 * r1).natAbs * x1.natAbs = r0.natAbs * x1.natAbs + r1.natAbs * x0.natAbs := by
    rw [← e, Nat.mul_add, Nat.add_mul]
    have : r1.natAbs * ((r0.fdiv r1).natAbs * x1.natAbs) = (r0.fdiv r1).natAbs * r1.natAbs * x1.natAbs := by rw [Nat.mul_left_comm, Nat.mul_assoc]
    omega
  omega
theorem sz_part {C : Nat} {r0 x0 r1 x1 : Int} (h : r0 ≠ 0) (s : Sz C r0 x0 r1 x1) : x1.natAbs ≤ C := by
  unfold Sz at s
  have h1 : 1 * x1.natAbs ≤ r0.natAbs * x1.natAbs := Nat.mul_le_mul_right _ (by omega)
  omega
/-! ### what the loop leaves: the greatest common divisor with its parts -/
structure Comb (a b g x y : Int) : Prop where
  ez : a * x + b * y = g
  nn : 0 ≤ g
  da : ∃ u, a = u * g
  db : ∃ u, b = u * g
theorem Comb.of {a b g x y x1 y1 : Int} (h : CombI a b g x y 0 x1 y1) (hg : 0 ≤ g) : Comb a b g x y := by
  obtain ⟨h0, _, ⟨u, v, ea⟩, ⟨u', v', eb⟩⟩ := h
  exact ⟨h0, hg, ⟨u, by omega⟩, ⟨u', by omega⟩⟩
theorem Comb.neg {a b g x y x1 y1 : Int} (h : CombI a b g x y 0 x1 y1) (hg : g < 0) : Comb a b (-g) (-x) (-y) := by
  obtain ⟨h0, _, ⟨u, v, ea⟩, ⟨u', v', eb⟩⟩ := h
  refine ⟨?_, by omega, ⟨-u, ?_⟩, ⟨-u', ?_⟩⟩
  · rw [Int.mul_neg, Int.mul_neg]; omega
  · rw [Int.neg_mul_neg]; omega
  · rw [Int.neg_mul_neg]; omega
theorem Comb.pos {a b g x y : Int} (h : Comb a b g x y) (hab : ¬ (a = 0 ∧ b = 0)) : 0 < g := by
  obtain ⟨_, nn, ⟨u, ea⟩, ⟨v, eb⟩⟩ := h
  rcases Int.lt_or_eq_of_le nn with h | h
  · exact h
  · subst h
    exact absurd ⟨by omega, by omega⟩ hab
theorem Comb.gcd {a b g x y : Int} (h : Comb a b g x y) : g = (Int.gcd a b : Int) := by
  obtain ⟨ez, nn, ⟨u, ea⟩, ⟨v, eb⟩⟩ := h
  have d1 : g ∣ (Int.gcd a b : Int) := Int.dvd_coe_gcd ⟨u, by rw [Int.mul_comm]; exact ea⟩ ⟨v, by rw [Int.mul_comm]; exact eb⟩
  have d2 : (Int.gcd a b : Int) ∣ g := by
    rw [← ez]
    exact Int.dvd_add (Int.dvd_mul_of_dvd_left (Int.gcd_dvd_left ..)) (Int.dvd_mul_of_dvd_left (Int.gcd_dvd_right ..))
  exact Int.dvd_antisymm nn (Int.natCast_nonneg _) d1 d2
/-! ### the line: all pairs (r, s) with p0 * r + p1 = o0 * s + o1 -/
def meets (p o q : Int × Int) : Prop := p.1 * q.1 + p.2 = o.1 * q.2 + o.2
instance (p o q : Int × Int) : Decidable (meets p o q) := by unfold meets; infer_instance
def after (q st : Int × Int) (t : Int) : Int × Int := (q.1 + st.1 * t, q.2 + st.2 * t)
structure Line (p o q0 st : Int × Int) : Prop where
  on : meets p o q0
  st1 : ∃ g, 0 < g ∧ p.1 = st.2 * g ∧ o.1 = st.1 * g
  bz : ∃ x y : Int, st.2 * x + st.1 * y = 1
theorem Line.ne {p o q0 st : Int × Int} (L : Line p o q0 st) : ¬ (st.1 = 0 ∧ st.2 = 0) := fun ⟨h1, h2⟩ => by
  obtain ⟨x, y, e⟩ := L.bz
  rw [h1, h2] at e
  omega
theorem Line.at {p o q0 st : Int × Int} (L : Line p o q0 st) (t : Int) : meets p o (after q0 st t) := by
  obtain ⟨on, ⟨g, _, e1, e2⟩, _⟩ := L
  unfold meets after at *
  dsimp only
  rw [Int.mul_add, Int.mul_add]
  have : p.1 * (st.1 * t) = o.1 * (st.2 * t) := by
    rw [e1, e2]
    rw [Int.mul_assoc, Int.mul_assoc, Int.mul_left_comm g st.1 t, Int.mul_left_comm g st.2 t, Int.mul_left_comm]
  omega
theorem Line.all {p o q0 st q : Int × Int} (L : Line p o q0 st) (h : meets p o q) : ∃ t, q = after q0 st t := by
  obtain ⟨on, ⟨g, g0, e1, e2⟩, ⟨x, y, ez⟩⟩ := L
  have e3 : st.2 * (q.1 - q0.1) = st.1 * (q.2 - q0.2) := by
    unfold meets at on h
    have a1 : p.1 * (q.1 - q0.1) = o.1 * (q.2 - q0.2) := by rw [Int.mul_sub, Int.mul_sub]; omega
    rw [e1, e2, Int.mul_right_comm, Int.mul_right_comm st.1] at a1
    exact Int.eq_of_mul_eq_mul_right (by omega) a1
  obtain ⟨dr, hr⟩ : ∃ dr, dr = q.1 - q0.1 := ⟨_, rfl⟩
  obtain ⟨ds, hs⟩ : ∃ ds, ds = q.2 - q0.2 := ⟨_, rfl⟩
  rw [← hr, ← hs] at e3
  refine ⟨y * dr + x * ds, ?_⟩
  have f1 : st.1 * (y * dr + x * ds) = dr := by
    have : st.1 * (x * ds) = x * (st.2 * dr) := by rw [e3, Int.mul_left_comm]
    rw [Int.mul_add, this]
    have k : st.1 * (y * dr) + x * (st.2 * dr) = (st.2 * x + st.1 * y) * dr := by
      rw [Int.add_mul, ← Int.mul_assoc, ← Int.mul_assoc, Int.mul_comm x st.2]
      omega
    rw [k, ez]
    omega
  have f2 : st.2 * (y * dr + x * ds) = ds := by
    have : st.2 * (y * dr) = y * (st.1 * ds) := by rw [← e3, Int.mul_left_comm]
    rw [Int.mul_add, this]
    have k : y * (st.1 * ds) + st.2 * (x * ds) = (st.2 * x + st.1 * y) * ds := by
      rw [Int.add_mul, ← Int.mul_assoc, ← Int.mul_assoc, Int.mul_comm y st.1]
      omega
    rw [k, ez]
    omega
  unfold after
  rw [f1, f2, hr, hs]
  ext <;> dsimp only <;> omega
/-- the line that a combination makes -/
theorem line_of {p o : Int × Int} {g x y m : Int} (c : Comb p.1 o.1 g x y) (g0 : 0 < g) (hm : o.2 - p.2 = g * m) : Line p o (x * m, -y * m) (o.1 / g, p.1 / g) := by
  obtain ⟨ez, nn, ⟨u, ea⟩, ⟨v, eb⟩⟩ := c
  have hu : p.1 / g = u := by rw [ea, Int.mul_ediv_cancel _ (by omega)]
  have hv : o.1 / g = v := by rw [eb, Int.mul_ediv_cancel _ (by omega)]
  refine ⟨?_, ⟨g, g0, by dsimp only; rw [hu]; exact ea, by dsimp only; rw [hv]; exact eb⟩, ⟨x, y, ?_⟩⟩
  · unfold meets
    dsimp only
    have : p.1 * (x * m) - o.1 * (-y * m) = g * m := by
      rw [← ez, Int.add_mul, Int.neg_mul, Int.mul_neg, Int.mul_assoc, Int.mul_assoc]
      omega
    omega
  · dsimp only
    rw [hu, hv]
    have e : (u * x + v * y) * g = 1 * g := by
      rw [Int.one_mul]
      conv => rhs; rw [← ez]
      rw [ea, eb, Int.add_mul, Int.mul_right_comm u x g, Int.mul_right_comm v y g]
    exact Int.eq_of_mul_eq_mul_right (by omega) e
theorem no_line {p o q : Int × Int} {g x y : Int} (c : Comb p.1 o.1 g x y) (h : ¬ (o.2 - p.2) % g = 0) : ¬ meets p o q := fun e => by
  obtain ⟨_, nn, ⟨u, ea⟩, ⟨v, eb⟩⟩ := c
  apply h
  unfold meets at e
  have : o.2 - p.2 = g * (u * q.1 - v * q.2) := by
    rw [Int.mul_sub, ← Int.mul_assoc, ← Int.mul_assoc, Int.mul_comm g u, Int.mul_comm g v, ← ea, ← eb]
    omega
  rw [this]
  exact Int.mul_emod_right _ _
end Mt
set_option maxHeartbeats 1000000
/-! The ends of the part of a line on which some bounds hold -/
namespace Mt
abbrev Ends := Option Int × Option Int × Bool
def maxO (o : Option Int) (b : Int) : Int := match o with
  | none => b
  | some f => if b > f then b else f
def minO (o : Option Int) (b : Int) : Int := match o with
  | none => b
  | some f => if b < f then b else f
def endStep (e : Ends) (v s : Int) : Ends :=
  if 0 < s then (some (maxO e.1 (-(v / s))), e.2.1, e.2.2)
  else if s < 0 then (e.1, some (minO e.2.1 (v / -s)), e.2.2)
  else if v < 0 then (e.1, e.2.1, true) else e
def endsFrom (e : Ends) : List (Int × Int) → Ends
  | [] => e
  | r :: l => endsFrom (endStep e r.1 r.2) l
abbrev ends (rows : List (Int × Int)) : Ends := endsFrom (none, none, false) rows
def inE (e : Ends) (t : Int) : Prop := e.2.2 = false ∧ (∀ f, e.1 = some f → f ≤ t) ∧ ∀ l, e.2.1 = some l → t ≤ l
structure EndsOk (rows : List (Int × Int)) (e : Ends) : Prop where
  iff : ∀ t, inE e t ↔ ∀ r ∈ rows, 0 ≤ r.1 + r.2 * t
  fs : (∃ r ∈ rows, 0 < r.2) → ∃ f, e.1 = some f
  ls : (∃ r ∈ rows, r.2 < 0) → ∃ l, e.2.1 = some l
  fa : ∀ f, e.1 = some f → ∃ r ∈ rows, 0 < r.2 ∧ r.1 + r.2 * (f - 1) < 0
  la : ∀ l, e.2.1 = some l → ∃ r ∈ rows, r.2 < 0 ∧ r.1 + r.2 * (l + 1) < 0
  ba : e.2.2 = true → ∃ r ∈ rows, r.2 = 0 ∧ r.1 < 0
theorem EndsOk.nil : EndsOk [] (none, none, false) :=
  ⟨fun t => ⟨fun _ r h => (by cases h), fun _ => ⟨rfl, fun f h => (by cases h), fun l h => (by cases h)⟩⟩, fun ⟨r, h, _⟩ => (by cases h), fun ⟨r, h, _⟩ => (by cases h), fun f h => (by cases h), fun f h => (by cases h), fun h => (by cases h)⟩
theorem lo_iff {v s t : Int} (h : 0 < s) : 0 ≤ v + s * t ↔ -(v / s) ≤ t := by
  have : -t ≤ v / s ↔ -t * s ≤ v := Int.le_ediv_iff_mul_le h
  rw [Int.neg_mul, Int.mul_comm t s] at this
  constructor
  · intro q
    have := this.mpr (by omega)
    omega
  · intro q
    have := this.mp (by omega)
    omega
theorem hi_iff {v s t : Int} (h : s < 0) : 0 ≤ v + s * t ↔ t ≤ v / -s := by
  have : t ≤ v / -s ↔ t * -s ≤ v := Int.le_ediv_iff_mul_le (by omega)
  rw [Int.mul_neg, Int.mul_comm t s] at this
  constructor
  · intro q
    exact this.mpr (by omega)
  · intro q
    have := this.mp q
    omega
theorem forall_snoc {rows : List (Int × Int)} {p : Int × Int} {P : Int × Int → Prop} : (∀ r ∈ rows ++ [p], P r) ↔ (∀ r ∈ rows, P r) ∧ P p := by
  constructor
  · intro h
    exact ⟨fun r hr => h r (List.mem_append_left _ hr), h p (List.mem_append_right _ (List.mem_singleton.mpr rfl))⟩
  · rintro ⟨h1, h2⟩ r hr
    rcases List.mem_append.mp hr with hr | hr
    · exact h1 r hr
    · rw [List.mem_singleton.mp hr]
      exact h2
theorem exists_snoc {rows : List (Int × Int)} {p : Int × Int} {P : Int × Int → Prop} : (∃ r ∈ rows ++ [p], P r) ↔ (∃ r ∈ rows, P r) ∨ P p := by
  constructor
  · rintro ⟨r, hr, h⟩
    rcases List.mem_append.mp hr with hr | hr
    · exact .inl ⟨r, hr, h⟩
    · rw [List.mem_singleton.mp hr] at h
      exact .inr h
  · rintro (⟨r, hr, h⟩ | h)
    · exact ⟨r, List.mem_append_left _ hr, h⟩
    · exact ⟨p, List.mem_append_right _ (List.mem_singleton.mpr rfl), h⟩
theorem maxO_le {o : Option Int} {b t : Int} : maxO o b ≤ t ↔ (∀ f, o = some f → f ≤ t) ∧ b ≤ t := by
  unfold maxO
  cases o with
  | none => exact ⟨fun h => ⟨fun f z => (by cases z), h⟩, fun h => h.2⟩
  | some f =>
    dsimp only
    constructor
    · intro h
      refine ⟨fun g z => ?_, ?_⟩
      · cases z
        split at h <;> omega
      · split at h <;> omega
    · rintro ⟨h1, h2⟩
      have := h1 f rfl
      split <;> omega
theorem le_minO {o : Option Int} {b t : Int} : t ≤ minO o b ↔ (∀ f, o = some f → t ≤ f) ∧ t ≤ b := by
  unfold minO
  cases o with
  | none => exact ⟨fun h => ⟨fun f z => (by cases z), h⟩, fun h => h.2⟩
  | some f =>
    dsimp only
    constructor
    · intro h
      refine ⟨fun g z => ?_, ?_⟩
      · cases z
        split at h <;> omega
      · split at h <;> omega
    · rintro ⟨h1, h2⟩
      have := h1 f rfl
      split <;> omega
theorem maxO_is (o : Option Int) (b : Int) : maxO o b = b ∨ o = some (maxO o b) := by
  unfold maxO
  cases o with
  | none => exact .inl rfl
  | some f =>
    dsimp only
    split
    · exact .inl rfl
    · exact .inr rfl
theorem minO_is (o : Option Int) (b : Int) : minO o b = b ∨ o = some (minO o b) := by
  unfold minO
  cases o with
  | none => exact .inl rfl
  | some f =>
    dsimp only
    split
    · exact .inl rfl
    · exact .inr rfl
theorem EndsOk.step {rows : List (Int × Int)} {e : Ends} (h : EndsOk rows e) (v s : Int) : EndsOk (rows ++ [(v, s)]) (endStep e v s) := by
  unfold endStep
  by_cases h1 : 0 < s
  · rw [if_pos h1]
    refine ⟨fun t => ?_, fun _ => ⟨_, rfl⟩, fun z => ?_, fun f z => ?_, fun l z => ?_, fun z => ?_⟩
    · rw [forall_snoc, ← h.iff t, lo_iff h1]
      unfold inE
      dsimp only
      constructor
      · rintro ⟨a, b, c⟩
        have := maxO_le.mp (b _ rfl)
        exact ⟨⟨a, this.1, c⟩, this.2⟩
      · rintro ⟨⟨a, b, c⟩, d⟩
        refine ⟨a, fun f z => ?_, c⟩
        cases z
        exact maxO_le.mpr ⟨b, d⟩
    · rcases exists_snoc.mp z with z | z
      · exact h.ls z
      · dsimp only at z; omega
    · cases z
      apply exists_snoc.mpr
      rcases maxO_is e.1 (-(v / s)) with q | q
      · refine .inr ⟨h1, ?_⟩
        dsimp only
        rw [q]
        have := (@lo_iff v s (-(v / s) - 1) h1).mp
        omega
      · exact .inl (h.fa _ q)
    · exact exists_snoc.mpr (.inl (h.la l z))
    · exact exists_snoc.mpr (.inl (h.ba z))
  · rw [if_neg h1]
    by_cases h2 : s < 0
    · rw [if_pos h2]
      refine ⟨fun t => ?_, fun z => ?_, fun _ => ⟨_, rfl⟩, fun f z => ?_, fun l z => ?_, fun z => ?_⟩
      · rw [forall_snoc, ← h.iff t, hi_iff h2]
        unfold inE
        dsimp only
        constructor
        · rintro ⟨a, b, c⟩
          have := le_minO.mp (c _ rfl)
          exact ⟨⟨a, b, this.1⟩, this.2⟩
        · rintro ⟨⟨a, b, c⟩, d⟩
          refine ⟨a, b, fun f z => ?_⟩
          cases z
          exact le_minO.mpr ⟨c, d⟩
      · rcases exists_snoc.mp z with z | z
        · exact h.fs z
        · dsimp only at z; omega
      · exact exists_snoc.mpr (.inl (h.fa f z))
      · cases z
        apply exists_snoc.mpr
        rcases minO_is e.2.1 (v / -s) with q | q
        · refine .inr ⟨h2, ?_⟩
          dsimp only
          rw [q]
          have := (@hi_iff v s (v / -s + 1) h2).mp
          omega
        · exact .inl (h.la _ q)
      · exact exists_snoc.mpr (.inl (h.ba z))
    · rw [if_neg h2]
      have hs : s = 0 := by omega
      subst hs
      by_cases h3 : v < 0
      · rw [if_pos h3]
        refine ⟨fun t => ?_, fun z => ?_, fun z => ?_, fun f z => exists_snoc.mpr (.inl (h.fa f z)), fun l z => exists_snoc.mpr (.inl (h.la l z)), fun _ => exists_snoc.mpr (.inr ⟨rfl, h3⟩)⟩
        · rw [forall_snoc]
          unfold inE
          dsimp only
          constructor
          · rintro ⟨a, _⟩
            cases a
          · rintro ⟨_, b⟩
            omega
        · rcases exists_snoc.mp z with z | z
          · exact h.fs z
          · dsimp only at z; omega
        · rcases exists_snoc.mp z with z | z
          · exact h.ls z
          · dsimp only at z; omega
      · rw [if_neg h3]
        refine ⟨fun t => ?_, fun z => ?_, fun z => ?_, fun f z => exists_snoc.mpr (.inl (h.fa f z)), fun l z => exists_snoc.mpr (.inl (h.la l z)), fun z => exists_snoc.mpr (.inl (h.ba z))⟩
        · rw [forall_snoc, ← h.iff t]
          dsimp only
          constructor
          · intro a
            exact ⟨a, by omega⟩
          · exact fun a => a.1
        · rcases exists_snoc.mp z with z | z
          · exact h.fs z
          · dsimp only at z; omega
        · rcases exists_snoc.mp z with z | z
          · exact h.ls z
          · dsimp only at z; omega
theorem endsFrom_ok : ∀ (rows pre : List (Int × Int)) (e : Ends), EndsOk pre e → EndsOk (pre ++ rows) (endsFrom e rows)
  | [], pre, e, h => by rw [List.append_nil]; exact h
  | r :: l, pre, e, h => by
    have := endsFrom_ok l (pre ++ [r]) _ (h.step r.1 r.2)
    rw [List.append_assoc] at this
    exact this
theorem ends_ok (rows : List (Int × Int)) : EndsOk rows (ends rows) := by
  have := endsFrom_ok rows [] _ EndsOk.nil
  exact this
theorem endsFrom_snoc : ∀ (rows : List (Int × Int)) (e : Ends) (r : Int × Int), endsFrom e (rows ++ [r]) = endStep (endsFrom e rows) r.1 r.2
  | [], _, _ => rfl
  | _ :: l, _, r => endsFrom_snoc l _ r
/-! ### the bounds -/
structure Bnd where
  low : Int
  high : Option Int
  first : Int
  rounds : Option Int
def spares (b : Bnd) (q : Int × Int) : List Int :=
  [q.1 - b.first, (q.2 - q.1) - b.low] ++ (match b.high with | none => [] | some h => [h - (q.2 - q.1)]) ++ (match b.rounds with | none => [] | some n => [n - 1 - q.2])
def slopes (b : Bnd) (st : Int × Int) : List Int :=
  [st.1, st.2 - st.1] ++ (match b.high with | none => [] | some _ => [st.1 - st.2]) ++ (match b.rounds with | none => [] | some _ => [-st.2])
theorem len_eq (b : Bnd) (q st : Int × Int) : (spares b q).length = (slopes b st).length := by
  unfold spares slopes
  cases b.high <;> cases b.rounds <;> rfl
def rows (b : Bnd) (q st : Int × Int) : List (Int × Int) := (spares b q).zip (slopes b st)
/-- the rows of the pair t steps after -/
theorem rows_after (b : Bnd) (q st : Int × Int) (t : Int) : rows b (after q st t) st = (rows b q st).map fun r => (r.1 + r.2 * t, r.2) := by
  unfold rows spares slopes after
  cases b.high <;> cases b.rounds <;> simp only [List.append_nil, List.nil_append, List.zip_cons_cons, List.zip_nil_right, List.cons_append, List.map_cons, List.map_nil, List.cons.injEq, Prod.mk.injEq, and_true, true_and] <;>
    (simp only [Int.sub_mul, Int.neg_mul]; omega)
def keeps (b : Bnd) (q : Int × Int) : Prop := ∀ v ∈ spares b q, 0 ≤ v
theorem keeps_iff (b : Bnd) (q : Int × Int) : keeps b q ↔ b.first ≤ q.1 ∧ b.low ≤ q.2 - q.1 ∧ (∀ h, b.high = some h → q.2 - q.1 ≤ h) ∧ ∀ n, b.rounds = some n → q.2 < n := by
  unfold keeps spares
  obtain ⟨lo, hi, fi, ro⟩ := b
  cases hi <;> cases ro <;> simp <;> omega
theorem keeps_rows (b : Bnd) (q st : Int × Int) (t : Int) : keeps b (after q st t) ↔ ∀ r ∈ rows b q st, 0 ≤ r.1 + r.2 * t := by
  have e : (rows b (after q st t) st).map (·.1) = spares b (after q st t) := by
    unfold rows
    rw [List.map_fst_zip]
    exact Nat.le_of_eq (len_eq b _ st)
  unfold keeps
  rw [← e, rows_after]
  simp only [List.map_map, List.mem_map, Function.comp]
  constructor
  · intro h r hr
    exact h _ ⟨r, hr, rfl⟩
  · rintro h v ⟨r, hr, rfl⟩
    exact h r hr
end Mt
set_option maxHeartbeats 1000000
/-! Meetings: the nearest pair, and what papers say -/
namespace Mt
def isEmpty (has : Bool) (e : Ends) : Bool := (!has || e.2.2) || (match e.1, e.2.1 with | some f, some l => decide (l < f) | _, _ => false)
def endBy (q0 st : Int × Int) (e : Ends) (g : Int) : Option (Int × Int) := (if 0 < g then e.1 else e.2.1).map (after q0 st)
def growth (st : Int × Int) : Int := if st.2 ≠ 0 then st.2 else st.1
def way (st : Int × Int) : Int := if st.2 ≠ st.1 then st.2 - st.1 else growth st
def nearest (has : Bool) (q0 st : Int × Int) (e : Ends) : Option (Int × Int) := if isEmpty has e = true then none else endBy q0 st e (way st)
structure MetOk (p o : Int × Int) (b : Bnd) (has : Bool) (q0 st : Int × Int) (e : Ends) : Prop where
  he : e = ends (rows b q0 st)
  yes : has = true → Line p o q0 st
  no : has = false → q0 = (0, 0) ∧ st = (0, 0) ∧ ∀ q, ¬ meets p o q
def good (p o : Int × Int) (b : Bnd) (q : Int × Int) : Prop := meets p o q ∧ keeps b q
section
variable {p o q0 st q : Int × Int} {b : Bnd} {has : Bool} {e : Ends}
theorem MetOk.inE_iff (M : MetOk p o b has q0 st e) (t : Int) : inE e t ↔ keeps b (after q0 st t) := by
  rw [keeps_rows, M.he]
  exact (ends_ok _).iff t
theorem MetOk.good_iff (M : MetOk p o b has q0 st e) (h : has = true) (t : Int) : good p o b (after q0 st t) ↔ inE e t := by
  rw [M.inE_iff]
  exact ⟨fun h => h.2, fun z => ⟨(M.yes h).at t, z⟩⟩
theorem way_ne (h : ¬ (st.1 = 0 ∧ st.2 = 0)) : way st ≠ 0 := by
  unfold way growth
  split
  · omega
  · split <;> omega
/-- the slopes of the first two rows -/
theorem row_mem1 (b : Bnd) (q st : Int × Int) : ∃ v, (v, st.1) ∈ rows b q st := ⟨q.1 - b.first, by unfold rows spares slopes; simp⟩
theorem row_mem2 (b : Bnd) (q st : Int × Int) : ∃ v, (v, st.2 - st.1) ∈ rows b q st := ⟨(q.2 - q.1) - b.low, by unfold rows spares slopes; simp⟩
theorem way_some (M : MetOk p o b has q0 st e) (h : ¬ (st.1 = 0 ∧ st.2 = 0)) : (0 < way st → ∃ f, e.1 = some f) ∧ (way st < 0 → ∃ l, e.2.1 = some l) := by
  have O := ends_ok (rows b q0 st)
  rw [← M.he] at O
  obtain ⟨v1, m1⟩ := row_mem1 b q0 st
  obtain ⟨v2, m2⟩ := row_mem2 b q0 st
  unfold way growth
  by_cases h1 : st.2 ≠ st.1
  · rw [if_pos h1]
    exact ⟨fun z => O.fs ⟨_, m2, z⟩, fun z => O.ls ⟨_, m2, z⟩⟩
  · rw [if_neg h1]
    have h2 : st.2 ≠ 0 := by omega
    rw [if_pos h2]
    exact ⟨fun z => O.fs ⟨_, m1, by dsimp only; omega⟩, fun z => O.ls ⟨_, m1, by dsimp only; omega⟩⟩
theorem empty_false : isEmpty has e = false ↔ has = true ∧ e.2.2 = false ∧ ∀ f l, e.1 = some f → e.2.1 = some l → f ≤ l := by
  obtain ⟨f, l, c⟩ := e
  unfold isEmpty
  cases has <;> cases c <;> cases f <;> cases l <;> simp
/-- what is not empty has a nearest pair -/
theorem near_end (M : MetOk p o b has q0 st e) (h : isEmpty has e = false) :
    ∃ t, nearest has q0 st e = some (after q0 st t) ∧ inE e t ∧ ¬ inE e (if 0 < way st then t - 1 else t + 1) := by
  obtain ⟨hh, hb, hfl⟩ := empty_false.mp h
  have L := M.yes hh
  have w0 := way_ne L.ne
  obtain ⟨wf, wl⟩ := way_some M L.ne
  unfold nearest
  rw [h, if_neg Bool.false_ne_true]
  unfold endBy
  by_cases hw : 0 < way st
  · obtain ⟨f, ef⟩ := wf hw
    refine ⟨f, by rw [if_pos hw, ef]; rfl, ⟨hb, fun g z => ?_, fun l z => hfl f l ef z⟩, fun z => ?_⟩
    · rw [ef] at z; cases z; exact Int.le_refl _
    · rw [if_pos hw] at z
      have := z.2.1 f ef
      omega
  · obtain ⟨l, el⟩ := wl (by omega)
    refine ⟨l, by rw [if_neg hw, el]; rfl, ⟨hb, fun g z => hfl g l z el, fun g z => ?_⟩, fun z => ?_⟩
    · rw [el] at z; cases z; exact Int.le_refl _
    · rw [if_neg hw] at z
      have := z.2.2 l el
      omega
/-- an interval has one such end -/
theorem end_unique {t u w : Int} (h1 : inE e t) (h2 : ¬ inE e (if 0 < w then t - 1 else t + 1)) (h3 : inE e u) (h4 : ¬ inE e (if 0 < w then u - 1 else u + 1)) : t = u := by
  obtain ⟨a1, a2, a3⟩ := h1
  obtain ⟨c1, c2, c3⟩ := h3
  unfold inE at h2 h4
  by_cases hw : 0 < w
  · rw [if_pos hw] at h2 h4
    rcases Int.lt_trichotomy t u with z | z | z
    · exact absurd ⟨a1, fun f q => by have := a2 f q; omega, fun l q => by have := c3 l q; omega⟩ h4
    · exact z
    · exact absurd ⟨a1, fun f q => by have := c2 f q; omega, fun l q => by have := a3 l q; omega⟩ h2
  · rw [if_neg hw] at h2 h4
    rcases Int.lt_trichotomy t u with z | z | z
    · exact absurd ⟨a1, fun f q => by have := a2 f q; omega, fun l q => by have := c3 l q; omega⟩ h2
    · exact z
    · exact absurd ⟨a1, fun f q => by have := c2 f q; omega, fun l q => by have := a3 l q; omega⟩ h4
theorem empty_no (M : MetOk p o b has q0 st e) (h : isEmpty has e = true) : ¬ good p o b q := by
  rintro ⟨h1, h2⟩
  cases hh : has with
  | false => exact (M.no hh).2.2 q h1
  | true =>
    obtain ⟨t, rfl⟩ := (M.yes hh).all h1
    obtain ⟨a, f, l⟩ := (M.inE_iff t).mpr h2
    have : isEmpty has e = false := empty_false.mpr ⟨hh, a, fun g k z y => by have := f g z; have := l k y; omega⟩
    rw [h] at this
    cases this
theorem after_after (q st : Int × Int) (t u : Int) : after (after q st t) st u = after q st (t + u) := by
  unfold after
  dsimp only
  rw [Int.mul_add, Int.mul_add]
  ext <;> dsimp only <;> omega
/-- the law's own way of telling the nearest pair: st' the step -/
def lway (st : Int × Int) : Int := if st.2 ≠ st.1 then st.2 - st.1 else st.2
def isNear (p o : Int × Int) (b : Bnd) (st q : Int × Int) : Prop := good p o b q ∧ ¬ good p o b (after q st (if 0 < lway st then -1 else 1))
theorem lway_eq (h : ¬ (st.1 = 0 ∧ st.2 = 0)) : lway st = way st := by
  unfold lway way growth
  split
  · rfl
  · rw [if_pos (by omega)]
theorem near_iff {st' : Int × Int} (M : MetOk p o b has q0 st e) (hs : has = true → st' = st) : nearest has q0 st e = some q ↔ isNear p o b st' q := by
  cases h : isEmpty has e with
  | true =>
    constructor
    · intro z
      unfold nearest at z
      rw [h, if_pos rfl] at z
      cases z
    · intro z
      exact absurd z.1 (empty_no M h)
  | false =>
    obtain ⟨hh, _, _⟩ := empty_false.mp h
    have L := M.yes hh
    have e1 := hs hh
    subst e1
    obtain ⟨t, en, i1, i2⟩ := near_end M h
    unfold isNear
    rw [lway_eq L.ne]
    constructor
    · intro z
      rw [en] at z
      cases z
      refine ⟨(M.good_iff hh t).mpr i1, fun z => i2 ?_⟩
      rw [after_after] at z
      have := (M.good_iff hh _).mp z
      split at this
      · rw [if_pos (by assumption)]; exact this
      · rw [if_neg (by assumption)]; exact this
    · rintro ⟨g1, g2⟩
      obtain ⟨u, rfl⟩ := L.all g1.1
      have j1 := (M.good_iff hh u).mp g1
      have j2 : ¬ inE e (if 0 < way st' then u - 1 else u + 1) := fun z => g2 (by
        rw [after_after]
        refine (M.good_iff hh _).mpr ?_
        split
        · rw [if_pos (by assumption)] at z; exact z
        · rw [if_neg (by assumption)] at z; exact z)
      rw [en, end_unique i1 i2 j1 j2]
/-! ### gaps -/
def gapRows (rs : List (Int × Int)) : Prop := (∃ r ∈ rs, r.1 < 0 ∧ 0 ≤ r.2) ∧ ∃ r ∈ rs, r.1 + r.2 < 0 ∧ r.2 ≤ 0
def gapAt (e : Ends) : Int := if e.2.2 = true then 0 else (e.1.getD 0) - 1
theorem gap_ok (M : MetOk p o b has q0 st e) (h : isEmpty has e = true) (hh : has = true) : (e.2.2 = false → ∃ f, e.1 = some f) ∧ meets p o (after q0 st (gapAt e)) ∧ gapRows (rows b (after q0 st (gapAt e)) st) := by
  have O := ends_ok (rows b q0 st)
  rw [← M.he] at O
  have key : e.2.2 = false → ∃ f l, e.1 = some f ∧ e.2.1 = some l ∧ l < f := by
    intro hb
    obtain ⟨f, l, c⟩ := e
    dsimp only at hb
    subst hb
    subst hh
    unfold isEmpty at h
    cases f <;> cases l <;> simp at h
    exact ⟨_, _, rfl, rfl, h⟩
  refine ⟨fun hb => ?_, (M.yes hh).at _, ?_⟩
  · obtain ⟨f, l, ef, _⟩ := key hb
    exact ⟨f, ef⟩
  · rw [rows_after]
    unfold gapRows gapAt
    cases hb : e.2.2 with
    | true =>
      rw [if_pos rfl]
      obtain ⟨r, hr, r2, r1⟩ := O.ba hb
      exact ⟨⟨_, List.mem_map.mpr ⟨r, hr, rfl⟩, by dsimp only; omega, by dsimp only; omega⟩, ⟨_, List.mem_map.mpr ⟨r, hr, rfl⟩, by dsimp only; omega, by dsimp only; omega⟩⟩
    | false =>
      rw [if_neg Bool.false_ne_true]
      obtain ⟨f, l, ef, el, hlf⟩ := key hb
      rw [ef]
      obtain ⟨r, hr, r2, r1⟩ := O.fa f ef
      obtain ⟨u, hu, u2, u1⟩ := O.la l el
      refine ⟨⟨_, List.mem_map.mpr ⟨r, hr, rfl⟩, by dsimp only [Option.getD]; exact r1, by dsimp only; omega⟩, ⟨_, List.mem_map.mpr ⟨u, hu, rfl⟩, ?_, by dsimp only; omega⟩⟩
      dsimp only [Option.getD]
      have a1 : u.2 * (f - 1) + u.2 = u.2 * f := by rw [Int.mul_sub]; omega
      have a2 : u.2 * f ≤ u.2 * (l + 1) := Int.mul_le_mul_of_nonpos_left (by omega) (by omega)
      omega
end
end Mt
set_option maxHeartbeats 4000000
namespace My
open PySem L2 Lf Evl
def top (i : Nat) : Stmt := PySem.Challenge.pw_loopfoundry_k11_papers_of_meetings_judge.main.body.getD i (.Pass ⟨0, 0, 0, 0⟩)
def great : Int := 10000000000000000000000000000000000000000000000000000000000000000000000000000000000000000000000000000
structure Txt (P : Program) (K : PySem.W.Frag) (mg : Str → Option Value) (CN fI CA FE : Addr) : Prop where
  n_isinstance : mg "isinstance" = none
  n_int : mg "int" = none
  n_bool : mg "bool" = none
  n_str : mg "str" = none
  n_tuple : mg "tuple" = none
  n_len : mg "len" = none
  n_abs : mg "abs" = none
  n_max : mg "max" = none
  n_min : mg "min" = none
  n_list : mg "list" = none
  n_range : mg "range" = none
  n_zip : mg "zip" = none
  n_any : mg "any" = none
  n_all : mg "all" = none
  g_GREAT : ∃ t, mg "GREAT" = some (.int great t)
  g_NEAREST : ∃ t, mg "NEAREST" = some (.str "nearest" t)
  g_MODULUS : ∃ t, mg "MODULUS" = some (.str "modulus" t)
  g_GAP : ∃ t, mg "GAP" = some (.str "gap" t)
  num : PySem.LfX.XTxt P K mg "InvalidNumber" "value" "RuntimeError" "RuntimeError.__init__" "RuntimeError.__new__" [.type "RuntimeError", .type "Exception", .type "BaseException", .type "object"] CN fI
  gA : mg "InvalidArgument" = some (.ref CA)
  xA : PySem.W.excIn K CA [.type "ValueError", .type "Exception", .type "BaseException", .type "object"] "ValueError.__new__" = true
  kA : PySem.W.keepIn K (.ref CA) = true
  bA : PySem.W.subIn K (.ref CA) (.type "BaseException") = some true
  tA : PySem.W.typeIn K (.ref CA) = some (.type "type")
  c_Met : Cls K FE
  g_Meetings : mg "Meetings" = some (.ref FE)
  nf : NoAttr K FE "place" ∧ NoAttr K FE "other" ∧ NoAttr K FE "low" ∧ NoAttr K FE "high" ∧ NoAttr K FE "first" ∧ NoAttr K FE "rounds" ∧ NoAttr K FE "own_line" ∧ NoAttr K FE "has_line" ∧ NoAttr K FE "own_ends"
abbrev s_is_number : Stmt := top 6
theorem sc_is_number : FnScope ["value"] ["value"] (defScope s_is_number) := ⟨rfl, rfl, rfl, by decide +kernel, rfl, by decide +kernel, by decide +kernel⟩
abbrev s_combination : Stmt := top 8
theorem sc_combination : FnScope ["one", "other", "old", "new", "many", "was", "now", "part"] ["one", "other"] (defScope s_combination) := ⟨rfl, rfl, rfl, by decide +kernel, rfl, by decide +kernel, by decide +kernel⟩
abbrev s_line_of : Stmt := top 9
theorem sc_line_of : FnScope ["place", "other", "divisor", "one", "two", "apart", "many"] ["place", "other"] (defScope s_line_of) := ⟨rfl, rfl, rfl, by decide +kernel, rfl, by decide +kernel, by decide +kernel⟩
abbrev s_pair_after : Stmt := top 10
theorem sc_pair_after : FnScope ["pair", "step", "many"] ["pair", "step", "many"] (defScope s_pair_after) := ⟨rfl, rfl, rfl, by decide +kernel, rfl, by decide +kernel, by decide +kernel⟩
abbrev s_ends_of : Stmt := top 11
theorem sc_ends_of : FnScope ["values", "slopes", "first", "last", "barred", "value", "slope", "bound"] ["values", "slopes"] (defScope s_ends_of) := ⟨rfl, rfl, rfl, by decide +kernel, rfl, by decide +kernel, by decide +kernel⟩
abbrev s_is_great : Stmt := top 17
theorem sc_is_great : FnScope ["value"] ["value"] (defScope s_is_great) := ⟨rfl, rfl, rfl, by decide +kernel, rfl, by decide +kernel, by decide +kernel⟩
abbrev s_is_count : Stmt := top 18
theorem sc_is_count : FnScope ["value"] ["value"] (defScope s_is_count) := ⟨rfl, rfl, rfl, by decide +kernel, rfl, by decide +kernel, by decide +kernel⟩
abbrev s_is_pair : Stmt := top 19
theorem sc_is_pair : FnScope ["value"] ["value"] (defScope s_is_pair) := ⟨rfl, rfl, rfl, by decide +kernel, rfl, by decide +kernel, by decide +kernel⟩
abbrev s_require_great_place : Stmt := top 20
theorem sc_require_great_place : FnScope ["value"] ["value"] (defScope s_require_great_place) := ⟨rfl, rfl, rfl, by decide +kernel, rfl, by decide +kernel, by decide +kernel⟩
abbrev s_require_count : Stmt := top 21
theorem sc_require_count : FnScope ["value"] ["value"] (defScope s_require_count) := ⟨rfl, rfl, rfl, by decide +kernel, rfl, by decide +kernel, by decide +kernel⟩
/-! ### comprehensions over zip and tuples, the heap growing -/
section
variable {K : PySem.W.Frag} {σ : L2.St} {H : Hp} {te tl : TE} {ta : TA} {g : TG} {vs : List Nat} {a b : Addr} {xs ys : List V}
/-- [e for x, y in zip(a, b)] of two tuples -/
theorem el_zipT (ev : Nat → V) (h : EvA ta σ H [.ref a, .ref b]) (ha : SqT K H a xs) (hb : SqT K H b ys) (hl : xs.length = ys.length) (hz : xs.length ≤ 1000)
    (he : ∀ i x y H1, Ex H H1 → xs[i]? = some x → ys[i]? = some y → ∀ T, H1 T = none → ∀ Q : L2.St → Hp → Prop, (∀ σ2 H2, Ex H1 H2 → wipe σ2 vs = wipe σ vs → Ev te σ2 H2 (ev i) → Q σ2 H2) → g (.ref T) (wipe σ vs) (upd H1 T (.tup [x, y])) Q) :
    EvL (tLc (RZ.iZipA K ta) g tYes te vs) σ H ((List.range xs.length).map ev) := fun H0 e0 Q q => h H0 e0 _ fun H1 e1 =>
  ⟨a, b, xs, ys, rfl, .inr ⟨ex_t (e0.trans e1) ha, ex_t (e0.trans e1) hb, fun D hD => by
    have eD : Ex H1 (upd H1 D (.lst [])) := Ex.new hD
    refine ⟨fun i m H' => m = xs.length - i ∧ i ≤ xs.length ∧ Ex H1 H' ∧ H' D = some (.lst ((List.range i).map ev)), ⟨xs.length, by simp, Nat.zero_le _, eD, upd_same⟩, ?_⟩
    rintro i m H' ⟨rfl, hi, e2, hL⟩
    have s1 := ex_t (e0.trans (e1.trans e2)) ha
    have s2 := ex_t (e0.trans (e1.trans e2)) hb
    by_cases hlt : i < xs.length
    · obtain ⟨x, hx⟩ : ∃ x, xs[i]? = some x := ⟨_, List.getElem?_eq_getElem hlt⟩
      obtain ⟨y, hy⟩ : ∃ y, ys[i]? = some y := ⟨_, List.getElem?_eq_getElem (hl ▸ hlt)⟩
      refine .inr ⟨⟨xs, ys, x, y, s1, s2, hx, hy⟩, fun H3 => Ex H1 H3 ∧ H3 D = some (.lst ((List.range (i + 1)).map ev)), fun H3 ⟨a3, b3⟩ => ⟨xs.length - (i + 1), by omega, rfl, hlt, a3, b3⟩, ?_⟩
      rintro v H3 ⟨T, x', y', rfl, hT, rfl, kx, ky⟩
      have ex := Option.some.inj ((kx xs s1).symm.trans hx)
      have ey := Option.some.inj ((ky ys s2).symm.trans hy)
      subst ex
      subst ey
      refine he i x' y' H' (e0.trans (e1.trans e2)) hx hy T hT _ fun σ2 H4 e4 hw hev => ⟨hw, ?_⟩
      dsimp only [tYes]
      rw [if_pos rfl]
      refine hev H4 (Ex.refl _) _ fun H5 e5 => ⟨_, e5 _ _ (e4 _ _ hL), ?_, ?_⟩
      · rw [List.length_map, List.length_range]
        exact Nat.lt_of_lt_of_le (Nat.lt_of_lt_of_le hlt hz) (show 1000 ≤ sizeLine by decide)
      · refine ⟨Ex.mut (e2.trans (e4.trans e5)) hD, ?_⟩
        rw [upd_same, List.range_succ, List.map_append]
        rfl
    · have ei : i = xs.length := by omega
      subst ei
      exact .inl ⟨⟨xs, ys, s1, s2, .inl (Nat.le_refl _)⟩, q D H' (by cases z : H0 D with | none => rfl | some o => rw [e1 _ _ z] at hD; cases hD) (e1.trans e2) hL⟩⟩⟩
/-- tuple([..]) -/
theorem eu_tuple {xs : List V} (h : EvL te σ H xs) : EvU (tCB (fun vs H Q => ∃ p ys, vs = [V.ref p] ∧ ((SqL K H p ys ∧ ∀ l, H l = none → Q (.ref l) (upd H l (.tup ys))) ∨ (SqT K H p ys ∧ Q (.ref p) H))) (tCons te tNil)) σ H xs := fun H1 e Q q =>
  h H1 e _ fun p H2 hp e2 hL => ⟨p, xs, rfl, .inl ⟨SqL.of hL, fun l hl => q l _ (fresh_back e2 hl) (e2.trans (Ex.new hl)) upd_same⟩⟩
/-- [e for x in t] of a tuple -/
theorem el_tup {j : Nat} (ev : Nat → V) (h : Ev tl σ H (.ref a)) (ha : SqT K H a xs) (hz : xs.length ≤ 1000) (hw : ∀ x, wipe ((wipe σ vs).set j (some x)) vs = wipe σ vs)
    (he : ∀ i x H1, Ex H H1 → xs[i]? = some x → Ev te ((wipe σ vs).set j (some x)) H1 (ev i)) :
    EvL (tLc (iTup K tl) (gName j) tYes te vs) σ H ((List.range xs.length).map ev) := fun H0 e0 Q q => h H0 e0 _ fun H1 e1 =>
  ⟨a, rfl, ⟨xs, ex_t (e0.trans e1) ha⟩, fun D hD => lc_tup (K := K) (a := a) (xs := xs) (fun i H' => Ex H1 H' ∧ H' D = some (.lst ((List.range i).map ev))) ⟨Ex.new hD, upd_same⟩ (fun i H' _ ⟨e2, _⟩ => ex_t (e0.trans (e1.trans e2)) ha)
    (fun i x H' hx ⟨e2, hL⟩ => ⟨hw x, (he i x H' (e0.trans (e1.trans e2)) hx) H' (Ex.refl _) _ fun H5 e5 => ⟨_, e5 _ _ hL, (by
      rw [List.length_map, List.length_range]
      exact Nat.lt_of_lt_of_le (Nat.lt_of_lt_of_le (List.getElem?_eq_some_iff.mp hx).1 hz) (show 1000 ≤ sizeLine by decide)), Ex.mut (e2.trans e5) hD, (by
      rw [upd_same, List.range_succ, List.map_append]
      rfl)⟩⟩)
    (fun H' ⟨e2, hL⟩ => q D H' (fresh_back e1 hD) (e1.trans e2) hL)⟩
end
/-! ### openers: the goal as a reading of its first part -/
section
variable {σ : L2.St} {H : Hp} {D : Ends} {t u : TS} {te : TE} {ta tr : TA} {i j : Nat}
theorem o_par {P : L2.St → Hp → Prop} (h : ta σ H fun vs H1 => ∃ v w, vs = [v, w] ∧ D.nx ((σ.set i (some v)).set j (some w)) H1) : tPar i j ta D σ H := h
theorem o_cons {Q : List V → Hp → Prop} (h : te σ H fun x H1 => tr σ H1 fun xs H2 => Q (x :: xs) H2) : tCons te tr σ H Q := h
theorem o_ret (h : te σ H D.rt) : tRet te D σ H := h
end
end My
set_option maxHeartbeats 4000000
namespace My
open PySem L2 Lf Evl
def spComb : Sp := fun vs H Q _ => ∃ a b : Int, vs = [.int a, .int b] ∧ Bd 400 a ∧ Bd 400 b ∧
  ∀ t H' g x y, Ex H H' → H' t = some (.tup [.int g, .int x, .int y]) → Mt.Comb a b g x y → Bd 900 x → Bd 900 y → Q (.ref t) H'
/-- what holds between two turns of the combination's loop -/
structure CombW (a b r0 x0 y0 r1 x1 y1 : Int) : Prop where
  ci : Mt.CombI a b r0 x0 y0 r1 x1 y1
  b0 : Bd 400 r0
  b1 : Bd 400 r1
  bx : Bd 900 x0 ∧ Bd 900 y0 ∧ Bd 900 x1 ∧ Bd 900 y1
  ph : (r0 = a ∧ x0 = 1 ∧ y0 = 0 ∧ r1 = b ∧ x1 = 0 ∧ y1 = 1) ∨ (Mt.Like r0 r1 ∧ r0 ≠ 0 ∧ Mt.Sz (2 ^ 850) r0 x0 r1 x1 ∧ Mt.Sz (2 ^ 850) r0 y0 r1 y1)
theorem CombW.start {a b : Int} (ha : Bd 400 a) (hb : Bd 400 b) : CombW a b a 1 0 b 0 1 :=
  ⟨.start a b, ha, hb, ⟨Bd.lit (by decide), Bd.lit (by decide), Bd.lit (by decide), Bd.lit (by decide)⟩, .inl ⟨rfl, rfl, rfl, rfl, rfl, rfl⟩⟩
theorem bd_of_sz {r0 x0 r1 x1 : Int} (h : r0 ≠ 0) (s : Mt.Sz (2 ^ 850) r0 x0 r1 x1) : Bd 900 x1 :=
  Nat.lt_of_le_of_lt (Mt.sz_part h s) (Nat.pow_lt_pow_right (by decide) (by decide))
theorem CombW.step {a b r0 x0 y0 r1 x1 y1 : Int} (h : CombW a b r0 x0 y0 r1 x1 y1) (hr : r1 ≠ 0) :
    CombW a b r1 x1 y1 (r0 - r0.fdiv r1 * r1) (x0 - r0.fdiv r1 * x1) (y0 - r0.fdiv r1 * y1) := by
  obtain ⟨ci, b0, b1, ⟨bx0, by0, bx1, by1⟩, ph⟩ := h
  obtain ⟨hl, hlt⟩ := Mt.like_step (r0 := r0) hr
  have sz : Mt.Sz (2 ^ 850) r1 x1 (r0 - r0.fdiv r1 * r1) (x0 - r0.fdiv r1 * x1) ∧ Mt.Sz (2 ^ 850) r1 y1 (r0 - r0.fdiv r1 * r1) (y0 - r0.fdiv r1 * y1) := by
    rcases ph with ⟨rfl, rfl, rfl, rfl, rfl, rfl⟩ | ⟨lk, r00, s1, s2⟩
    · have p : (2 : Nat) ^ 400 * 2 ^ 400 = 2 ^ 800 := by rw [← Nat.pow_add]
      have p2 : (2 : Nat) ^ 400 ≤ 2 ^ 800 := Nat.pow_le_pow_right (by decide) (by decide)
      have p3 : (2 : Nat) ^ 800 + 2 ^ 800 = 2 ^ 801 := by rw [Nat.pow_succ]; omega
      have p4 : (2 : Nat) ^ 801 ≤ 2 ^ 850 := Nat.pow_le_pow_right (by decide) (by decide)
      unfold Bd at b0 b1
      constructor
      · unfold Mt.Sz
        have e : (1 - r0.fdiv r1 * 0 : Int) = 1 := by omega
        rw [e]
        show r1.natAbs * 1 + _ * 0 ≤ _
        omega
      · unfold Mt.Sz
        have e : (0 - r0.fdiv r1 * 1 : Int) = -(r0.fdiv r1) := by omega
        rw [e, Int.natAbs_neg]
        have f := Int.natAbs_fdiv_le_natAbs r0 r1
        have m : r1.natAbs * (r0.fdiv r1).natAbs ≤ 2 ^ 400 * 2 ^ 400 := Nat.mul_le_mul (Nat.le_of_lt b1) (Nat.le_of_lt (Nat.lt_of_le_of_lt f b0))
        show _ + _ * 1 ≤ _
        omega
    · exact ⟨Mt.sz_step hr lk s1, Mt.sz_step hr lk s2⟩
  exact ⟨ci.step, b1, Nat.lt_trans hlt b1, ⟨bx1, by1, bd_of_sz hr sz.1, bd_of_sz hr sz.2⟩, .inr ⟨hl, hr, sz.1, sz.2⟩⟩
section
variable {P : Program} {w : World} {K : PySem.W.Frag} {mg : Str → Option Value} {base : Heap} {CN fI CA FE : Addr}
theorem ok_is_number (T : Txt P K mg CN fI CA FE) (D : Df K mg "is_number" s_is_number) : DefOk P w K mg base CX0 1 "is_number" ["value"] spIsNumber := by
  refine D.ok sc_is_number (fun _ _ _ _ _ _ us hl => match us, hl with | [_], _ => rfl) (fun vs H Q E h => ?_) (fun f cdv A outer s H vs Q E hr h => ?_)
  · obtain ⟨v, t, rfl, _⟩ := h
    rfl
  · obtain ⟨v, t, rfl, kd, q⟩ := h
    refine ⟨_, (pss_one (ps_ret (pe_and (pe_callB call_isi (by rfl) T.n_isinstance (by decide +kernel) (pa_cons (pv 0) (pa_cons (pe_bltn (v := .ty "int") (by rfl) T.n_int (by decide +kernel) rfl) pa_nil))) (pe_one (pe_not (pe_callB call_isi (by rfl) T.n_isinstance (by decide +kernel) (pa_cons (pv 0) (pa_cons (pe_bltn (v := .ty "bool") (by rfl) T.n_bool (by decide +kernel) rfl) pa_nil)))))))), ?_⟩
    refine ⟨v, rfl, v, _, _, _, _, rfl, .ty "int", kd.ty K, kit_ty kd.int_, _, rfl, ?_⟩
    have e := kd.num_
    cases h : (numV v || t == "bool") with
    | true =>
      rw [h] at e
      refine if_so rfl ⟨v, rfl, v, _, _, _, _, rfl, .ty "bool", kd.ty K, kit_ty kd.bool_, _, rfl, ?_⟩
      rw [if_pos rfl] at e
      show Q (.bl (!(t == "bool"))) H
      rw [e]
      exact q
    | false =>
      rw [h] at e
      refine if_no rfl ?_
      rw [if_neg Bool.false_ne_true] at e
      rw [e]
      exact q
theorem ok_combination (T : Txt P K mg CN fI CA FE) (D : Df K mg "combination" s_combination) : DefOk P w K mg base CX0 1 "combination" ["one", "other"] spComb := by
  refine D.ok sc_combination (fun _ _ _ _ _ _ us hl => match us, hl with | [_, _], _ => rfl) (fun vs H Q E h => ?_) (fun f cdv A outer s H vs Q E hr h => ?_)
  · obtain ⟨a, b, rfl, _⟩ := h
    rfl
  · obtain ⟨a, b, rfl, ha, hb, q⟩ := h
    refine ⟨_, (pss_cons (ps_par (by rfl) sc_combination.nd (i := 2) (j := 3) rfl rfl (by decide) rfl rfl (pa_cons (pe_tup (pa_cons (pv 0) (pa_cons pe_int (pa_cons pe_int pa_nil)))) (pa_cons (pe_tup (pa_cons (pv 1) (pa_cons pe_int (pa_cons pe_int pa_nil)))) pa_nil)) (by rfl))
 (pss_cons (ps_while PassesOwn.never (pt_cmpR op_ne (pe_ix ix_tup (pv 3) pe_int (fun _ _ => rfl)) pe_int (nomark _))
 (pss_cons (ps_set (i := 4) sc_combination.nd rfl (Or.inr rfl) (pe_op op_fdivV (pe_ix ix_tup (pv 2) pe_int (fun _ _ => rfl)) (pe_ix ix_tup (pv 3) pe_int (fun _ _ => rfl))))
 (pss_one (ps_par (by rfl) sc_combination.nd (i := 2) (j := 3) rfl rfl (by decide) rfl rfl (pa_cons (pv 3) (pa_cons (pe_callTy call_tuple_of (by rfl) T.n_tuple (by decide +kernel) (pa_cons (pe_lc (own := [("was", 5), ("now", 6)]) (g := (gTup K 2 (gCons (gName 5) (gCons (gName 6) gNil)))) (by rfl) sc_combination.nd (RZ.pi_zipA (by rfl) T.n_zip (pa_cons (pv 2) (pa_cons (pv 3) pa_nil))) (blkOk_by (own := [("was", 5), ("now", 6)]) (N := ["one", "other", "old", "new", "many", "was", "now", "part"]) (sc := defScope s_combination) (by decide +kernel)) (fun _ _ _ _ _ => (pg_tup (by rfl) (pgs_cons (pg_name (i := 5) sc_combination.nd rfl (Or.inl rfl)) (pgs_cons (pg_name (i := 6) sc_combination.nd rfl (Or.inl rfl)) pgs_nil)))) (fun _ _ _ _ _ => pts_nil) (fun _ _ _ _ _ => (pe_op op_sub (pv 5) (pe_op op_mulW (pv 4) (pv 6))))) pa_nil)) pa_nil)) (by rfl)))))
 (pss_cons (ps_if (pt_cmpR op_lt (pe_ix ix_tup (pv 2) pe_int (fun _ _ => rfl)) pe_int (nomark _))
 (pss_one (ps_ret (pe_callTy call_tuple_of (by rfl) T.n_tuple (by decide +kernel) (pa_cons (pe_lc (own := [("part", 7)]) (by rfl) sc_combination.nd (pi_tup (pv 2)) (blkOk_by (own := [("part", 7)]) (N := ["one", "other", "old", "new", "many", "was", "now", "part"]) (sc := defScope s_combination) (by decide +kernel)) (fun _ _ _ _ _ => (pg_name (i := 7) sc_combination.nd rfl (Or.inl rfl))) (fun _ _ _ _ _ => pts_nil) (fun _ _ _ _ _ => (pe_un un_neg (pv 7)))) pa_nil))))
 pss_nil)
 (pss_one (ps_ret (pv 2)))))), ?_⟩
    refine ⟨_, rfl, show 3 ≤ sizeLine by decide, fun t0 ht0 => ⟨_, rfl, show 3 ≤ sizeLine by decide, fun t1 ht1 => ⟨_, _, rfl, ?_⟩⟩⟩
    refine ⟨fun m σ H' => ∃ (to tn : Addr) (r0 x0 y0 r1 x1 y1 : Int) (mv : Option V), σ = [some (.int a), some (.int b), some (.ref to), some (.ref tn), mv, none, none, none] ∧ Ex H H' ∧ H' to = some (.tup [.int r0, .int x0, .int y0]) ∧ H' tn = some (.tup [.int r1, .int x1, .int y1]) ∧ CombW a b r0 x0 y0 r1 x1 y1 ∧ m = r1.natAbs,
      ⟨b.natAbs, t0, t1, a, 1, 0, b, 0, 1, none, rfl, (Ex.new ht0).trans (Ex.new ht1), Ex.new ht1 _ _ upd_same, upd_same, CombW.start ha hb, rfl⟩, ?_⟩
    rintro m σ H' ⟨to, tn, r0, x0, y0, r1, x1, y1, mv, rfl, e1, hto, htn, W, rfl⟩
    refine ⟨_, rfl, _, _, _, _, rfl, rfl, SqT.of htn, rfl, rfl, _, rfl, ?_⟩
    by_cases hz : r1 = 0
    · subst hz
      refine if_no (by simp) ?_
      refine ⟨_, rfl, _, _, _, _, rfl, rfl, SqT.of hto, rfl, _, _, rfl, rfl, _, rfl, ?_⟩
      by_cases hn : r0 < 0
      · refine if_so (decide_eq_true hn) ?_
        refine s_retU (xs := [.int (-r0), .int (-x0), .int (-y0)]) (eu_tuple ?_) fun t H2 ht e2 hT => q t H2 (-r0) (-x0) (-y0) (e1.trans e2) hT (Mt.Comb.neg W.ci hn) W.bx.1.neg W.bx.2.1.neg
        refine el_tup (xs := [.int r0, .int x0, .int y0]) (fun i => match i with | 0 => .int (-r0) | 1 => .int (-x0) | _ => .int (-y0)) (ev_var rfl) (SqT.of hto) (by simp) (fun x => rfl) (fun i x H1 e hx => ?_)
        match i, hx with
        | 0, hx => cases hx; exact ev_un (ev_var rfl) ru_neg
        | 1, hx => cases hx; exact ev_un (ev_var rfl) ru_neg
        | 2, hx => cases hx; exact ev_un (ev_var rfl) ru_neg
        | n + 3, hx => simp at hx
      · refine if_no (decide_eq_false hn) ?_
        exact ⟨_, rfl, q to H' r0 x0 y0 e1 hto (Mt.Comb.of W.ci (by omega)) W.bx.1 W.bx.2.1⟩
    · refine if_so (by simp [hz]) ?_
      refine ⟨fun σ' H2 => ∃ (to tn : Addr) (r0' x0' y0' r1' x1' y1' : Int) (mv : Option V), σ' = [some (.int a), some (.int b), some (.ref to), some (.ref tn), mv, none, none, none] ∧ Ex H H2 ∧ H2 to = some (.tup [.int r0', .int x0', .int y0']) ∧ H2 tn = some (.tup [.int r1', .int x1', .int y1']) ∧ CombW a b r0' x0' y0' r1' x1' y1' ∧ r1'.natAbs < r1.natAbs,
        fun σ' H2 ⟨to, tn, r0', x0', y0', r1', x1', y1', mv, e, a2, a3, a4, a5, a6⟩ => ⟨r1'.natAbs, a6, to, tn, r0', x0', y0', r1', x1', y1', mv, e, a2, a3, a4, a5, rfl⟩, ?_⟩
      refine ⟨_, rfl, _, _, _, _, rfl, rfl, SqT.of hto, rfl, _, rfl, _, _, _, _, rfl, rfl, SqT.of htn, rfl, _, _, rfl, rfl, W.b1.dok hz (by decide) (by decide), ?_⟩
      refine ⟨_, rfl, ?_⟩
      refine o_cons ?_
      refine eu_tuple (xs := [.int (r0 - r0.fdiv r1 * r1), .int (x0 - r0.fdiv r1 * x1), .int (y0 - r0.fdiv r1 * y1)]) ?_ H' (Ex.refl _) _ fun t H2 ht e2 hT => ?_
      · have bm : Bd 400 (r0.fdiv r1) := Nat.lt_of_le_of_lt (Int.natAbs_fdiv_le_natAbs r0 r1) W.b0
        refine el_zipT (xs := [.int r0, .int x0, .int y0]) (ys := [.int r1, .int x1, .int y1]) (fun i => match i with | 0 => .int (r0 - r0.fdiv r1 * r1) | 1 => .int (x0 - r0.fdiv r1 * x1) | _ => .int (y0 - r0.fdiv r1 * y1)) (ea_cons (ev_var rfl) (ea_cons (ev_var rfl) ea_nil)) (SqT.of hto) (SqT.of htn) rfl (by simp) (fun i x y H1 e hx hy T hT Q q => ?_)
        refine ⟨T, [x, y], rfl, SqT.of upd_same, rfl, x, [y], rfl, y, [], rfl, rfl, q _ _ (Ex.new hT) rfl ?_⟩
        match i, hx, hy with
        | 0, hx, hy => cases hx; cases hy; exact ev_op (ev_var rfl) (ev_op (ev_var rfl) (ev_var rfl) (rv_I (bm.ok W.b1 (by decide) (by decide) (by decide)))) rv_I0
        | 1, hx, hy => cases hx; cases hy; exact ev_op (ev_var rfl) (ev_op (ev_var rfl) (ev_var rfl) (rv_I (bm.ok W.bx.2.2.1 (by decide) (by decide) (by decide)))) rv_I0
        | 2, hx, hy => cases hx; cases hy; exact ev_op (ev_var rfl) (ev_op (ev_var rfl) (ev_var rfl) (rv_I (bm.ok W.bx.2.2.2 (by decide) (by decide) (by decide)))) rv_I0
        | n + 3, hx, _ => simp at hx
      · exact ⟨_, _, rfl, tn, t, r1, x1, y1, _, _, _, _, rfl, e1.trans e2, e2 _ _ htn, hT, W.step hz, (Mt.like_step hz).2⟩
end
end My
set_option maxHeartbeats 4000000
namespace My
open PySem L2 Lf Evl
abbrev tup2 (q : Int × Int) : HO := .tup [.int q.1, .int q.2]
def Bd2 (n : Nat) (q : Int × Int) : Prop := Bd n q.1 ∧ Bd n q.2
theorem Bd2.mono {n m : Nat} {q : Int × Int} (h : Bd2 n q) (hm : n ≤ m) : Bd2 m q := ⟨h.1.mono hm, h.2.mono hm⟩
def oV : Option Int → V
  | none => .non
  | some i => .int i
def stepOf (p o : Int × Int) : Int × Int := (o.1 / (Int.gcd p.1 o.1 : Int), p.1 / (Int.gcd p.1 o.1 : Int))
/-- what line_of says of two places -/
def spLine : Sp := fun vs H Q _ => ∃ (pa oa : Addr) (p o : Int × Int), vs = [.ref pa, .ref oa] ∧ H pa = some (tup2 p) ∧ H oa = some (tup2 o) ∧ Bd2 400 p ∧ Bd2 400 o ∧ ¬ (p.1 = 0 ∧ o.1 = 0) ∧
  (∀ H', Ex H H' → (∀ q, ¬ Mt.meets p o q) → ¬ (o.2 - p.2) % (Int.gcd p.1 o.1 : Int) = 0 → Q .non H') ∧
  (∀ t tq ts H' q0, Ex H H' → H' t = some (.tup [.ref tq, .ref ts]) → H' tq = some (tup2 q0) → H' ts = some (tup2 (stepOf p o)) → Mt.Line p o q0 (stepOf p o) → Bd2 1400 q0 → Bd2 400 (stepOf p o) → Q (.ref t) H')
def spAfter : Sp := fun vs H Q _ => ∃ (qa sa : Addr) (q st : Int × Int) (t : Int), vs = [.ref qa, .ref sa, .int t] ∧ H qa = some (tup2 q) ∧ H sa = some (tup2 st) ∧ Bd2 400 st ∧ Bd 5000 t ∧
  ∀ r H', Ex H H' → H' r = some (tup2 (Mt.after q st t)) → Q (.ref r) H'
abbrev endsT (e : Mt.Ends) : HO := .tup [oV e.1, oV e.2.1, .bl e.2.2]
def spEnds : Sp := fun vs H Q _ => ∃ (l1 l2 : Addr) (ns ms : List Int), vs = [.ref l1, .ref l2] ∧ H l1 = some (.lst (ns.map V.int)) ∧ H l2 = some (.lst (ms.map V.int)) ∧ ns.length = ms.length ∧ (∀ m ∈ ms, Bd 900 m) ∧
  ∀ r H', Ex H H' → H' r = some (endsT (Mt.ends (ns.zip ms))) → Q (.ref r) H'
theorem take_more {α : Type} : ∀ {l : List α} {i : Nat} {x : α}, l[i]? = some x → l.take (i + 1) = l.take i ++ [x]
  | [], i, x, h => by simp at h
  | a :: l, 0, x, h => by
    have e : a = x := Option.some.inj h
    subst e
    rfl
  | a :: l, i + 1, x, h => by
    have ih := take_more (l := l) (i := i) (x := x) h
    show a :: l.take (i + 1) = a :: l.take i ++ [x]
    rw [ih]
    rfl
theorem map_int_at {ns : List Int} {i : Nat} {x : V} (h : (ns.map V.int)[i]? = some x) : ∃ n, ns[i]? = some n ∧ x = V.int n := by
  rw [List.getElem?_map] at h
  cases e : ns[i]? with
  | none => rw [e] at h; cases h
  | some n => rw [e] at h; exact ⟨n, rfl, (Option.some.inj h).symm⟩
theorem nei_f {x y : Int} (h : x = y) : (!decide (V.int x = V.int y)) = false := by rw [h]; simp
theorem nei_t {x y : Int} (h : ¬ x = y) : (!decide (V.int x = V.int y)) = true := by simp [h]
theorem eqi_t {x y : Int} (h : x = y) : decide (V.int x = V.int y) = true := by rw [h]; simp
theorem eqi_f {x y : Int} (h : ¬ x = y) : decide (V.int x = V.int y) = false := by simp [h]
section
variable {P : Program} {w : World} {K : PySem.W.Frag} {mg : Str → Option Value} {base : Heap} {CN fI CA FE : Addr}
theorem ok_line_of (T : Txt P K mg CN fI CA FE) (D : Df K mg "line_of" s_line_of) (D_combination : DefOk P w K mg base CX0 1 "combination" ["one", "other"] spComb) : DefOk P w K mg base CX0 2 "line_of" ["place", "other"] spLine := by
  refine D.ok sc_line_of (fun _ _ _ _ _ _ us hl => match us, hl with | [_, _], _ => rfl) (fun vs H Q E h => ?_) (fun f cdv A outer s H vs Q E hr h => ?_)
  · obtain ⟨a, b, _, _, rfl, _⟩ := h
    rfl
  · obtain ⟨pa, oa, p, o, rfl, hp, ho, bp, bo, nz, q1, q2⟩ := h
    refine ⟨_, (pss_cons (ps_asg (pe_callD D_combination (hr.mono (by decide)) pass0 (pa_cons (pe_ix ix_tup (pv 0) pe_int (fun _ _ => rfl)) (pa_cons (pe_ix ix_tup (pv 1) pe_int (fun _ _ => rfl)) pa_nil))) (pg_tup (by rfl) (pgs_cons (pg_name (i := 2) sc_line_of.nd rfl (Or.inl rfl)) (pgs_cons (pg_name (i := 3) sc_line_of.nd rfl (Or.inl rfl)) (pgs_cons (pg_name (i := 4) sc_line_of.nd rfl (Or.inl rfl)) pgs_nil)))))
 (pss_cons (ps_set (i := 5) sc_line_of.nd rfl (Or.inl rfl) (pe_op op_sub (pe_ix ix_tup (pv 1) pe_int (fun _ _ => rfl)) (pe_ix ix_tup (pv 0) pe_int (fun _ _ => rfl))))
 (pss_cons (ps_if (pt_cmpR op_ne (pe_op op_mod (pv 5) (pv 2)) pe_int (nomark _))
 (pss_one (ps_ret pe_non))
 pss_nil)
 (pss_cons (ps_set (i := 6) sc_line_of.nd rfl (Or.inl rfl) (pe_op op_fdivW (pv 5) (pv 2)))
 (pss_one (ps_ret (pe_tup (pa_cons (pe_tup (pa_cons (pe_op op_mulW (pv 3) (pv 6)) (pa_cons (pe_op op_mulW (pe_un un_neg (pv 4)) (pv 6)) pa_nil))) (pa_cons (pe_tup (pa_cons (pe_op op_fdivW (pe_ix ix_tup (pv 1) pe_int (fun _ _ => rfl)) (pv 2)) (pa_cons (pe_op op_fdivW (pe_ix ix_tup (pv 0) pe_int (fun _ _ => rfl)) (pv 2)) pa_nil))) pa_nil))))))))), ?_⟩
    refine ⟨_, rfl, _, _, _, _, rfl, rfl, SqT.of hp, rfl, _, rfl, _, _, _, _, rfl, rfl, SqT.of ho, rfl, _, _, rfl, bp.1, bo.1, fun t H1 g x y e1 ht cb bx by_ => ?_⟩
    have g0 := cb.pos nz
    have hg := cb.gcd
    refine ⟨t, _, rfl, SqT.of ht, rfl, _, _, rfl, _, _, rfl, _, _, rfl, rfl, ?_⟩
    have hp1 := e1 _ _ hp
    have ho1 := e1 _ _ ho
    refine ⟨_, rfl, _, _, _, _, rfl, rfl, SqT.of ho1, rfl, _, rfl, _, _, _, _, rfl, rfl, SqT.of hp1, rfl, _, _, rfl, rfl, ?_⟩
    refine ⟨_, rfl, _, rfl, _, _, rfl, rfl, g0, rfl, _, rfl, ?_⟩
    by_cases hm : (o.2 - p.2) % g = 0
    · refine if_no (nei_f hm) ?_
      have ba : Bd 401 (o.2 - p.2) := bo.2.sub bp.2 (by decide)
      have bg : Bd 400 g := by
        unfold Bd
        rw [hg, Int.natAbs_natCast]
        by_cases z : p.1 = 0
        · have : o.1 ≠ 0 := fun y => nz ⟨z, y⟩
          have h1 : Int.gcd p.1 o.1 ≤ o.1.natAbs := Nat.le_of_dvd (Int.natAbs_pos.mpr this) (Nat.gcd_dvd_right _ _)
          exact Nat.lt_of_le_of_lt h1 bo.1
        · have h1 : Int.gcd p.1 o.1 ≤ p.1.natAbs := Nat.le_of_dvd (Int.natAbs_pos.mpr z) (Nat.gcd_dvd_left _ _)
          exact Nat.lt_of_le_of_lt h1 bp.1
      have dv : ∀ i : Int, CDivW i g := fun i => bg.dpos g0 (by decide) (by decide)
      refine ⟨_, rfl, _, rfl, _, _, rfl, rfl, dv _, ?_⟩
      have bm : Bd 401 ((o.2 - p.2) / g) := ba.div
      refine ⟨_, rfl, _, rfl, _, _, rfl, rfl, bx.ok bm (by decide) (by decide) (by decide), _, rfl, _, rfl, _, rfl, _, _, rfl, rfl, by_.neg.ok bm (by decide) (by decide) (by decide), show 2 ≤ sizeLine by decide, fun tq htq => ?_⟩
      refine ⟨_, rfl, _, _, _, _, rfl, rfl, SqT.of (Ex.new htq _ _ ho1), rfl, _, rfl, _, _, rfl, rfl, dv _, _, rfl, _, _, _, _, rfl, rfl, SqT.of (Ex.new htq _ _ hp1), rfl, _, rfl, _, _, rfl, rfl, dv _, show 2 ≤ sizeLine by decide, fun ts hts => ?_⟩
      refine ⟨show 2 ≤ sizeLine by decide, fun tt htt => ?_⟩
      have es : stepOf p o = (o.1 / g, p.1 / g) := by unfold stepOf; rw [hg]
      have ed : o.2 - p.2 = g * ((o.2 - p.2) / g) := by
        have := Int.mul_ediv_add_emod (o.2 - p.2) g
        omega
      have L := Mt.line_of (p := p) (o := o) cb g0 ed
      rw [← es] at L
      refine q2 tt tq ts _ (x * ((o.2 - p.2) / g), -y * ((o.2 - p.2) / g)) (((e1.trans (Ex.new htq)).trans (Ex.new hts)).trans (Ex.new htt)) upd_same (Ex.new htt _ _ (Ex.new hts _ _ upd_same)) ?_ L ⟨bx.mul bm (by decide), by_.neg.mul bm (by decide)⟩ ?_
      · rw [es]
        exact Ex.new htt _ _ upd_same
      · rw [es]
        exact ⟨bo.1.div, bp.1.div⟩
    · refine if_so (nei_t hm) ?_
      exact q1 H1 e1 (fun q => Mt.no_line cb hm) (by rw [← hg]; exact hm)
theorem ok_pair_after (T : Txt P K mg CN fI CA FE) (D : Df K mg "pair_after" s_pair_after) : DefOk P w K mg base CX0 1 "pair_after" ["pair", "step", "many"] spAfter := by
  refine D.ok sc_pair_after (fun _ _ _ _ _ _ us hl => match us, hl with | [_, _, _], _ => rfl) (fun vs H Q E h => ?_) (fun f cdv A outer s H vs Q E hr h => ?_)
  · obtain ⟨a, b, _, _, _, rfl, _⟩ := h
    rfl
  · obtain ⟨qa, sa, q, st, t, rfl, hq, hs, bs, bt, k⟩ := h
    refine ⟨_, (pss_one (ps_ret (pe_tup (pa_cons (pe_op op_add (pe_ix ix_tup (pv 0) pe_int (fun _ _ => rfl)) (pe_op op_mulW (pe_ix ix_tup (pv 1) pe_int (fun _ _ => rfl)) (pv 2))) (pa_cons (pe_op op_add (pe_ix ix_tup (pv 0) pe_int (fun _ _ => rfl)) (pe_op op_mulW (pe_ix ix_tup (pv 1) pe_int (fun _ _ => rfl)) (pv 2))) pa_nil))))), ?_⟩
    refine ⟨_, rfl, _, _, _, _, rfl, rfl, SqT.of hq, rfl, _, rfl, _, _, _, _, rfl, rfl, SqT.of hs, rfl, _, rfl, _, _, rfl, rfl, bs.1.ok bt (by decide) (by decide) (by decide), _, _, rfl, rfl, ?_⟩
    refine ⟨_, rfl, _, _, _, _, rfl, rfl, SqT.of hq, rfl, _, rfl, _, _, _, _, rfl, rfl, SqT.of hs, rfl, _, rfl, _, _, rfl, rfl, bs.2.ok bt (by decide) (by decide) (by decide), _, _, rfl, rfl, show 2 ≤ sizeLine by decide, fun r hr' => ?_⟩
    exact k r _ (Ex.new hr') upd_same
theorem ok_ends_of (T : Txt P K mg CN fI CA FE) (D : Df K mg "ends_of" s_ends_of) : DefOk P w K mg base CX0 1 "ends_of" ["values", "slopes"] spEnds := by
  refine D.ok sc_ends_of (fun _ _ _ _ _ _ us hl => match us, hl with | [_, _], _ => rfl) (fun vs H Q E h => ?_) (fun f cdv A outer s H vs Q E hr h => ?_)
  · obtain ⟨a, b, _, _, rfl, _⟩ := h
    rfl
  · obtain ⟨l1, l2, ns, ms, rfl, h1, h2, hl, bm, k⟩ := h
    refine ⟨_, (pss_cons (ps_asg (pe_tup (pa_cons pe_non (pa_cons pe_non (pa_cons pe_bl pa_nil)))) (pg_tup (by rfl) (pgs_cons (pg_name (i := 2) sc_ends_of.nd rfl (Or.inl rfl)) (pgs_cons (pg_name (i := 3) sc_ends_of.nd rfl (Or.inl rfl)) (pgs_cons (pg_name (i := 4) sc_ends_of.nd rfl (Or.inl rfl)) pgs_nil)))))
 (pss_cons (ps_for PassesOwn.never rfl (RZ.pi_zipA (by rfl) T.n_zip (pa_cons (pv 0) (pa_cons (pv 1) pa_nil))) (pg_tup (by rfl) (pgs_cons (pg_name (i := 5) sc_ends_of.nd rfl (Or.inl rfl)) (pgs_cons (pg_name (i := 6) sc_ends_of.nd rfl (Or.inl rfl)) pgs_nil)))
 (pss_one (ps_if (pt_cmpR op_gt (pv 6) pe_int (nomark _))
 (pss_cons (ps_set (i := 7) sc_ends_of.nd rfl (Or.inl rfl) (pe_un un_neg (pe_op op_fdivW (pv 5) (pv 6))))
 (pss_one (ps_set (i := 2) sc_ends_of.nd rfl (Or.inl rfl) (pe_ifExp (pt_cmpR op_isN (pv 2) pe_non (nomark _)) (pv 7) (pe_callB (call_max2 rfl) (by rfl) T.n_max (by decide +kernel) (pa_cons (pv 2) (pa_cons (pv 7) pa_nil)))))))
 (pss_one (ps_if (pt_cmpR op_lt (pv 6) pe_int (nomark _))
 (pss_cons (ps_set (i := 7) sc_ends_of.nd rfl (Or.inl rfl) (pe_op op_fdivW (pv 5) (pe_un un_neg (pv 6))))
 (pss_one (ps_set (i := 3) sc_ends_of.nd rfl (Or.inl rfl) (pe_ifExp (pt_cmpR op_isN (pv 3) pe_non (nomark _)) (pv 7) (pe_callB (call_min2 rfl) (by rfl) T.n_min (by decide +kernel) (pa_cons (pv 3) (pa_cons (pv 7) pa_nil)))))))
 (pss_one (ps_if (pt_cmpR op_lt (pv 5) pe_int (nomark _))
 (pss_one (ps_set (i := 4) sc_ends_of.nd rfl (Or.inl rfl) pe_bl))
 pss_nil)))))))
 (pss_one (ps_ret (pe_tup (pa_cons (pv 2) (pa_cons (pv 3) (pa_cons (pv 4) pa_nil)))))))), ?_⟩
    refine ⟨show 3 ≤ sizeLine by decide, fun t0 ht0 => ⟨t0, _, rfl, SqT.of upd_same, rfl, _, _, rfl, _, _, rfl, _, _, rfl, rfl, ?_⟩⟩
    have e0 : Ex H (upd H t0 (.tup [.non, .non, .bl false])) := Ex.new ht0
    refine ⟨_, rfl, _, rfl, l1, l2, _, _, rfl, .inl ⟨SqL.of (e0 _ _ h1), SqL.of (e0 _ _ h2), RZ.for_zipL (K := K) (a := l1) (b := l2) (xs := ns.map V.int) (ys := ms.map V.int) (by rw [List.length_map, List.length_map, hl])
      (fun i σ H' => ∃ vv sv bv : Option V, σ = [some (.ref l1), some (.ref l2), some (oV (Mt.ends ((ns.zip ms).take i)).1), some (oV (Mt.ends ((ns.zip ms).take i)).2.1), some (.bl (Mt.ends ((ns.zip ms).take i)).2.2), vv, sv, bv] ∧ Ex H H')
      ⟨none, none, none, rfl, e0⟩ (fun i σ H' ⟨_, _, _, _, e⟩ => ⟨SqL.of (e _ _ h1), SqL.of (e _ _ h2)⟩) ?_ ?_⟩⟩
    · rintro i x y T' σ H' hx hy ⟨vv, sv, bv, rfl, e1⟩ hT
      obtain ⟨v, hv, rfl⟩ := map_int_at hx
      obtain ⟨s, hs, rfl⟩ := map_int_at hy
      have bs : Bd 900 s := bm s (List.mem_of_getElem? hs)
      have hz : (ns.zip ms)[i]? = some (v, s) := by rw [List.getElem?_zip_eq_some]; exact ⟨hv, hs⟩
      have en : Mt.ends ((ns.zip ms).take (i + 1)) = Mt.endStep (Mt.ends ((ns.zip ms).take i)) v s := by rw [take_more hz]; exact Mt.endsFrom_snoc _ _ _
      generalize Mt.ends ((ns.zip ms).take i) = e0 at en
      have e2 : Ex H (upd H' T' (.tup [.int v, .int s])) := e1.trans (Ex.new hT)
      obtain ⟨f, l, c⟩ := e0
      refine ⟨T', _, rfl, SqT.of upd_same, rfl, _, _, rfl, _, _, rfl, rfl, ?_⟩
      refine ⟨_, rfl, _, _, rfl, rfl, _, rfl, ?_⟩
      rw [en]
      unfold Mt.endStep
      by_cases c1 : 0 < s
      · refine if_so (decide_eq_true c1) ?_
        rw [if_pos c1]
        refine ⟨_, rfl, _, rfl, _, _, rfl, rfl, bs.dpos c1 (by decide) (by decide), _, rfl, ?_⟩
        refine ⟨_, rfl, rfl, _, rfl, ?_⟩
        cases f with
        | none => exact if_so (decide_eq_true rfl) ⟨_, rfl, _, _, _, rfl, e2⟩
        | some f => exact if_no (decide_eq_false (fun z => by cases z)) ⟨_, rfl, _, rfl, _, _, rfl, _, _, _, rfl, e2⟩
      · refine if_no (decide_eq_false c1) ?_
        rw [if_neg c1]
        refine ⟨_, rfl, _, _, rfl, rfl, _, rfl, ?_⟩
        by_cases c2 : s < 0
        · refine if_so (decide_eq_true c2) ?_
          rw [if_pos c2]
          refine ⟨_, rfl, _, rfl, _, rfl, _, _, rfl, rfl, bs.neg.dpos (by omega) (by decide) (by decide), ?_⟩
          refine ⟨_, rfl, rfl, _, rfl, ?_⟩
          cases l with
          | none => exact if_so (decide_eq_true rfl) ⟨_, rfl, _, _, _, rfl, e2⟩
          | some l => exact if_no (decide_eq_false (fun z => by cases z)) ⟨_, rfl, _, rfl, _, _, rfl, _, _, _, rfl, e2⟩
        · refine if_no (decide_eq_false c2) ?_
          rw [if_neg c2]
          refine ⟨_, rfl, _, _, rfl, rfl, _, rfl, ?_⟩
          by_cases c3 : v < 0
          · refine if_so (decide_eq_true c3) ?_
            rw [if_pos c3]
            exact ⟨_, _, _, rfl, e2⟩
          · refine if_no (decide_eq_false c3) ?_
            rw [if_neg c3]
            exact ⟨_, _, _, rfl, e2⟩
    · rintro σ H' ⟨vv, sv, bv, rfl, e1⟩
      have hlen : (ns.map V.int).length = (ns.zip ms).length := by rw [List.length_map, List.length_zip, hl, Nat.min_self]
      rw [hlen, List.take_length]
      exact ⟨_, rfl, _, rfl, _, rfl, show 3 ≤ sizeLine by decide, fun r hr' => k r _ (e1.trans (Ex.new hr')) upd_same⟩
end
end My
set_option maxHeartbeats 4000000
namespace My
open PySem L2 Lf Evl
abbrev s_Meetings___init__ : Stmt := inClass (top 22) 0
theorem sc_Meetings___init__ : FnScope ["self", "place", "other", "low", "high", "first", "rounds", "line"] ["self", "place", "other", "low", "high", "first", "rounds"] (defScope s_Meetings___init__) := ⟨rfl, rfl, rfl, by decide +kernel, rfl, by decide +kernel, by decide +kernel⟩
abbrev s_Meetings_spares_at : Stmt := inClass (top 22) 1
theorem sc_Meetings_spares_at : FnScope ["self", "pair", "distance", "found"] ["self", "pair"] (defScope s_Meetings_spares_at) := ⟨rfl, rfl, rfl, by decide +kernel, rfl, by decide +kernel, by decide +kernel⟩
abbrev s_Meetings_slopes : Stmt := inClass (top 22) 2
theorem sc_Meetings_slopes : FnScope ["self", "one", "two", "found"] ["self"] (defScope s_Meetings_slopes) := ⟨rfl, rfl, rfl, by decide +kernel, rfl, by decide +kernel, by decide +kernel⟩
def Great (i : Int) : Prop := -great < i ∧ i < great
theorem great_le : great ≤ 2 ^ 400 := by decide +kernel
theorem Great.bd {i : Int} (h : Great i) : Bd 400 i := by
  unfold Bd
  obtain ⟨h1, h2⟩ := h
  have := great_le
  have e : ((2 : Nat) ^ 400 : Int) = (2 : Int) ^ 400 := by decide +kernel
  omega
theorem bd_great {n : Nat} {i : Int} (h : Bd n i) (hn : n ≤ 300) : Great i := by
  have h' := Bd.mono h hn
  unfold Bd at h'
  have e : ((2 : Nat) ^ 300 : Int) ≤ great := by decide +kernel
  unfold Great
  omega
def spGreat : Sp := fun vs H Q _ => ∃ i : Int, vs = [.int i] ∧ Great i ∧ Q (.bl true) H
def spCount : Sp := fun vs H Q _ => ∃ i : Int, vs = [.int i] ∧ Great i ∧ 0 ≤ i ∧ Q (.bl true) H
def spPair : Sp := fun vs H Q _ => ∃ (a : Addr) (q : Int × Int), vs = [.ref a] ∧ H a = some (tup2 q) ∧ Q (.bl true) H
def spReqPlace : Sp := fun vs H Q _ => ∃ (a : Addr) (q : Int × Int), vs = [.ref a] ∧ H a = some (tup2 q) ∧ Great q.1 ∧ Great q.2 ∧ Q .non H
def spReqCount : Sp := fun vs H Q _ => ∃ i : Int, vs = [.int i] ∧ Great i ∧ 0 ≤ i ∧ Q .non H
/-- what spares_at and slopes read -/
structure BndAt (fs : List (Str × V)) (b : Mt.Bnd) : Prop where
  lo : fs.lookup ("low" : Str) = some (.int b.low)
  hi : fs.lookup ("high" : Str) = some (oV b.high)
  fi : fs.lookup ("first" : Str) = some (.int b.first)
  ro : fs.lookup ("rounds" : Str) = some (oV b.rounds)
def spSpares (C : Addr) : Sp := fun vs H Q _ => ∃ (m qa dx : Addr) (fs : List (Str × V)) (q : Int × Int) (b : Mt.Bnd), vs = [.ref m, .ref qa] ∧ H m = some (.ins C dx fs) ∧ BndAt fs b ∧ H qa = some (tup2 q) ∧
  ∀ l H', H l = none → Ex H H' → H' l = some (.lst ((Mt.spares b q).map V.int)) → Q (.ref l) H'
def spSlopes (C : Addr) : Sp := fun vs H Q _ => ∃ (m dx la qa sa : Addr) (fs : List (Str × V)) (st : Int × Int) (b : Mt.Bnd), vs = [.ref m] ∧ H m = some (.ins C dx fs) ∧ BndAt fs b ∧ fs.lookup ("own_line" : Str) = some (.ref la) ∧ H la = some (.tup [.ref qa, .ref sa]) ∧ H sa = some (tup2 st) ∧
  ∀ l H', H l = none → Ex H H' → H' l = some (.lst ((Mt.slopes b st).map V.int)) → Q (.ref l) H'
section
variable {P : Program} {w : World} {K : PySem.W.Frag} {mg : Str → Option Value} {base : Heap} {CN fI CA FE : Addr}
theorem ok_is_great (T : Txt P K mg CN fI CA FE) (D : Df K mg "is_great" s_is_great) (D_is_number : DefOk P w K mg base CX0 1 "is_number" ["value"] spIsNumber) : DefOk P w K mg base CX0 2 "is_great" ["value"] spGreat := by
  refine D.ok sc_is_great (fun _ _ _ _ _ _ us hl => match us, hl with | [_], _ => rfl) (fun vs H Q E h => ?_) (fun f cdv A outer s H vs Q E hr h => ?_)
  · obtain ⟨v, rfl, _⟩ := h
    rfl
  · obtain ⟨i, rfl, ⟨h1, h2⟩, q⟩ := h
    refine ⟨_, (pss_one (ps_ret (pe_and (pe_callD D_is_number (hr.mono (by decide)) pass0 (pa_cons (pv 0) pa_nil)) (pe_one (pe_chain op_lt op_lt (pe_un un_neg (pe_gInt (by rfl) T.g_GREAT)) (pv 0) (pe_gInt (by rfl) T.g_GREAT)))))), ?_⟩
    refine ⟨_, rfl, _, _, rfl, .int i, _, rfl, if_so rfl ⟨_, rfl, _, rfl, _, _, rfl, rfl, _, rfl, if_so (decide_eq_true h1) ⟨_, _, rfl, rfl, ?_⟩⟩⟩
    show Q (.bl (decide (i < great))) H
    rw [decide_eq_true h2]
    exact q
theorem ok_is_count (T : Txt P K mg CN fI CA FE) (D : Df K mg "is_count" s_is_count) (D_is_great : DefOk P w K mg base CX0 2 "is_great" ["value"] spGreat) : DefOk P w K mg base CX0 3 "is_count" ["value"] spCount := by
  refine D.ok sc_is_count (fun _ _ _ _ _ _ us hl => match us, hl with | [_], _ => rfl) (fun vs H Q E h => ?_) (fun f cdv A outer s H vs Q E hr h => ?_)
  · obtain ⟨v, rfl, _⟩ := h
    rfl
  · obtain ⟨i, rfl, hg, h0, q⟩ := h
    refine ⟨_, (pss_one (ps_ret (pe_and (pe_callD D_is_great (hr.mono (by decide)) pass0 (pa_cons (pv 0) pa_nil)) (pe_one (pe_cmpR op_ge (pv 0) pe_int (nomark _)))))), ?_⟩
    refine ⟨_, rfl, _, rfl, hg, _, rfl, if_so rfl ⟨_, rfl, _, _, rfl, rfl, ?_⟩⟩
    show Q (.bl (decide (0 ≤ i))) H
    rw [decide_eq_true h0]
    exact q
theorem ok_is_pair (T : Txt P K mg CN fI CA FE) (D : Df K mg "is_pair" s_is_pair) (D_is_number : DefOk P w K mg base CX0 1 "is_number" ["value"] spIsNumber) : DefOk P w K mg base CX0 2 "is_pair" ["value"] spPair := by
  refine D.ok sc_is_pair (fun _ _ _ _ _ _ us hl => match us, hl with | [_], _ => rfl) (fun vs H Q E h => ?_) (fun f cdv A outer s H vs Q E hr h => ?_)
  · obtain ⟨v, _, rfl, _⟩ := h
    rfl
  · obtain ⟨a, p, rfl, e, q⟩ := h
    refine ⟨_, (pss_one (ps_ret (pe_and (pe_callB call_isi (by rfl) T.n_isinstance (by decide +kernel) (pa_cons (pv 0) (pa_cons (pe_bltn (v := .ty "tuple") (by rfl) T.n_tuple (by decide +kernel) rfl) pa_nil))) (pe_and (pe_cmpR op_eq (pe_callB call_len_seq (by rfl) T.n_len (by decide +kernel) (pa_cons (pv 0) pa_nil)) pe_int (nomark _)) (pe_and (pe_callD D_is_number (hr.mono (by decide)) pass0 (pa_cons (pe_ix ix_tup (pv 0) pe_int (fun _ _ => rfl)) pa_nil)) (pe_one (pe_callD D_is_number (hr.mono (by decide)) pass0 (pa_cons (pe_ix ix_tup (pv 0) pe_int (fun _ _ => rfl)) pa_nil)))))))), ?_⟩
    refine ⟨_, rfl, _, _, _, _, _, rfl, .ty "tuple", (Kd.tup e).ty K, kit_ty (Kd.tup e).tuple_, _, rfl, ?_⟩
    refine if_so rfl ⟨_, rfl, _, _, rfl, .inr (SqT.of e), rfl, _, rfl, ?_⟩
    refine if_so (decide_eq_true rfl) ?_
    refine ⟨_, rfl, _, _, _, _, rfl, rfl, SqT.of e, rfl, _, _, rfl, .int _, _, rfl, if_so rfl ?_⟩
    exact ⟨_, rfl, _, _, _, _, rfl, rfl, SqT.of e, rfl, _, _, rfl, .int _, q⟩
theorem ok_require_great_place (T : Txt P K mg CN fI CA FE) (D : Df K mg "require_great_place" s_require_great_place) (D_is_pair : DefOk P w K mg base CX0 2 "is_pair" ["value"] spPair) (D_is_great : DefOk P w K mg base CX0 2 "is_great" ["value"] spGreat) :
    DefOk P w K mg base (L2.CX P w) 3 "require_great_place" ["value"] spReqPlace := by
  refine D.okX sc_require_great_place (fun _ _ _ _ _ _ us hl => match us, hl with | [_], _ => rfl) (fun vs H Q E h => ?_) (fun f cdv A outer s H vs Q E hr h => ?_)
  · obtain ⟨v, _, rfl, _⟩ := h
    rfl
  · obtain ⟨a, p, rfl, e, g1, g2, q⟩ := h
    refine ⟨_, (pss_one (ps_if (PW.pt (pw_or (pt_not (pt_val (pe_callD D_is_pair (hr.mono (by decide)) pass0 (pa_cons (pv 0) pa_nil)))) (pw_or (pt_not (pt_val (pe_callD D_is_great (hr.mono (by decide)) pass0 (pa_cons (pe_ix ix_tup (pv 0) pe_int (fun _ _ => rfl)) pa_nil)))) (pw_or1 (pt_not (pt_val (pe_callD D_is_great (hr.mono (by decide)) pass0 (pa_cons (pe_ix ix_tup (pv 0) pe_int (fun _ _ => rfl)) pa_nil))))))))
 (pss_one (ps_raise rfl (takes_of rfl rfl rfl rfl) (pmk_own PySem.F.excBase_ValueError T.xA T.gA T.kA (raises_own T.bA T.tA) rfl)))
 pss_nil)), ?_⟩
    refine ⟨_, rfl, _, _, rfl, e, _, rfl, if_no rfl ?_⟩
    refine ⟨_, rfl, _, _, _, _, rfl, rfl, SqT.of e, rfl, _, rfl, g1, _, rfl, if_no rfl ?_⟩
    exact ⟨_, rfl, _, _, _, _, rfl, rfl, SqT.of e, rfl, _, rfl, g2, _, rfl, if_no rfl q⟩
theorem ok_require_count (T : Txt P K mg CN fI CA FE) (D : Df K mg "require_count" s_require_count) (D_is_count : DefOk P w K mg base CX0 3 "is_count" ["value"] spCount) : DefOk P w K mg base (L2.CX P w) 4 "require_count" ["value"] spReqCount := by
  refine D.okX sc_require_count (fun _ _ _ _ _ _ us hl => match us, hl with | [_], _ => rfl) (fun vs H Q E h => ?_) (fun f cdv A outer s H vs Q E hr h => ?_)
  · obtain ⟨v, rfl, _⟩ := h
    rfl
  · obtain ⟨i, rfl, hg, h0, q⟩ := h
    refine ⟨_, (pss_one (ps_if (pt_not (pt_val (pe_callD D_is_count (hr.mono (by decide)) pass0 (pa_cons (pv 0) pa_nil))))
 (pss_one (ps_raise rfl (takes_of rfl rfl rfl rfl) (pmk_x T.num PySem.F.excBase_RuntimeError PySem.W.kxs_RuntimeError hr (pa_cons (pv 0) pa_nil))))
 pss_nil)), ?_⟩
    exact ⟨_, rfl, _, rfl, hg, h0, _, rfl, if_no rfl q⟩
theorem ok_spares_at (T : Txt P K mg CN fI CA FE) (D : Dm K FE "spares_at" "Meetings.spares_at" s_Meetings_spares_at) : MethOk P w K mg base CX0 1 FE "spares_at" ["self", "pair"] (spSpares FE) := by
  refine D.ok sc_Meetings_spares_at (fun _ _ _ _ _ _ us hl => match us, hl with | [_, _], _ => rfl) (fun vs H Q E h => ?_) (fun f cdv A outer s H vs Q E hr h => ?_)
  · obtain ⟨_, _, _, _, _, _, rfl, _⟩ := h
    rfl
  · obtain ⟨m, qa, dx, fs, q, b, rfl, hm, B, hq, k⟩ := h
    obtain ⟨n1, n2, n3, n4, n5, n6, n7, n8, n9⟩ := T.nf
    refine ⟨_, (pss_cons (ps_set (i := 2) sc_Meetings_spares_at.nd rfl (Or.inl rfl) (pe_op op_sub (pe_ix ix_tup (pv 1) pe_int (fun _ _ => rfl)) (pe_ix ix_tup (pv 1) pe_int (fun _ _ => rfl))))
 (pss_cons (ps_set (i := 3) sc_Meetings_spares_at.nd rfl (Or.inl rfl) (pe_lst (pa_cons (pe_op op_sub (pe_ix ix_tup (pv 1) pe_int (fun _ _ => rfl)) (pe_fld (pv 0) rfl)) (pa_cons (pe_op op_sub (pv 2) (pe_fld (pv 0) rfl)) pa_nil))))
 (pss_cons (ps_if (pt_cmpR op_notN (pe_fld (pv 0) rfl) pe_non (nomark _))
 (pss_one (ps_expr (pe_bm PySem.F.plainAttrs_list PySem.F.slot_list_append PySem.F.type_list_append mt_append (pv 3) (pa_cons (pe_op op_sub (pe_fld (pv 0) rfl) (pv 2)) pa_nil))))
 pss_nil)
 (pss_cons (ps_if (pt_cmpR op_notN (pe_fld (pv 0) rfl) pe_non (nomark _))
 (pss_one (ps_expr (pe_bm PySem.F.plainAttrs_list PySem.F.slot_list_append PySem.F.type_list_append mt_append (pv 3) (pa_cons (pe_op op_sub (pe_op op_sub (pe_fld (pv 0) rfl) pe_int) (pe_ix ix_tup (pv 1) pe_int (fun _ _ => rfl))) pa_nil))))
 pss_nil)
 (pss_one (ps_ret (pv 3))))))), ?_⟩
    refine ⟨_, rfl, _, _, _, _, rfl, rfl, SqT.of hq, rfl, _, rfl, _, _, _, _, rfl, rfl, SqT.of hq, rfl, _, _, rfl, rfl, ?_⟩
    refine ⟨_, rfl, _, _, _, _, rfl, rfl, SqT.of hq, rfl, _, rfl, m, FE, dx, fs, V.int b.first, rfl, hm, T.c_Met, n5, B.fi, _, _, rfl, rfl, _, rfl, _, rfl, m, FE, dx, fs, V.int b.low, rfl, hm, T.c_Met, n3, B.lo, _, _, rfl, rfl, show 2 ≤ sizeLine by decide, fun l hl => ?_⟩
    have nml : m ≠ l := ne_of_none hm hl
    have nql : qa ≠ l := ne_of_none hq hl
    -- the third and the fourth spare
    have fin : ∀ (xs : List Int) (H1 : Hp), Ex H H1 → H1 l = some (.lst (xs.map V.int)) → xs ++ (match b.rounds with | none => [] | some n => [n - 1 - q.2]) = Mt.spares b q → xs.length ≤ 3 →
        tSeq (tIfS (tTest (tOp (fun x y H Q => y = .non ∧ Q (.bl (!decide (x = .non))) H) (tFld K (tVar 0) "rounds") (tC .non))) (tDrop (tBM K "list" rAppend (tVar 3) (tCons (tOp (rI0 fun i j => .int (i - j)) (tOp (rI0 fun i j => .int (i - j)) (tFld K (tVar 0) "rounds") (tC (.int 1))) (tOp (rIxT K) (tVar 1) (tC (.int 1)))) tNil))) tNext) (tRet (tVar 3))
          { nx := fun _ H' => Q .non H', rt := Q } [some (.ref m), some (.ref qa), some (.int (q.2 - q.1)), some (.ref l)] H1 := by
      intro xs H1 e1 hL hx hn
      have hm1 := e1 _ _ hm
      refine ⟨_, rfl, m, FE, dx, fs, _, rfl, hm1, T.c_Met, n6, B.ro, rfl, _, rfl, ?_⟩
      cases hr0 : b.rounds with
      | none =>
        rw [hr0] at hx
        refine if_no rfl ⟨_, rfl, k l H1 hl e1 ?_⟩
        rw [hL, ← hx, List.append_nil]
      | some n =>
        rw [hr0] at hx
        refine if_so rfl ?_
        refine ⟨_, rfl, .inl ⟨rfl, _, SqL.of hL⟩, _, rfl, m, FE, dx, fs, _, rfl, hm1, T.c_Met, n6, (by rw [B.ro, hr0]; rfl), _, _, rfl, rfl, _, rfl, _, _, _, _, rfl, rfl, SqT.of (e1 _ _ hq), rfl, _, _, rfl, rfl, l, _, _, rfl, rfl, hL, ?_, ?_⟩
        · rw [List.length_map]
          exact Nat.lt_of_le_of_lt hn (show 3 < sizeLine by decide)
        · refine ⟨_, rfl, k l _ hl (Ex.mut e1 hl) ?_⟩
          rw [upd_same, ← hx, List.map_append]
          rfl
    have e0 : Ex H (upd H l (.lst [.int (q.1 - b.first), .int (q.2 - q.1 - b.low)])) := Ex.new hl
    refine ⟨_, rfl, m, FE, dx, fs, _, rfl, e0 _ _ hm, T.c_Met, n4, B.hi, rfl, _, rfl, ?_⟩
    cases hh0 : b.high with
    | none =>
      refine if_no rfl ?_
      exact fin [q.1 - b.first, q.2 - q.1 - b.low] _ e0 upd_same (by unfold Mt.spares; rw [hh0]; rfl) (by simp)
    | some hv =>
      refine if_so rfl ?_
      refine ⟨_, rfl, .inl ⟨rfl, _, SqL.of upd_same⟩, _, rfl, m, FE, dx, fs, _, rfl, e0 _ _ hm, T.c_Met, n4, (by rw [B.hi, hh0]; rfl), _, rfl, _, _, rfl, rfl, l, _, _, rfl, rfl, upd_same, show 2 < sizeLine by decide, ?_⟩
      exact fin [q.1 - b.first, q.2 - q.1 - b.low, hv - (q.2 - q.1)] _ (Ex.mut e0 hl) upd_same (by unfold Mt.spares; rw [hh0]; rfl) (by simp)
theorem ok_slopes (T : Txt P K mg CN fI CA FE) (D : Dm K FE "slopes" "Meetings.slopes" s_Meetings_slopes) : MethOk P w K mg base CX0 1 FE "slopes" ["self"] (spSlopes FE) := by
  refine D.ok sc_Meetings_slopes (fun _ _ _ _ _ _ us hl => match us, hl with | [_], _ => rfl) (fun vs H Q E h => ?_) (fun f cdv A outer s H vs Q E hr h => ?_)
  · obtain ⟨_, _, _, _, _, _, _, _, rfl, _⟩ := h
    rfl
  · obtain ⟨m, dx, la, qa, sa, fs, st, b, rfl, hm, B, hl0, hla, hsa, k⟩ := h
    obtain ⟨n1, n2, n3, n4, n5, n6, n7, n8, n9⟩ := T.nf
    refine ⟨_, (pss_cons (ps_asg (pe_ix ix_tup (pe_fld (pv 0) rfl) pe_int (fun _ _ => rfl)) (pg_tup (by rfl) (pgs_cons (pg_name (i := 1) sc_Meetings_slopes.nd rfl (Or.inl rfl)) (pgs_cons (pg_name (i := 2) sc_Meetings_slopes.nd rfl (Or.inl rfl)) pgs_nil))))
 (pss_cons (ps_set (i := 3) sc_Meetings_slopes.nd rfl (Or.inl rfl) (pe_lst (pa_cons (pv 1) (pa_cons (pe_op op_sub (pv 2) (pv 1)) pa_nil))))
 (pss_cons (ps_if (pt_cmpR op_notN (pe_fld (pv 0) rfl) pe_non (nomark _))
 (pss_one (ps_expr (pe_bm PySem.F.plainAttrs_list PySem.F.slot_list_append PySem.F.type_list_append mt_append (pv 3) (pa_cons (pe_op op_sub (pv 1) (pv 2)) pa_nil))))
 pss_nil)
 (pss_cons (ps_if (pt_cmpR op_notN (pe_fld (pv 0) rfl) pe_non (nomark _))
 (pss_one (ps_expr (pe_bm PySem.F.plainAttrs_list PySem.F.slot_list_append PySem.F.type_list_append mt_append (pv 3) (pa_cons (pe_un un_neg (pv 2)) pa_nil))))
 pss_nil)
 (pss_one (ps_ret (pv 3))))))), ?_⟩
    refine ⟨_, rfl, m, FE, dx, fs, _, rfl, hm, T.c_Met, n7, hl0, _, _, _, _, rfl, rfl, SqT.of hla, rfl, sa, _, rfl, SqT.of hsa, rfl, _, _, rfl, _, _, rfl, rfl, ?_⟩
    refine ⟨_, rfl, _, rfl, _, rfl, _, _, rfl, rfl, show 2 ≤ sizeLine by decide, fun l hl => ?_⟩
    have fin : ∀ (xs : List Int) (H1 : Hp), Ex H H1 → H1 l = some (.lst (xs.map V.int)) → xs ++ (match b.rounds with | none => [] | some n => [-st.2]) = Mt.slopes b st → xs.length ≤ 3 →
        tSeq (tIfS (tTest (tOp (fun x y H Q => y = .non ∧ Q (.bl (!decide (x = .non))) H) (tFld K (tVar 0) "rounds") (tC .non))) (tDrop (tBM K "list" rAppend (tVar 3) (tCons (tUn (rU fun i => .int (-i)) (tVar 2)) tNil))) tNext) (tRet (tVar 3))
          { nx := fun _ H' => Q .non H', rt := Q } [some (.ref m), some (.int st.1), some (.int st.2), some (.ref l)] H1 := by
      intro xs H1 e1 hL hx hn
      have hm1 := e1 _ _ hm
      refine ⟨_, rfl, m, FE, dx, fs, _, rfl, hm1, T.c_Met, n6, B.ro, rfl, _, rfl, ?_⟩
      cases hr0 : b.rounds with
      | none =>
        rw [hr0] at hx
        refine if_no rfl ⟨_, rfl, k l H1 hl e1 ?_⟩
        rw [hL, ← hx, List.append_nil]
      | some n =>
        rw [hr0] at hx
        refine if_so rfl ?_
        refine ⟨_, rfl, .inl ⟨rfl, _, SqL.of hL⟩, _, rfl, _, rfl, l, _, _, rfl, rfl, hL, ?_, ?_⟩
        · rw [List.length_map]
          exact Nat.lt_of_le_of_lt hn (show 3 < sizeLine by decide)
        · refine ⟨_, rfl, k l _ hl (Ex.mut e1 hl) ?_⟩
          rw [upd_same, ← hx, List.map_append]
          rfl
    have e0 : Ex H (upd H l (.lst [.int st.1, .int (st.2 - st.1)])) := Ex.new hl
    refine ⟨_, rfl, m, FE, dx, fs, _, rfl, e0 _ _ hm, T.c_Met, n4, B.hi, rfl, _, rfl, ?_⟩
    cases hh0 : b.high with
    | none =>
      refine if_no rfl ?_
      exact fin [st.1, st.2 - st.1] _ e0 upd_same (by unfold Mt.slopes; rw [hh0]; rfl) (by simp)
    | some hv =>
      refine if_so rfl ?_
      refine ⟨_, rfl, .inl ⟨rfl, _, SqL.of upd_same⟩, _, rfl, _, rfl, _, _, rfl, rfl, l, _, _, rfl, rfl, upd_same, show 2 < sizeLine by decide, ?_⟩
      exact fin [st.1, st.2 - st.1, st.1 - st.2] _ (Ex.mut e0 hl) upd_same (by unfold Mt.slopes; rw [hh0]; rfl) (by simp)
end
end My
set_option maxHeartbeats 4000000
namespace My
open PySem L2 Lf Evl
/-! ### the sizes of the ends -/
def EndBd (n : Nat) (e : Mt.Ends) : Prop := (∀ f, e.1 = some f → Bd n f) ∧ ∀ l, e.2.1 = some l → Bd n l
theorem EndBd.step {n : Nat} {e : Mt.Ends} (h : EndBd n e) {v s : Int} (hv : Bd n v) : EndBd n (Mt.endStep e v s) := by
  obtain ⟨f, l, c⟩ := e
  unfold Mt.endStep
  split
  · refine ⟨fun g z => ?_, h.2⟩
    cases z
    rcases Mt.maxO_is f (-(v / s)) with q | q
    · dsimp only; rw [q]; exact (Bd.div hv).neg
    · exact h.1 _ q
  · split
    · refine ⟨h.1, fun g z => ?_⟩
      cases z
      rcases Mt.minO_is l (v / -s) with q | q
      · dsimp only; rw [q]; exact Bd.div hv
      · exact h.2 _ q
    · split
      · exact ⟨h.1, h.2⟩
      · exact h
theorem EndBd.all {n : Nat} : ∀ (rs : List (Int × Int)) (e : Mt.Ends), EndBd n e → (∀ r ∈ rs, Bd n r.1) → EndBd n (Mt.endsFrom e rs)
  | [], _, h, _ => h
  | r :: l, e, h, hr => EndBd.all l _ (h.step (hr r (List.mem_cons_self ..))) (fun u hu => hr u (List.mem_cons_of_mem _ hu))
theorem ends_bd {n : Nat} {rs : List (Int × Int)} (hr : ∀ r ∈ rs, Bd n r.1) : EndBd n (Mt.ends rs) := EndBd.all rs _ ⟨fun f z => (by cases z), fun f z => (by cases z)⟩ hr
/-! ### a meetings object -/
/-- the bounds are such that the program takes them -/
structure BndOk (b : Mt.Bnd) : Prop where
  lo : Great b.low ∧ 0 ≤ b.low
  hi : ∀ h, b.high = some h → Great h
  fi : Great b.first ∧ 0 ≤ b.first
  ro : ∀ n, b.rounds = some n → Great n ∧ 0 ≤ n
theorem spares_bd {b : Mt.Bnd} (B : BndOk b) {q : Int × Int} {n : Nat} (hn : 400 ≤ n) (hq : Bd2 n q) : ∀ v ∈ Mt.spares b q, Bd (n + 3) v := by
  obtain ⟨lo, hi, fi, ro⟩ := b
  obtain ⟨⟨l1, _⟩, h1, ⟨f1, _⟩, r1⟩ := B
  have bl := l1.bd.mono hn
  have bf := f1.bd.mono hn
  have bq : Bd (n + 1) (q.2 - q.1) := hq.2.sub hq.1 (Nat.le_refl _)
  have x1 : Bd (n + 3) (q.1 - fi) := hq.1.sub bf (by omega)
  have x2 : Bd (n + 3) (q.2 - q.1 - lo) := bq.sub (bl.mono (by omega)) (by omega)
  have x3 : ∀ h, hi = some h → Bd (n + 3) (h - (q.2 - q.1)) := fun h e => ((h1 h e).bd.mono (by omega)).sub bq (by omega)
  have x4 : ∀ m, ro = some m → Bd (n + 3) (m - 1 - q.2) := fun m e => by
    have a : Bd (n + 1) (m - 1) := ((r1 m e).1.bd.mono hn).sub ((Bd.lit (n := 400) (i := 1) (by decide)).mono hn) (Nat.le_refl _)
    exact a.sub (hq.2.mono (by omega)) (by omega)
  unfold Mt.spares
  intro v hv
  cases hi <;> cases ro <;> simp at hv
  · rcases hv with rfl | rfl
    · exact x1
    · exact x2
  · rcases hv with rfl | rfl | rfl
    · exact x1
    · exact x2
    · exact x4 _ rfl
  · rcases hv with rfl | rfl | rfl
    · exact x1
    · exact x2
    · exact x3 _ rfl
  · rcases hv with rfl | rfl | rfl | rfl
    · exact x1
    · exact x2
    · exact x3 _ rfl
    · exact x4 _ rfl
def mF (p o : Addr) (b : Mt.Bnd) (la : Addr) (has : Bool) (ea : Addr) : List (Str × V) :=
  [("place", .ref p), ("other", .ref o), ("low", .int b.low), ("high", oV b.high), ("first", .int b.first), ("rounds", oV b.rounds), ("own_line", .ref la), ("has_line", .bl has), ("own_ends", .ref ea)]
/-- a meetings object at m in H: the places p, o, the bounds b, a line from q0 by st, the ends e -/
structure MetAt (C : Addr) (H : Hp) (m : Addr) (p o : Int × Int) (b : Mt.Bnd) (has : Bool) (q0 st : Int × Int) (e : Mt.Ends) : Prop where
  at_ : ∃ dx pa oa la qa sa ea, H m = some (.ins C dx (mF pa oa b la has ea)) ∧ H pa = some (tup2 p) ∧ H oa = some (tup2 o) ∧ H la = some (.tup [.ref qa, .ref sa]) ∧ H qa = some (tup2 q0) ∧ H sa = some (tup2 st) ∧ H ea = some (endsT e)
  ok : Mt.MetOk p o b has q0 st e
  yes : has = true → st = stepOf p o
  no : has = false → ¬ (o.2 - p.2) % (Int.gcd p.1 o.1 : Int) = 0
  nz : ¬ (p.1 = 0 ∧ o.1 = 0)
  bo : BndOk b
  bp : Bd2 400 p ∧ Bd2 400 o
  bq : Bd2 1400 q0 ∧ Bd2 400 st
  be : EndBd 1403 e
theorem MetAt.mono {C : Addr} {H H' : Hp} {m : Addr} {p o : Int × Int} {b : Mt.Bnd} {has : Bool} {q0 st : Int × Int} {e : Mt.Ends} (M : MetAt C H m p o b has q0 st e) (x : Ex H H') : MetAt C H' m p o b has q0 st e := by
  obtain ⟨dx, pa, oa, la, qa, sa, ea, h1, h2, h3, h4, h5, h6, h7⟩ := M.at_
  exact { M with at_ := ⟨dx, pa, oa, la, qa, sa, ea, x _ _ h1, x _ _ h2, x _ _ h3, x _ _ h4, x _ _ h5, x _ _ h6, x _ _ h7⟩ }
theorem mF_bnd (p o : Addr) (b : Mt.Bnd) (la : Addr) (has : Bool) (ea : Addr) : BndAt (mF p o b la has ea) b := ⟨rfl, rfl, rfl, rfl⟩
theorem putF_new {f : Str} {v : V} : ∀ {fs : List (Str × V)}, fs.lookup f = none → putF f v fs = fs ++ [(f, v)]
  | [], _ => rfl
  | (g, x) :: r, h => by
    simp only [List.lookup] at h
    split at h
    · cases h
    · rename_i hne
      have ne : ¬ g = f := fun z => by rw [z] at hne; simp at hne
      show (if g = f then (g, v) :: r else (g, x) :: putF f v r) = _
      rw [if_neg ne, putF_new h]
      rfl
/-- all but x stays -/
def Eb (x : Addr) (H H' : Hp) : Prop := ∀ a o, a ≠ x → H a = some o → H' a = some o
theorem Eb.of {x : Addr} {H H' : Hp} (e : Ex H H') : Eb x H H' := fun a o _ h => e a o h
theorem Eb.trans {x : Addr} {H H1 H2 : Hp} (a : Eb x H H1) (b : Eb x H1 H2) : Eb x H H2 := fun c o n h => b c o n (a c o n h)
theorem Eb.upd {x : Addr} {H : Hp} {o : HO} : Eb x H (upd H x o) := fun a u n h => by rw [upd_ne n]; exact h
section
variable {K : PySem.W.Frag} {σ : L2.St} {H0 : Hp} {x C dx : Addr} {fs : List (Str × V)} {i j : Nat} {y : V} {f : Str} {D : Ends} {tz : TS}
/-- self.f = a name -/
theorem q_fldv (hi : σ[i]? = some (some (.ref x))) (hj : σ[j]? = some (some y)) (c : Cls K C) (n : NoAttr K C f) (hn : fs.lookup f = none) (hl : fs.length < 1000) (k : tz D σ (upd H0 x (.ins C dx (fs ++ [(f, y)])))) :
    tSeq (sFld K (tVar i) (tVar j) f) tz D σ (upd H0 x (.ins C dx fs)) := by
  refine ⟨_, hj, _, hi, x, C, dx, fs, rfl, upd_same, c, n, hl, ?_⟩
  rw [upd_upd, putF_new hn]
  exact k
end
def m6 (p o : Addr) (b : Mt.Bnd) : List (Str × V) := [("place", .ref p), ("other", .ref o), ("low", .int b.low), ("high", oV b.high), ("first", .int b.first), ("rounds", oV b.rounds)]
def m7 (p o : Addr) (b : Mt.Bnd) (la : Addr) : List (Str × V) := [("place", .ref p), ("other", .ref o), ("low", .int b.low), ("high", oV b.high), ("first", .int b.first), ("rounds", oV b.rounds), ("own_line", .ref la)]
def m8 (p o : Addr) (b : Mt.Bnd) (la : Addr) (has : Bool) : List (Str × V) := [("place", .ref p), ("other", .ref o), ("low", .int b.low), ("high", oV b.high), ("first", .int b.first), ("rounds", oV b.rounds), ("own_line", .ref la), ("has_line", .bl has)]
def spInit (C : Addr) : Sp := fun vs H Q _ => ∃ (x dx pa oa : Addr) (p o : Int × Int) (b : Mt.Bnd) (H0 : Hp), vs = [.ref x, .ref pa, .ref oa, .int b.low, oV b.high, .int b.first, oV b.rounds] ∧ H = upd H0 x (.ins C dx []) ∧ H0 x = none ∧ H0 pa = some (tup2 p) ∧ H0 oa = some (tup2 o) ∧
  Great p.1 ∧ Great p.2 ∧ Great o.1 ∧ Great o.2 ∧ ¬ (p.1 = 0 ∧ o.1 = 0) ∧ BndOk b ∧
  ∀ H' has q0 st e, Eb x H0 H' → MetAt C H' x p o b has q0 st e → Q .non H'
theorem both {c : Bool} {A B T : Prop} (ha : c = true → T → A) (hb : c = false → T → B) (t : T) : if c = true then A else B := by
  cases c with
  | true => exact if_so rfl (ha rfl t)
  | false => exact if_no rfl (hb rfl t)
section
variable {P : Program} {w : World} {K : PySem.W.Frag} {mg : Str → Option Value} {base : Heap} {CN fI CA FE : Addr}
theorem ok_init {f : Addr} {fd : FuncData} {kws : List (Str × V)} (T : Txt P K mg CN fI CA FE) (F : FunD K "__init__" "Meetings.__init__" (defArgs s_Meetings___init__) (defBody s_Meetings___init__) (defScope s_Meetings___init__) [] kws f fd)
    (D_require_great_place : DefOk P w K mg base (L2.CX P w) 3 "require_great_place" ["value"] spReqPlace) (D_require_count : DefOk P w K mg base (L2.CX P w) 4 "require_count" ["value"] spReqCount) (D_is_great : DefOk P w K mg base CX0 2 "is_great" ["value"] spGreat)
    (D_line_of : DefOk P w K mg base CX0 2 "line_of" ["place", "other"] spLine) (D_ends_of : DefOk P w K mg base CX0 1 "ends_of" ["values", "slopes"] spEnds) (D_Met_spares_at : MethOk P w K mg base CX0 1 FE "spares_at" ["self", "pair"] (spSpares FE))
    (D_Met_slopes : MethOk P w K mg base CX0 1 FE "slopes" ["self"] (spSlopes FE)) :
    FnOk P w K mg base (L2.CX P w) 5 f fd ["self", "place", "other", "low", "high", "first", "rounds"] (spInit FE) := by
  refine F.ok sc_Meetings___init__ (fun vs H Q E h => ?_) (fun cdv A outer s H vs Q E hr h => ?_)
  · obtain ⟨_, _, _, _, _, _, _, _, rfl, _⟩ := h
    rfl
  · obtain ⟨x, dx, pa, oa, p, o, b, H0, rfl, rfl, x0, hp, ho, gp1, gp2, go1, go2, nz, B, k⟩ := h
    obtain ⟨n1, n2, n3, n4, n5, n6, n7, n8, n9⟩ := T.nf
    have npx : pa ≠ x := ne_of_none hp x0
    have nox : oa ≠ x := ne_of_none ho x0
    have kp : ∀ ob, upd H0 x ob pa = some (tup2 p) := fun ob => by rw [upd_ne npx]; exact hp
    have ko : ∀ ob, upd H0 x ob oa = some (tup2 o) := fun ob => by rw [upd_ne nox]; exact ho
    refine ⟨_, (pss_cons (ps_expr (pe_callD D_require_great_place (hr.mono (by decide)) (passes_call (takes_of rfl rfl rfl rfl) (fun _ _ _ _ h => h)) (pa_cons (pv 1) pa_nil)))
 (pss_cons (ps_expr (pe_callD D_require_great_place (hr.mono (by decide)) (passes_call (takes_of rfl rfl rfl rfl) (fun _ _ _ _ h => h)) (pa_cons (pv 2) pa_nil)))
 (pss_cons (ps_expr (pe_callD D_require_count (hr.mono (by decide)) (passes_call (takes_of rfl rfl rfl rfl) (fun _ _ _ _ h => h)) (pa_cons (pv 3) pa_nil)))
 (pss_cons (ps_if (PW.pt (pw_and (pt_cmpR op_notN (pv 4) pe_non (nomark _)) (pw_and1 (pt_not (pt_val (pe_callD D_is_great (hr.mono (by decide)) pass0 (pa_cons (pv 4) pa_nil)))))))
 (pss_one (ps_raise rfl (takes_of rfl rfl rfl rfl) (pmk_x T.num PySem.F.excBase_RuntimeError PySem.W.kxs_RuntimeError hr (pa_cons (pv 4) pa_nil))))
 pss_nil)
 (pss_cons (ps_expr (pe_callD D_require_count (hr.mono (by decide)) (passes_call (takes_of rfl rfl rfl rfl) (fun _ _ _ _ h => h)) (pa_cons (pv 5) pa_nil)))
 (pss_cons (ps_if (pt_cmpR op_notN (pv 6) pe_non (nomark _))
 (pss_one (ps_expr (pe_callD D_require_count (hr.mono (by decide)) (passes_call (takes_of rfl rfl rfl rfl) (fun _ _ _ _ h => h)) (pa_cons (pv 6) pa_nil))))
 pss_nil)
 (pss_cons (ps_if (PW.pt (pw_and (pt_cmpR op_eq (pe_ix ix_tup (pv 1) pe_int (fun _ _ => rfl)) pe_int (nomark _)) (pw_and1 (pt_cmpR op_eq (pe_ix ix_tup (pv 2) pe_int (fun _ _ => rfl)) pe_int (nomark _)))))
 (pss_one (ps_raise rfl (takes_of rfl rfl rfl rfl) (pmk_own PySem.F.excBase_ValueError T.xA T.gA T.kA (raises_own T.bA T.tA) rfl)))
 pss_nil)
 (pss_cons (ps_fld (pv 0) (pv 1) rfl)
 (pss_cons (ps_fld (pv 0) (pv 2) rfl)
 (pss_cons (ps_fld (pv 0) (pv 3) rfl)
 (pss_cons (ps_fld (pv 0) (pv 4) rfl)
 (pss_cons (ps_fld (pv 0) (pv 5) rfl)
 (pss_cons (ps_fld (pv 0) (pv 6) rfl)
 (pss_cons (ps_set (i := 7) sc_Meetings___init__.nd rfl (Or.inl rfl) (pe_callD D_line_of (hr.mono (by decide)) pass0 (pa_cons (pv 1) (pa_cons (pv 2) pa_nil))))
 (pss_cons (ps_fld (pv 0) (pe_ifExp (pt_cmpR op_isN (pv 7) pe_non (nomark _)) (pe_tup (pa_cons (pe_tup (pa_cons pe_int (pa_cons pe_int pa_nil))) (pa_cons (pe_tup (pa_cons pe_int (pa_cons pe_int pa_nil))) pa_nil))) (pv 7)) rfl)
 (pss_cons (ps_fld (pv 0) (pe_cmpR op_notN (pv 7) pe_non (nomark _)) rfl)
 (pss_one (ps_fld (pv 0) (pe_callD D_ends_of (hr.mono (by decide)) pass0 (pa_cons (pe_methD (pv 0) T.c_Met D_Met_spares_at (hr.mono (by decide)) pass0 (pa_cons (pe_ix ix_tup (pe_fld (pv 0) rfl) pe_int (fun _ _ => rfl)) pa_nil)) (pa_cons (pe_methD0 (pv 0) T.c_Met D_Met_slopes (hr.mono (by decide)) pass0) pa_nil))) rfl)))))))))))))))))), ?_⟩
    refine ⟨_, rfl, pa, p, rfl, kp _, gp1, gp2, ?_⟩
    refine ⟨_, rfl, oa, o, rfl, ko _, go1, go2, ?_⟩
    refine ⟨_, rfl, _, rfl, B.lo.1, B.lo.2, ?_⟩
    refine ⟨_, rfl, rfl, _, rfl, ?_⟩
    obtain ⟨lo, hi, fi, ro⟩ := b
    refine both (fun hc t => ?_) (fun hc t => if_no rfl t) ?_
    · cases hi with
      | none => cases hc
      | some h => exact ⟨_, rfl, _, rfl, B.hi h rfl, _, rfl, if_no rfl t⟩
    refine ⟨_, rfl, _, rfl, B.fi.1, B.fi.2, ?_⟩
    refine ⟨_, rfl, rfl, _, rfl, ?_⟩
    refine both (fun hc t => ?_) (fun hc t => t) ?_
    · cases ro with
      | none => cases hc
      | some h => exact ⟨_, rfl, _, rfl, (B.ro h rfl).1, (B.ro h rfl).2, t⟩
    refine ⟨_, rfl, _, _, _, _, rfl, rfl, SqT.of (kp _), rfl, rfl, _, rfl, ?_⟩
    refine both (fun hc t => ?_) (fun hc t => if_no rfl t) ?_
    · refine ⟨_, rfl, _, _, _, _, rfl, rfl, SqT.of (ko _), rfl, rfl, _, rfl, if_no (eqi_f ?_) t⟩
      intro z
      exact nz ⟨by simpa using hc, z⟩
    refine q_fldv rfl rfl T.c_Met n1 rfl (by simp) ?_
    refine q_fldv rfl rfl T.c_Met n2 rfl (by simp) ?_
    refine q_fldv rfl rfl T.c_Met n3 rfl (by simp) ?_
    refine q_fldv rfl rfl T.c_Met n4 rfl (by simp) ?_
    refine q_fldv rfl rfl T.c_Met n5 rfl (by simp) ?_
    refine q_fldv rfl rfl T.c_Met n6 rfl (by simp) ?_
    dsimp only [List.cons_append, List.nil_append]
    have hpx : ∀ {H8 : Hp}, Eb x H0 H8 → H8 pa = some (tup2 p) := fun z => z _ _ npx hp
    have hox : ∀ {H8 : Hp}, Eb x H0 H8 → H8 oa = some (tup2 o) := fun z => z _ _ nox ho
    have fin : ∀ (lv : V) (has : Bool) (la qa sa : Addr) (q0 st : Int × Int) (H8 : Hp), (!decide (lv = V.non)) = has → H8 x = some (.ins FE dx (m7 pa oa ⟨lo, hi, fi, ro⟩ la)) → Eb x H0 H8 →
        H8 la = some (.tup [.ref qa, .ref sa]) → H8 qa = some (tup2 q0) → H8 sa = some (tup2 st) → (∀ e, e = Mt.ends (Mt.rows ⟨lo, hi, fi, ro⟩ q0 st) → Mt.MetOk p o ⟨lo, hi, fi, ro⟩ has q0 st e) → (has = true → st = stepOf p o) → (has = false → ¬ (o.2 - p.2) % (Int.gcd p.1 o.1 : Int) = 0) →
        Bd2 1400 q0 → Bd2 400 st →
        tSeq (sFld K (tVar 0) (tOp (fun x y H Q => y = V.non ∧ Q (V.bl !decide (x = V.non)) H) (tVar 7) (tC V.non)) "has_line")
          (sFld K (tVar 0) (tCallD spEnds E0 (tCons (tMethD FE "spares_at" (spSpares FE) E0 (tVar 0) (tCons (tOp (rIxT K) (tFld K (tVar 0) "own_line") (tC (V.int 0))) tNil)) (tCons (tMethD FE "slopes" (spSlopes FE) E0 (tVar 0) tNil) tNil))) "own_ends")
          { nx := fun _ H' => Q .non H', rt := Q } [some (.ref x), some (.ref pa), some (.ref oa), some (.int lo), some (oV hi), some (.int fi), some (oV ro), some lv] H8 := by
      intro lv has la qa sa q0 st H8 hlv hx8 e8 hla hqa hsa mk yes no b0 bs
      have nl : la ≠ x := fun z => by rw [z, hx8] at hla; cases hla
      have nq : qa ≠ x := fun z => by rw [z, hx8] at hqa; cases hqa
      have ns : sa ≠ x := fun z => by rw [z, hx8] at hsa; cases hsa
      refine ⟨_, rfl, rfl, _, rfl, x, FE, dx, _, rfl, hx8, T.c_Met, n8, show 7 < 1000 by decide, ?_⟩
      rw [hlv]
      refine (?_ : (fun H => _) (upd H8 x (.ins FE dx (m8 pa oa ⟨lo, hi, fi, ro⟩ la has))))
      dsimp only
      have ef : ∀ ob, Eb x H8 (upd H8 x ob) := fun ob => Eb.upd
      generalize hH9 : upd H8 x (.ins FE dx (m8 pa oa ⟨lo, hi, fi, ro⟩ la has)) = H9
      have hx9 : H9 x = some (.ins FE dx (m8 pa oa ⟨lo, hi, fi, ro⟩ la has)) := by rw [← hH9]; exact upd_same
      have e9 : Eb x H0 H9 := e8.trans (by rw [← hH9]; exact Eb.upd)
      have hla9 : H9 la = some (.tup [.ref qa, .ref sa]) := by rw [← hH9, upd_ne nl]; exact hla
      have hqa9 : H9 qa = some (tup2 q0) := by rw [← hH9, upd_ne nq]; exact hqa
      have hsa9 : H9 sa = some (tup2 st) := by rw [← hH9, upd_ne ns]; exact hsa
      refine ⟨_, rfl, x, dx, _, rfl, hx9, rfl, _, rfl, x, FE, dx, _, V.ref la, rfl, hx9, T.c_Met, n7, rfl, _, _, _, _, rfl, rfl, SqT.of hla9, rfl, ?_⟩
      refine ⟨x, qa, dx, _, q0, ⟨lo, hi, fi, ro⟩, rfl, hx9, ⟨rfl, rfl, rfl, rfl⟩, hqa9, fun l1 H10 f10 e10 hl1 => ?_⟩
      refine ⟨_, rfl, x, dx, _, rfl, e10 _ _ hx9, rfl, ?_⟩
      refine ⟨x, dx, la, qa, sa, _, st, ⟨lo, hi, fi, ro⟩, rfl, e10 _ _ hx9, ⟨rfl, rfl, rfl, rfl⟩, rfl, e10 _ _ hla9, e10 _ _ hsa9, fun l2 H11 f11 e11 hl2 => ?_⟩
      have hb : ∀ m ∈ Mt.slopes ⟨lo, hi, fi, ro⟩ st, Bd 900 m := by
        intro m hm
        have a1 : Bd 900 st.1 := bs.1.mono (by decide)
        have a2 : Bd 900 (st.2 - st.1) := bs.2.sub bs.1 (by decide)
        have a3 : Bd 900 (st.1 - st.2) := bs.1.sub bs.2 (by decide)
        have a4 : Bd 900 (-st.2) := bs.2.neg.mono (by decide)
        unfold Mt.slopes at hm
        cases hi <;> cases ro <;> simp at hm <;> (first | (rcases hm with rfl | rfl) | (rcases hm with rfl | rfl | rfl) | (rcases hm with rfl | rfl | rfl | rfl)) <;> assumption
      refine ⟨l1, l2, _, _, rfl, e11 _ _ hl1, hl2, Mt.len_eq _ _ _, hb, fun r H12 e12 hr' => ?_⟩
      have ex := (e10.trans e11).trans e12
      refine ⟨_, rfl, x, FE, dx, _, rfl, ex _ _ hx9, T.c_Met, n9, show 8 < 1000 by decide, ?_⟩
      have nr : r ≠ x := fun z => by rw [z, ex _ _ hx9] at hr'; cases hr'
      refine k _ has q0 st _ (e9.trans ((Eb.of ex).trans Eb.upd)) { at_ := ⟨dx, pa, oa, la, qa, sa, r, upd_same, ?_, ?_, ?_, ?_, ?_, ?_⟩, ok := mk _ rfl, yes := yes, no := no, nz := nz, bo := B, bp := ⟨⟨gp1.bd, gp2.bd⟩, ⟨go1.bd, go2.bd⟩⟩, bq := ⟨b0, bs⟩, be := ends_bd ?_ }
      · rw [upd_ne npx]; exact ex _ _ (hpx e9)
      · rw [upd_ne nox]; exact ex _ _ (hox e9)
      · rw [upd_ne nl]; exact ex _ _ hla9
      · rw [upd_ne nq]; exact ex _ _ hqa9
      · rw [upd_ne ns]; exact ex _ _ hsa9
      · rw [upd_ne nr]; exact hr'
      · intro u hu
        exact spares_bd B (by decide) b0 _ (List.of_mem_zip hu).1
    refine ⟨_, rfl, _, rfl, _, _, _, _, rfl, kp _, ko _, ⟨gp1.bd, gp2.bd⟩, ⟨go1.bd, go2.bd⟩, nz, fun H7 e7 no nd => ?_, fun t tq ts H7 q0 e7 ht htq hts L b0 bs => ?_⟩
    · have hx7 := e7 _ _ upd_same
      have eb7 : Eb x H0 H7 := Eb.upd.trans (Eb.of e7)
      refine ⟨_, rfl, rfl, _, rfl, ?_⟩
      refine if_so rfl ?_
      refine ⟨show 2 ≤ sizeLine by decide, fun qa hqa => ?_⟩
      refine ⟨show 2 ≤ sizeLine by decide, fun sa hsa => ?_⟩
      refine ⟨show 2 ≤ sizeLine by decide, fun la hla => ?_⟩
      have q1 := hx7
      have w1 := Ex.new (o := tup2 (0, 0)) hqa
      have w2 := Ex.new (o := tup2 (0, 0)) hsa
      have w3 := Ex.new (o := HO.tup [.ref qa, .ref sa]) hla
      have hx8 := w3 _ _ (w2 _ _ (w1 _ _ hx7))
      have nl : la ≠ x := (ne_of_none (w2 _ _ (w1 _ _ hx7)) hla).symm
      have ns : sa ≠ x := (ne_of_none (w1 _ _ hx7) hsa).symm
      have nq : qa ≠ x := (ne_of_none hx7 hqa).symm
      refine ⟨_, rfl, x, FE, dx, _, rfl, hx8, T.c_Met, n7, show 6 < 1000 by decide, ?_⟩
      refine fin .non false la qa sa (0, 0) (0, 0) _ rfl upd_same ((eb7.trans (Eb.of ((w1.trans w2).trans w3))).trans Eb.upd) ?_ ?_ ?_ (fun e he => ⟨he, fun z => (by cases z), fun _ => ⟨rfl, rfl, no⟩⟩) (fun z => by cases z) (fun _ => nd) ⟨Bd.lit (by decide), Bd.lit (by decide)⟩ ⟨Bd.lit (by decide), Bd.lit (by decide)⟩
      · rw [upd_ne nl]; exact upd_same
      · rw [upd_ne nq]; exact w3 _ _ (w2 _ _ upd_same)
      · rw [upd_ne ns]; exact w3 _ _ upd_same
    · have hx7 := e7 _ _ upd_same
      have eb7 : Eb x H0 H7 := Eb.upd.trans (Eb.of e7)
      have nl : t ≠ x := fun z => by rw [z, hx7] at ht; cases ht
      have nq : tq ≠ x := fun z => by rw [z, hx7] at htq; cases htq
      have ns : ts ≠ x := fun z => by rw [z, hx7] at hts; cases hts
      refine ⟨_, rfl, rfl, _, rfl, ?_⟩
      refine if_no rfl ?_
      refine ⟨_, rfl, _, rfl, x, FE, dx, _, rfl, hx7, T.c_Met, n7, show 6 < 1000 by decide, ?_⟩
      refine fin (.ref t) true t tq ts q0 _ _ rfl upd_same (eb7.trans Eb.upd) ?_ ?_ ?_ (fun e he => ⟨he, fun _ => L, fun z => (by cases z)⟩) (fun _ => rfl) (fun z => by cases z) b0 bs
      · rw [upd_ne nl]; exact ht
      · rw [upd_ne nq]; exact htq
      · rw [upd_ne ns]; exact hts
end
end My
set_option maxHeartbeats 4000000
namespace My
open PySem L2 Lf Evl StX
abbrev s_Meetings_is_empty : Stmt := inClass (top 22) 3
theorem sc_Meetings_is_empty : FnScope ["self", "first", "last", "barred"] ["self"] (defScope s_Meetings_is_empty) := ⟨rfl, rfl, rfl, by decide +kernel, rfl, by decide +kernel, by decide +kernel⟩
abbrev s_Meetings_end_by : Stmt := inClass (top 22) 4
theorem sc_Meetings_end_by : FnScope ["self", "growth", "end", "origin", "step"] ["self", "growth"] (defScope s_Meetings_end_by) := ⟨rfl, rfl, rfl, by decide +kernel, rfl, by decide +kernel, by decide +kernel⟩
abbrev s_Meetings_growth : Stmt := inClass (top 22) 5
theorem sc_Meetings_growth : FnScope ["self", "one", "two"] ["self"] (defScope s_Meetings_growth) := ⟨rfl, rfl, rfl, by decide +kernel, rfl, by decide +kernel, by decide +kernel⟩
abbrev s_Meetings_divisor : Stmt := inClass (top 22) 12
theorem sc_Meetings_divisor : FnScope ["self", "one", "other"] ["self"] (defScope s_Meetings_divisor) := ⟨rfl, rfl, rfl, by decide +kernel, rfl, by decide +kernel, by decide +kernel⟩
abbrev s_Meetings_is_on_line : Stmt := inClass (top 22) 13
theorem sc_Meetings_is_on_line : FnScope ["self", "pair"] ["self", "pair"] (defScope s_Meetings_is_on_line) := ⟨rfl, rfl, rfl, by decide +kernel, rfl, by decide +kernel, by decide +kernel⟩
abbrev s_Meetings_nearest : Stmt := inClass (top 22) 6
theorem sc_Meetings_nearest : FnScope ["self", "one", "two"] ["self"] (defScope s_Meetings_nearest) := ⟨rfl, rfl, rfl, by decide +kernel, rfl, by decide +kernel, by decide +kernel⟩
abbrev s_Meetings_paper : Stmt := inClass (top 22) 11
theorem sc_Meetings_paper : FnScope ["self", "pair", "origin", "step", "first", "last", "barred"] ["self"] (defScope s_Meetings_paper) := ⟨rfl, rfl, rfl, by decide +kernel, rfl, by decide +kernel, by decide +kernel⟩
theorem abs_nat (i : Int) : (if i < 0 then -i else i) = (i.natAbs : Int) := by split <;> omega
def spEmpty (C : Addr) : Sp := fun vs H Q _ => ∃ m p o b has q0 st e, vs = [.ref m] ∧ MetAt C H m p o b has q0 st e ∧ Q (.bl (Mt.isEmpty has e)) H
def spEndBy (C : Addr) : Sp := fun vs H Q _ => ∃ m p o b has q0 st e g, vs = [.ref m, .int g] ∧ MetAt C H m p o b has q0 st e ∧ (Mt.endBy q0 st e g = none → Q .non H) ∧ (∀ q, Mt.endBy q0 st e g = some q → ∀ r H', Ex H H' → H' r = some (tup2 q) → Q (.ref r) H')
def spGrowth (C : Addr) : Sp := fun vs H Q _ => ∃ m p o b has q0 st e, vs = [.ref m] ∧ MetAt C H m p o b has q0 st e ∧ Q (.int (Mt.growth st)) H
def spDivisor (C : Addr) : Sp := fun vs H Q _ => ∃ m p o b has q0 st e, vs = [.ref m] ∧ MetAt C H m p o b has q0 st e ∧ Q (.int (Int.gcd p.1 o.1 : Int)) H
def onLine (p o q : Int × Int) : Bool := decide (p.1 * q.1 + p.2 = o.1 * q.2 + o.2)
def spOnLine (C : Addr) : Sp := fun vs H Q _ => ∃ m p o b has q0 st e qa q, vs = [.ref m, .ref qa] ∧ MetAt C H m p o b has q0 st e ∧ H qa = some (tup2 q) ∧ Bd2 9000 q ∧ Q (.bl (onLine p o q)) H
def spNearest (C : Addr) : Sp := fun vs H Q _ => ∃ m p o b has q0 st e, vs = [.ref m] ∧ MetAt C H m p o b has q0 st e ∧ (Mt.nearest has q0 st e = none → Q .non H) ∧ (∀ q, Mt.nearest has q0 st e = some q → ∀ r H', Ex H H' → H' r = some (tup2 q) → Q (.ref r) H')
def paperV (p o : Int × Int) (has : Bool) (q0 st : Int × Int) (e : Mt.Ends) : List V :=
  match Mt.nearest has q0 st e with
  | some q => [.str "nearest", .int q.1, .int q.2]
  | none => if has = true then [.str "gap", .int (Mt.after q0 st (Mt.gapAt e)).1, .int (Mt.after q0 st (Mt.gapAt e)).2] else [.str "modulus", .int (Int.gcd p.1 o.1 : Int)]
def spPaper (C : Addr) : Sp := fun vs H Q _ => ∃ m p o b has q0 st e, vs = [.ref m] ∧ MetAt C H m p o b has q0 st e ∧ (∀ r H', Ex H H' → H' r = some (.tup (paperV p o has q0 st e)) → Q (.ref r) H')
section
variable {P : Program} {w : World} {K : PySem.W.Frag} {mg : Str → Option Value} {base : Heap} {CN fI CA FE : Addr}
theorem ok_is_empty (T : Txt P K mg CN fI CA FE) (D : Dm K FE "is_empty" "Meetings.is_empty" s_Meetings_is_empty) : MethOk P w K mg base CX0 1 FE "is_empty" ["self"] (spEmpty FE) := by
  refine D.ok sc_Meetings_is_empty (fun _ _ _ _ _ _ us hl => match us, hl with | [_], _ => rfl) (fun vs H Q E h => ?_) (fun f cdv A outer s H vs Q E hr h => ?_)
  · obtain ⟨_, _, _, _, _, _, _, _, rfl, _⟩ := h
    rfl
  · obtain ⟨m, p, o, b, has, q0, st, e, rfl, M, k⟩ := h
    obtain ⟨n1, n2, n3, n4, n5, n6, n7, n8, n9⟩ := T.nf
    obtain ⟨dx, pa, oa, la, qa, sa, ea, h1, h2, h3, h4, h5, h6, h7⟩ := M.at_
    refine ⟨_, (pss_cons (ps_asg (pe_fld (pv 0) rfl) (pg_tup (by rfl) (pgs_cons (pg_name (i := 1) sc_Meetings_is_empty.nd rfl (Or.inl rfl)) (pgs_cons (pg_name (i := 2) sc_Meetings_is_empty.nd rfl (Or.inl rfl)) (pgs_cons (pg_name (i := 3) sc_Meetings_is_empty.nd rfl (Or.inl rfl)) pgs_nil)))))
 (pss_cons (ps_if (PW.pt (pw_or (pt_not (pt_val (pe_fld (pv 0) rfl))) (pw_or1 (pt_val (pv 3)))))
 (pss_one (ps_ret pe_bl))
 pss_nil)
 (pss_one (ps_ret (pe_and (pe_cmpR op_notN (pv 1) pe_non (nomark _)) (pe_and (pe_cmpR op_notN (pv 2) pe_non (nomark _)) (pe_one (pe_cmpR op_gt (pv 1) (pv 2) (nomark _))))))))), ?_⟩
    obtain ⟨fe, le, be⟩ := e
    refine ⟨_, rfl, m, FE, dx, _, V.ref ea, rfl, h1, T.c_Met, n9, rfl, ea, _, rfl, SqT.of h7, rfl, _, _, rfl, _, _, rfl, _, _, rfl, rfl, ?_⟩
    refine ⟨_, rfl, m, FE, dx, _, V.bl has, rfl, h1, T.c_Met, n8, rfl, _, rfl, ?_⟩
    unfold Mt.isEmpty at k
    cases has with
    | false => exact if_so rfl (if_so rfl k)
    | true =>
      refine if_no rfl ⟨_, rfl, _, rfl, ?_⟩
      cases be with
      | true => exact if_so rfl k
      | false =>
        refine if_no rfl ?_
        refine ⟨_, rfl, rfl, _, rfl, ?_⟩
        cases fe with
        | none => exact if_no rfl k
        | some fv =>
          refine if_so rfl ⟨_, rfl, rfl, _, rfl, ?_⟩
          cases le with
          | none => exact if_no rfl k
          | some lv => exact if_so rfl ⟨_, rfl, _, rfl, _, _, rfl, rfl, k⟩
theorem ok_growth (T : Txt P K mg CN fI CA FE) (D : Dm K FE "growth" "Meetings.growth" s_Meetings_growth) : MethOk P w K mg base CX0 1 FE "growth" ["self"] (spGrowth FE) := by
  refine D.ok sc_Meetings_growth (fun _ _ _ _ _ _ us hl => match us, hl with | [_], _ => rfl) (fun vs H Q E h => ?_) (fun f cdv A outer s H vs Q E hr h => ?_)
  · obtain ⟨_, _, _, _, _, _, _, _, rfl, _⟩ := h
    rfl
  · obtain ⟨m, p, o, b, has, q0, st, e, rfl, M, k⟩ := h
    obtain ⟨n1, n2, n3, n4, n5, n6, n7, n8, n9⟩ := T.nf
    obtain ⟨dx, pa, oa, la, qa, sa, ea, h1, h2, h3, h4, h5, h6, h7⟩ := M.at_
    refine ⟨_, (pss_cons (ps_asg (pe_ix ix_tup (pe_fld (pv 0) rfl) pe_int (fun _ _ => rfl)) (pg_tup (by rfl) (pgs_cons (pg_name (i := 1) sc_Meetings_growth.nd rfl (Or.inl rfl)) (pgs_cons (pg_name (i := 2) sc_Meetings_growth.nd rfl (Or.inl rfl)) pgs_nil))))
 (pss_one (ps_ret (pe_ifExp (pt_cmpR op_ne (pv 2) pe_int (nomark _)) (pv 2) (pv 1))))), ?_⟩
    refine ⟨_, rfl, m, FE, dx, _, V.ref la, rfl, h1, T.c_Met, n7, rfl, _, _, _, _, rfl, rfl, SqT.of h4, rfl, sa, _, rfl, SqT.of h6, rfl, _, _, rfl, _, _, rfl, rfl, ?_⟩
    refine ⟨_, rfl, rfl, _, rfl, ?_⟩
    unfold Mt.growth at k
    by_cases c : st.2 = 0
    · refine if_no (nei_f c) ⟨_, rfl, ?_⟩
      rw [if_neg (fun z => z c)] at k
      exact k
    · refine if_so (nei_t c) ⟨_, rfl, ?_⟩
      rw [if_pos c] at k
      exact k
theorem ok_end_by (T : Txt P K mg CN fI CA FE) (D : Dm K FE "end_by" "Meetings.end_by" s_Meetings_end_by) (D_pair_after : DefOk P w K mg base CX0 1 "pair_after" ["pair", "step", "many"] spAfter) : MethOk P w K mg base CX0 2 FE "end_by" ["self", "growth"] (spEndBy FE) := by
  refine D.ok sc_Meetings_end_by (fun _ _ _ _ _ _ us hl => match us, hl with | [_, _], _ => rfl) (fun vs H Q E h => ?_) (fun f cdv A outer s H vs Q E hr h => ?_)
  · obtain ⟨_, _, _, _, _, _, _, _, _, rfl, _⟩ := h
    rfl
  · obtain ⟨m, p, o, b, has, q0, st, e, g, rfl, M, k1, k2⟩ := h
    obtain ⟨n1, n2, n3, n4, n5, n6, n7, n8, n9⟩ := T.nf
    obtain ⟨dx, pa, oa, la, qa, sa, ea, h1, h2, h3, h4, h5, h6, h7⟩ := M.at_
    refine ⟨_, (pss_cons (ps_set (i := 2) sc_Meetings_end_by.nd rfl (Or.inl rfl) (pe_ifExp (pt_cmpR op_gt (pv 1) pe_int (nomark _)) (pe_ix ix_tup (pe_fld (pv 0) rfl) pe_int (fun _ _ => rfl)) (pe_ix ix_tup (pe_fld (pv 0) rfl) pe_int (fun _ _ => rfl))))
 (pss_cons (ps_asg (pe_fld (pv 0) rfl) (pg_tup (by rfl) (pgs_cons (pg_name (i := 3) sc_Meetings_end_by.nd rfl (Or.inl rfl)) (pgs_cons (pg_name (i := 4) sc_Meetings_end_by.nd rfl (Or.inl rfl)) pgs_nil))))
 (pss_one (ps_ret (pe_ifExp (pt_cmpR op_isN (pv 2) pe_non (nomark _)) pe_non (pe_callD D_pair_after (hr.mono (by decide)) pass0 (pa_cons (pv 3) (pa_cons (pv 4) (pa_cons (pv 2) pa_nil))))))))), ?_⟩
    have fin : ∀ ev : Option Int, (∀ t, ev = some t → Bd 1403 t) → (ev.map (Mt.after q0 st) = none → Q .non H) → (∀ q, ev.map (Mt.after q0 st) = some q → ∀ r H', Ex H H' → H' r = some (tup2 q) → Q (.ref r) H') →
        tSeq (tAsg (tFld K (tVar 0) "own_line") (gTup K 2 (gCons (gName 3) (gCons (gName 4) gNil)))) (tRet (tIf (tTest (tOp (fun x y H Q => y = V.non ∧ Q (V.bl (decide (x = V.non))) H) (tVar 2) (tC V.non))) (tC .non) (tCallD spAfter E0 (tCons (tVar 3) (tCons (tVar 4) (tCons (tVar 2) tNil))))))
          { nx := fun _ H' => Q .non H', rt := Q } [some (.ref m), some (.int g), some (oV ev), none, none] H := by
      intro ev hb q1 q2
      refine ⟨_, rfl, m, FE, dx, _, V.ref la, rfl, h1, T.c_Met, n7, rfl, la, _, rfl, SqT.of h4, rfl, _, _, rfl, _, _, rfl, rfl, ?_⟩
      refine ⟨_, rfl, rfl, _, rfl, ?_⟩
      cases ev with
      | none => exact if_so rfl (q1 rfl)
      | some t => exact if_no rfl ⟨_, rfl, _, rfl, _, rfl, qa, sa, q0, st, t, rfl, h5, h6, M.bq.2, (hb t rfl).mono (by decide), q2 _ rfl⟩
    unfold Mt.endBy at k1 k2
    refine ⟨_, rfl, _, _, rfl, rfl, _, rfl, ?_⟩
    obtain ⟨fe, le, be⟩ := e
    by_cases c : 0 < g
    · rw [if_pos c] at k1 k2
      refine if_so (decide_eq_true c) ⟨_, rfl, m, FE, dx, _, V.ref ea, rfl, h1, T.c_Met, n9, rfl, _, _, _, _, rfl, rfl, SqT.of h7, rfl, ?_⟩
      exact fin fe M.be.1 k1 k2
    · rw [if_neg c] at k1 k2
      refine if_no (decide_eq_false c) ⟨_, rfl, m, FE, dx, _, V.ref ea, rfl, h1, T.c_Met, n9, rfl, _, _, _, _, rfl, rfl, SqT.of h7, rfl, ?_⟩
      exact fin le M.be.2 k1 k2
theorem ok_on_line (T : Txt P K mg CN fI CA FE) (D : Dm K FE "is_on_line" "Meetings.is_on_line" s_Meetings_is_on_line) : MethOk P w K mg base CX0 1 FE "is_on_line" ["self", "pair"] (spOnLine FE) := by
  refine D.ok sc_Meetings_is_on_line (fun _ _ _ _ _ _ us hl => match us, hl with | [_, _], _ => rfl) (fun vs H Q E h => ?_) (fun f cdv A outer s H vs Q E hr h => ?_)
  · obtain ⟨_, _, _, _, _, _, _, _, _, _, rfl, _⟩ := h
    rfl
  · obtain ⟨m, p, o, b, has, q0, st, e, qa', q, rfl, M, hq, bq, k⟩ := h
    obtain ⟨n1, n2, n3, n4, n5, n6, n7, n8, n9⟩ := T.nf
    obtain ⟨dx, pa, oa, la, qa, sa, ea, h1, h2, h3, h4, h5, h6, h7⟩ := M.at_
    refine ⟨_, (pss_one (ps_ret (pe_cmpR op_eq (pe_op op_add (pe_op op_mulW (pe_ix ix_tup (pe_fld (pv 0) rfl) pe_int (fun _ _ => rfl)) (pe_ix ix_tup (pv 1) pe_int (fun _ _ => rfl))) (pe_ix ix_tup (pe_fld (pv 0) rfl) pe_int (fun _ _ => rfl))) (pe_op op_add (pe_op op_mulW (pe_ix ix_tup (pe_fld (pv 0) rfl) pe_int (fun _ _ => rfl)) (pe_ix ix_tup (pv 1) pe_int (fun _ _ => rfl))) (pe_ix ix_tup (pe_fld (pv 0) rfl) pe_int (fun _ _ => rfl))) (nomark _)))), ?_⟩
    refine ⟨_, rfl, m, FE, dx, _, V.ref pa, rfl, h1, T.c_Met, n1, rfl, _, _, _, _, rfl, rfl, SqT.of h2, rfl, _, rfl, _, _, _, _, rfl, rfl, SqT.of hq, rfl, _, _, rfl, rfl, M.bp.1.1.ok bq.1 (by decide) (by decide) (by decide), ?_⟩
    refine ⟨_, rfl, m, FE, dx, _, V.ref pa, rfl, h1, T.c_Met, n1, rfl, _, _, _, _, rfl, rfl, SqT.of h2, rfl, _, _, rfl, rfl, ?_⟩
    refine ⟨_, rfl, m, FE, dx, _, V.ref oa, rfl, h1, T.c_Met, n2, rfl, _, _, _, _, rfl, rfl, SqT.of h3, rfl, _, rfl, _, _, _, _, rfl, rfl, SqT.of hq, rfl, _, _, rfl, rfl, M.bp.2.1.ok bq.2 (by decide) (by decide) (by decide), ?_⟩
    refine ⟨_, rfl, m, FE, dx, _, V.ref oa, rfl, h1, T.c_Met, n2, rfl, _, _, _, _, rfl, rfl, SqT.of h3, rfl, _, _, rfl, rfl, ?_⟩
    refine ⟨rfl, ?_⟩
    unfold onLine at k
    have e : decide (V.int (p.1 * q.1 + p.2) = V.int (o.1 * q.2 + o.2)) = decide (p.1 * q.1 + p.2 = o.1 * q.2 + o.2) := by rw [decide_eq_decide]; simp
    rw [← e] at k
    exact k
theorem ok_divisor (T : Txt P K mg CN fI CA FE) (D : Dm K FE "divisor" "Meetings.divisor" s_Meetings_divisor) : MethOk P w K mg base CX0 1 FE "divisor" ["self"] (spDivisor FE) := by
  refine D.ok sc_Meetings_divisor (fun _ _ _ _ _ _ us hl => match us, hl with | [_], _ => rfl) (fun vs H Q E h => ?_) (fun f cdv A outer s H vs Q E hr h => ?_)
  · obtain ⟨_, _, _, _, _, _, _, _, rfl, _⟩ := h
    rfl
  · obtain ⟨m, p, o, b, has, q0, st, e, rfl, M, k⟩ := h
    obtain ⟨n1, n2, n3, n4, n5, n6, n7, n8, n9⟩ := T.nf
    obtain ⟨dx, pa, oa, la, qa, sa, ea, h1, h2, h3, h4, h5, h6, h7⟩ := M.at_
    refine ⟨_, (pss_cons (ps_par (by rfl) sc_Meetings_divisor.nd (i := 1) (j := 2) rfl rfl (by decide) rfl rfl (pa_cons (pe_callB call_abs (by rfl) T.n_abs (by decide +kernel) (pa_cons (pe_ix ix_tup (pe_fld (pv 0) rfl) pe_int (fun _ _ => rfl)) pa_nil)) (pa_cons (pe_callB call_abs (by rfl) T.n_abs (by decide +kernel) (pa_cons (pe_ix ix_tup (pe_fld (pv 0) rfl) pe_int (fun _ _ => rfl)) pa_nil)) pa_nil)) (by rfl))
 (pss_cons (ps_while PassesOwn.never (pt_cmpR op_ne (pv 2) pe_int (nomark _))
 (pss_one (ps_par (by rfl) sc_Meetings_divisor.nd (i := 1) (j := 2) rfl rfl (by decide) rfl rfl (pa_cons (pv 2) (pa_cons (pe_op op_mod (pv 1) (pv 2)) pa_nil)) (by rfl))))
 (pss_one (ps_ret (pv 1))))), ?_⟩
    refine ⟨_, rfl, m, FE, dx, _, V.ref pa, rfl, h1, T.c_Met, n1, rfl, _, _, _, _, rfl, rfl, SqT.of h2, rfl, _, rfl, ?_⟩
    refine ⟨_, rfl, m, FE, dx, _, V.ref oa, rfl, h1, T.c_Met, n2, rfl, _, _, _, _, rfl, rfl, SqT.of h3, rfl, _, rfl, _, _, rfl, ?_⟩
    refine ⟨fun k' σ H' => ∃ x y : Nat, σ = [some (.ref m), some (.int x), some (.int y)] ∧ H' = H ∧ Nat.gcd x y = Int.gcd p.1 o.1 ∧ y = k', ⟨_, p.1.natAbs, o.1.natAbs, by rw [← abs_nat, ← abs_nat]; rfl, rfl, rfl, rfl⟩, ?_⟩
    rintro k' σ H' ⟨x, y, rfl, rfl, hg, hk⟩
    subst hk
    refine ⟨_, rfl, rfl, _, rfl, ?_⟩
    by_cases hz : (y : Int) = 0
    · refine if_no (nei_f hz) ⟨_, rfl, ?_⟩
      have hy : y = 0 := by omega
      subst hy
      rw [Nat.gcd_zero_right] at hg
      rw [hg]
      exact k
    · refine if_so (nei_t hz) ?_
      refine ⟨fun σ' H2 => ∃ x' y' : Nat, σ' = [some (.ref m), some (.int x'), some (.int y')] ∧ H2 = H' ∧ Nat.gcd x' y' = Int.gcd p.1 o.1 ∧ y' < y, fun σ' H2 ⟨x', y', a1, a2, a3, a4⟩ => ⟨y', a4, x', y', a1, a2, a3, rfl⟩, ?_⟩
      have hy : 0 < y := by omega
      refine ⟨_, rfl, _, rfl, _, rfl, _, _, rfl, rfl, (by omega : (0 : Int) < (y : Int)), _, _, rfl, y, x % y, rfl, rfl, ?_, Nat.mod_lt _ hy⟩
      rw [Nat.gcd_comm, ← Nat.gcd_rec, Nat.gcd_comm]
      exact hg
theorem ok_nearest (T : Txt P K mg CN fI CA FE) (D : Dp_ K FE "nearest" "Meetings.nearest" s_Meetings_nearest) (D_Met_is_empty : MethOk P w K mg base CX0 1 FE "is_empty" ["self"] (spEmpty FE)) (D_Met_end_by : MethOk P w K mg base CX0 2 FE "end_by" ["self", "growth"] (spEndBy FE))
    (D_Met_growth : MethOk P w K mg base CX0 1 FE "growth" ["self"] (spGrowth FE)) : PropOk P w K mg base CX0 3 FE "nearest" ["self"] (spNearest FE) := by
  refine D.ok sc_Meetings_nearest (fun _ _ _ _ _ _ us hl => match us, hl with | [_], _ => rfl) (fun vs H Q E h => ?_) (fun f cdv A outer s H vs Q E hr h => ?_)
  · obtain ⟨_, _, _, _, _, _, _, _, rfl, _⟩ := h
    rfl
  · obtain ⟨m, p, o, b, has, q0, st, e, rfl, M, k1, k2⟩ := h
    obtain ⟨n1, n2, n3, n4, n5, n6, n7, n8, n9⟩ := T.nf
    obtain ⟨dx, pa, oa, la, qa, sa, ea, h1, h2, h3, h4, h5, h6, h7⟩ := M.at_
    refine ⟨_, (pss_cons (ps_if (pt_val (pe_methD0 (pv 0) T.c_Met D_Met_is_empty (hr.mono (by decide)) pass0))
 (pss_one (ps_ret pe_non))
 pss_nil)
 (pss_cons (ps_asg (pe_ix ix_tup (pe_fld (pv 0) rfl) pe_int (fun _ _ => rfl)) (pg_tup (by rfl) (pgs_cons (pg_name (i := 1) sc_Meetings_nearest.nd rfl (Or.inl rfl)) (pgs_cons (pg_name (i := 2) sc_Meetings_nearest.nd rfl (Or.inl rfl)) pgs_nil))))
 (pss_one (ps_ret (pe_methD (pv 0) T.c_Met D_Met_end_by (hr.mono (by decide)) pass0 (pa_cons (pe_ifExp (pt_cmpR op_ne (pv 2) (pv 1) (nomark _)) (pe_op op_sub (pv 2) (pv 1)) (pe_methD0 (pv 0) T.c_Met D_Met_growth (hr.mono (by decide)) pass0)) pa_nil)))))), ?_⟩
    refine ⟨_, rfl, m, dx, _, rfl, h1, rfl, m, p, o, b, has, q0, st, e, rfl, M, _, rfl, ?_⟩
    unfold Mt.nearest at k1 k2
    cases he : Mt.isEmpty has e with
    | true =>
      rw [he, if_pos rfl] at k1
      exact if_so rfl (k1 rfl)
    | false =>
      rw [he, if_neg Bool.false_ne_true] at k1 k2
      refine if_no rfl ?_
      refine ⟨_, rfl, m, FE, dx, _, V.ref la, rfl, h1, T.c_Met, n7, rfl, _, _, _, _, rfl, rfl, SqT.of h4, rfl, sa, _, rfl, SqT.of h6, rfl, _, _, rfl, _, _, rfl, rfl, ?_⟩
      refine ⟨_, rfl, m, dx, _, rfl, h1, rfl, ?_⟩
      refine ⟨_, rfl, _, rfl, rfl, _, rfl, ?_⟩
      unfold Mt.way at k1 k2
      by_cases c : st.2 = st.1
      · refine if_no (nei_f c) ?_
        rw [if_neg (fun z => z c)] at k1 k2
        exact ⟨_, rfl, m, dx, _, rfl, h1, rfl, m, p, o, b, has, q0, st, e, rfl, M, m, p, o, b, has, q0, st, e, _, rfl, M, k1, k2⟩
      · refine if_so (nei_t c) ?_
        rw [if_pos c] at k1 k2
        exact ⟨_, rfl, _, rfl, _, _, rfl, rfl, m, p, o, b, has, q0, st, e, _, rfl, M, k1, k2⟩
theorem ok_paper (T : Txt P K mg CN fI CA FE) (D : Dp_ K FE "paper" "Meetings.paper" s_Meetings_paper) (D_Met_nearest : PropOk P w K mg base CX0 3 FE "nearest" ["self"] (spNearest FE)) (D_Met_divisor : MethOk P w K mg base CX0 1 FE "divisor" ["self"] (spDivisor FE))
    (D_pair_after : DefOk P w K mg base CX0 1 "pair_after" ["pair", "step", "many"] spAfter) : PropOk P w K mg base CX0 5 FE "paper" ["self"] (spPaper FE) := by
  refine D.ok sc_Meetings_paper (fun _ _ _ _ _ _ us hl => match us, hl with | [_], _ => rfl) (fun vs H Q E h => ?_) (fun f cdv A outer s H vs Q E hr h => ?_)
  · obtain ⟨_, _, _, _, _, _, _, _, rfl, _⟩ := h
    rfl
  · obtain ⟨m, p, o, b, has, q0, st, e, rfl, M, k⟩ := h
    obtain ⟨n1, n2, n3, n4, n5, n6, n7, n8, n9⟩ := T.nf
    obtain ⟨dx, pa, oa, la, qa, sa, ea, h1, h2, h3, h4, h5, h6, h7⟩ := M.at_
    refine ⟨_, (pss_cons (ps_set (i := 1) sc_Meetings_paper.nd rfl (Or.inl rfl) (pe_propD (pv 0) T.c_Met D_Met_nearest (hr.mono (by decide)) pass0))
 (pss_cons (ps_if (pt_cmpR op_notN (pv 1) pe_non (nomark _))
 (pss_one (ps_ret (pe_tup (pa_cons (pe_gStr (by rfl) T.g_NEAREST) (pa_star (pv 1) pa_nil)))))
 pss_nil)
 (pss_cons (ps_if (pt_not (pt_val (pe_fld (pv 0) rfl)))
 (pss_one (ps_ret (pe_tup (pa_cons (pe_gStr (by rfl) T.g_MODULUS) (pa_cons (pe_methD0 (pv 0) T.c_Met D_Met_divisor (hr.mono (by decide)) pass0) pa_nil)))))
 pss_nil)
 (pss_cons (ps_asg (pe_tup (pa_cons (pe_fld (pv 0) rfl) (pa_cons (pe_fld (pv 0) rfl) pa_nil))) (pg_tup (by rfl) (pgs_cons (pg_tup (by rfl) (pgs_cons (pg_name (i := 2) sc_Meetings_paper.nd rfl (Or.inl rfl)) (pgs_cons (pg_name (i := 3) sc_Meetings_paper.nd rfl (Or.inl rfl)) pgs_nil))) (pgs_cons (pg_tup (by rfl) (pgs_cons (pg_name (i := 4) sc_Meetings_paper.nd rfl (Or.inl rfl)) (pgs_cons (pg_name (i := 5) sc_Meetings_paper.nd rfl (Or.inl rfl)) (pgs_cons (pg_name (i := 6) sc_Meetings_paper.nd rfl (Or.inl rfl)) pgs_nil)))) pgs_nil))))
 (pss_cons (ps_set (i := 1) sc_Meetings_paper.nd rfl (Or.inl rfl) (pe_callD D_pair_after (hr.mono (by decide)) pass0 (pa_cons (pv 2) (pa_cons (pv 3) (pa_cons (pe_ifExp (pt_val (pv 6)) pe_int (pe_op op_sub (pv 4) pe_int)) pa_nil)))))
 (pss_one (ps_ret (pe_tup (pa_cons (pe_gStr (by rfl) T.g_GAP) (pa_star (pv 1) pa_nil)))))))))), ?_⟩
    refine ⟨_, rfl, m, dx, _, rfl, h1, ?_⟩
    refine ⟨m, p, o, b, has, q0, st, e, rfl, M, fun hn => ?_, fun q hn r H' e1 hr1 => ?_⟩
    · unfold paperV at k
      rw [hn] at k
      dsimp only at k
      refine ⟨_, rfl, rfl, _, rfl, if_no rfl ?_⟩
      refine ⟨_, rfl, m, FE, dx, _, V.bl has, rfl, h1, T.c_Met, n8, rfl, _, rfl, ?_⟩
      cases hh : has with
      | false =>
        refine if_so rfl ?_
        rw [hh, if_neg Bool.false_ne_true] at k
        refine ⟨_, rfl, m, dx, _, rfl, h1, rfl, m, p, o, b, has, q0, st, e, rfl, M, ?_⟩
        exact ⟨show 2 ≤ sizeLine by decide, fun r hr' => k r _ (Ex.new hr') upd_same⟩
      | true =>
        refine if_no rfl ?_
        rw [hh, if_pos rfl] at k
        have hem : Mt.isEmpty has e = true := by
          cases z : Mt.isEmpty has e with
          | true => rfl
          | false =>
            obtain ⟨t, ht, _⟩ := Mt.near_end M.ok z
            rw [hn] at ht
            cases ht
        have G := (Mt.gap_ok M.ok hem hh).1
        refine ⟨_, rfl, m, FE, dx, _, V.ref la, rfl, h1, T.c_Met, n7, rfl, _, rfl, m, FE, dx, _, V.ref ea, rfl, h1, T.c_Met, n9, rfl, ?_⟩
        refine ⟨show 2 ≤ sizeLine by decide, fun t0 ht0 => ?_⟩
        have x0 := Ex.new (o := HO.tup [.ref la, .ref ea]) ht0
        refine ⟨t0, _, rfl, SqT.of upd_same, rfl, _, _, rfl, la, _, rfl, SqT.of (x0 _ _ h4), rfl, _, _, rfl, _, _, rfl, rfl, _, _, rfl, ea, _, rfl, SqT.of (x0 _ _ h7), rfl, _, _, rfl, _, _, rfl, _, _, rfl, rfl, rfl, ?_⟩
        have fin : ∀ t, Bd 5000 t → t = Mt.gapAt e → spAfter [.ref qa, .ref sa, .int t] (upd H t0 (HO.tup [.ref la, .ref ea])) (fun x H1 => tRet (tTup (tCons (tC (.str "gap")) (tStar K (tVar 1) tNil))) { nx := fun _ H' => Q .non H', rt := Q } [some (.ref m), some x, some (.ref qa), some (.ref sa), some (oV e.1), some (oV e.2.1), some (.bl e.2.2)] H1) E0 := by
          intro t bt et
          refine ⟨qa, sa, q0, st, t, rfl, x0 _ _ h5, x0 _ _ h6, M.bq.2, bt, fun r H' e2 hr2 => ?_⟩
          refine ⟨_, rfl, r, _, rfl, .inl (SqT.of hr2), show 3 ≤ sizeLine by decide, fun r2 hr3 => ?_⟩
          refine k r2 _ ((x0.trans e2).trans (Ex.new hr3)) ?_
          rw [upd_same, ← et]
          rfl
        obtain ⟨fe, le, be⟩ := e
        refine ⟨_, rfl, _, rfl, _, rfl, _, rfl, ?_⟩
        cases be with
        | true => exact if_so rfl (fin 0 ((Bd.lit (n := 1) (by decide)).mono (by decide)) rfl)
        | false =>
          obtain ⟨fv, hf⟩ := G rfl
          dsimp only at hf
          subst hf
          refine if_no rfl ⟨_, rfl, _, _, rfl, rfl, fin (fv - 1) ?_ rfl⟩
          exact ((M.be.1 fv rfl).sub ((Bd.lit (n := 1) (by decide)).mono (by decide)) (Nat.le_refl _)).mono (by decide)
    · unfold paperV at k
      rw [hn] at k
      dsimp only at k
      refine ⟨_, rfl, rfl, _, rfl, if_so rfl ?_⟩
      refine ⟨_, rfl, r, _, rfl, .inl (SqT.of hr1), show 3 ≤ sizeLine by decide, fun r2 hr3 => ?_⟩
      exact k r2 _ (e1.trans (Ex.new hr3)) upd_same
end
end My
set_option maxHeartbeats 4000000
namespace My
open PySem L2 Lf Evl StX
abbrev s_is_gap : Stmt := top 23
theorem sc_is_gap : FnScope ["meetings", "pair", "slopes", "here", "there", "spare", "slope", "before"] ["meetings", "pair"] (defScope s_is_gap) := ⟨rfl, rfl, rfl, by decide +kernel, rfl, by decide +kernel, by decide +kernel⟩
abbrev s_is_modulus : Stmt := top 24
theorem sc_is_modulus : FnScope ["meetings", "value"] ["meetings", "value"] (defScope s_is_modulus) := ⟨rfl, rfl, rfl, by decide +kernel, rfl, by decide +kernel, by decide +kernel⟩
abbrev s_is_meetings_paper : Stmt := top 25
theorem sc_is_meetings_paper : FnScope ["meetings", "value", "one"] ["meetings", "value"] (defScope s_is_meetings_paper) := ⟨rfl, rfl, rfl, by decide +kernel, rfl, by decide +kernel, by decide +kernel⟩
section
variable {K : PySem.W.Frag} {σ : L2.St} {H : Hp} {te tl : TE} {ta : TA} {g : TG} {vs : List Nat} {a b : Addr} {ns ms : List Int}
/-- [e for x, y in zip(a, b)] of two lists of ints -/
theorem el_zipI (f : Int × Int → V) (h : EvA ta σ H [.ref a, .ref b]) (ha : SqL K H a (ns.map V.int)) (hb : SqL K H b (ms.map V.int)) (hl : ns.length = ms.length) (hz : ns.length ≤ 1000)
    (he : ∀ x y H1, Ex H H1 → (x, y) ∈ ns.zip ms → ∀ T, H1 T = none → ∀ Q : L2.St → Hp → Prop, (∀ σ2 H2, Ex H1 H2 → wipe σ2 vs = wipe σ vs → Ev te σ2 H2 (f (x, y)) → Q σ2 H2) → g (.ref T) (wipe σ vs) (upd H1 T (.tup [.int x, .int y])) Q) :
    EvL (tLc (RZ.iZipA K ta) g tYes te vs) σ H ((ns.zip ms).map f) := fun H0 e0 Q q => h H0 e0 _ fun H1 e1 =>
  ⟨a, b, _, _, rfl, .inl ⟨ex_l (e0.trans e1) ha, ex_l (e0.trans e1) hb, fun D hD => by
    have hzl : (ns.zip ms).length = ns.length := by rw [List.length_zip, hl, Nat.min_self]
    have eD : Ex H1 (upd H1 D (.lst [])) := Ex.new hD
    refine ⟨fun i m H' => m = ns.length - i ∧ i ≤ ns.length ∧ Ex H1 H' ∧ H' D = some (.lst (((ns.zip ms).take i).map f)), ⟨ns.length, by simp, Nat.zero_le _, eD, upd_same⟩, ?_⟩
    rintro i m H' ⟨rfl, hi, e2, hL⟩
    have s1 := ex_l (e0.trans (e1.trans e2)) ha
    have s2 := ex_l (e0.trans (e1.trans e2)) hb
    by_cases hlt : i < ns.length
    · obtain ⟨x, hx⟩ : ∃ x, ns[i]? = some x := ⟨_, List.getElem?_eq_getElem hlt⟩
      obtain ⟨y, hy⟩ : ∃ y, ms[i]? = some y := ⟨_, List.getElem?_eq_getElem (hl ▸ hlt)⟩
      have hx' : (ns.map V.int)[i]? = some (V.int x) := by rw [List.getElem?_map, hx]; rfl
      have hy' : (ms.map V.int)[i]? = some (V.int y) := by rw [List.getElem?_map, hy]; rfl
      have hzi : (ns.zip ms)[i]? = some (x, y) := by rw [List.getElem?_zip_eq_some]; exact ⟨hx, hy⟩
      refine .inr ⟨⟨_, _, _, _, s1, s2, hx', hy'⟩, fun H3 => Ex H1 H3 ∧ H3 D = some (.lst (((ns.zip ms).take (i + 1)).map f)), fun H3 ⟨a3, b3⟩ => ⟨ns.length - (i + 1), by omega, rfl, hlt, a3, b3⟩, ?_⟩
      rintro v H3 ⟨T, x', y', rfl, hT, rfl, kx, ky⟩
      have ex := Option.some.inj ((kx _ s1).symm.trans hx')
      have ey := Option.some.inj ((ky _ s2).symm.trans hy')
      subst ex
      subst ey
      refine he x y H' (e0.trans (e1.trans e2)) (List.mem_of_getElem? hzi) T hT _ fun σ2 H4 e4 hw hev => ⟨hw, ?_⟩
      dsimp only [tYes]
      rw [if_pos rfl]
      refine hev H4 (Ex.refl _) _ fun H5 e5 => ⟨_, e5 _ _ (e4 _ _ hL), ?_, ?_⟩
      · rw [List.length_map, List.length_take]
        exact Nat.lt_of_le_of_lt (Nat.min_le_left _ _) (Nat.lt_of_lt_of_le (Nat.lt_of_lt_of_le hlt hz) (show 1000 ≤ sizeLine by decide))
      · refine ⟨Ex.mut (e2.trans (e4.trans e5)) hD, ?_⟩
        rw [upd_same, take_more hzi, List.map_append]
        rfl
    · have ei : i = ns.length := by omega
      refine .inl ⟨⟨_, _, s1, s2, .inl (by rw [List.length_map]; omega)⟩, q D H' (fresh_back e1 hD) (e1.trans e2) ?_⟩
      rw [hL, ei, ← hzl, List.take_length]⟩⟩
theorem ev_any {bs : List Bool} (h : EvL te σ H (bs.map V.bl)) : Ev (tCB (rAny K) (tCons te tNil)) σ H (.bl (bs.any id)) := fun H1 e Q q => h H1 e _ fun p H2 hp e2 hL => ⟨p, bs, rfl, SqL.of hL, q H2 e2⟩
theorem ev_all {bs : List Bool} (h : EvL te σ H (bs.map V.bl)) : Ev (tCB (rAll K) (tCons te tNil)) σ H (.bl (bs.all id)) := fun H1 e Q q => h H1 e _ fun p H2 hp e2 hL => ⟨p, bs, rfl, SqL.of hL, q H2 e2⟩
theorem ev_chain {r r' : R2} {t1 t2 t3 : TE} {x y z : V} {k k2 : Bool} (ha : Ev t1 σ H x) (hb : Ev t2 σ H y) (hc : Ev t3 σ H z) (h1 : RV r x y H (.bl k)) (h2 : RV r' y z H (.bl k2)) : Ev (tChain r r' t1 t2 t3) σ H (.bl (k && k2)) := fun H1 e Q q =>
  ha H1 e _ fun H2 e2 => hb H2 (e.trans e2) _ fun H3 e3 => h1 H3 ((e.trans e2).trans e3) _ fun H4 e4 => ⟨k, rfl, by
    have e5 := (e2.trans e3).trans e4
    cases k with
    | false => exact if_no rfl (q H4 e5)
    | true => exact if_so rfl (hc H4 (e.trans e5) _ fun H5 e6 => h2 H5 ((e.trans e5).trans e6) _ fun H6 e7 => q H6 ((e5.trans e6).trans e7))⟩
/-- any([c(x, y) for x, y in zip(a, b)]) -/
theorem ev_anyZ (f : Int × Int → Bool) (h : EvA ta σ H [.ref a, .ref b]) (ha : SqL K H a (ns.map V.int)) (hb : SqL K H b (ms.map V.int)) (hl : ns.length = ms.length) (hz : ns.length ≤ 1000)
    (he : ∀ x y H1, Ex H H1 → (x, y) ∈ ns.zip ms → ∀ T, H1 T = none → ∀ Q : L2.St → Hp → Prop, (∀ σ2 H2, Ex H1 H2 → wipe σ2 vs = wipe σ vs → Ev te σ2 H2 (.bl (f (x, y))) → Q σ2 H2) → g (.ref T) (wipe σ vs) (upd H1 T (.tup [.int x, .int y])) Q) :
    Ev (tCB (rAny K) (tCons (tLc (RZ.iZipA K ta) g tYes te vs) tNil)) σ H (.bl ((ns.zip ms).any f)) := by
  have h := ev_any (K := K) (bs := (ns.zip ms).map f) (te := tLc (RZ.iZipA K ta) g tYes te vs) (σ := σ) (H := H) (by
    rw [List.map_map]
    exact el_zipI (V.bl ∘ f) h ha hb hl hz he)
  rw [List.any_map] at h
  exact h
end
theorem zip_there : ∀ (ns ms : List Int), (((ns.zip ms).map fun r => r.1 + r.2).zip ms) = (ns.zip ms).map fun r => (r.1 + r.2, r.2)
  | [], _ => rfl
  | _ :: _, [] => rfl
  | n :: ns, m :: ms => by
    simp only [List.zip_cons_cons, List.map_cons, List.cons.injEq, true_and]
    exact zip_there ns ms
/-! ### what papers are -/
def gapB (p o : Int × Int) (b : Mt.Bnd) (st q : Int × Int) : Bool := onLine p o q && (((Mt.rows b q st).any fun r => decide (r.1 < 0) && decide (0 ≤ r.2)) && (Mt.rows b q st).any fun r => decide (r.1 + r.2 < 0) && decide (r.2 ≤ 0))
def modB (p o : Int × Int) (n : Int) : Bool := decide (2 ≤ n) && (decide (p.1 % n = 0) && (decide (o.1 % n = 0) && !decide ((o.2 - p.2) % n = 0)))
def judge (p o : Int × Int) (b : Mt.Bnd) (st : Int × Int) (near : Option (Int × Int)) : List V → Bool
  | [.str s, .int n] => decide (s = ("modulus" : Str)) && modB p o n
  | [.str s, .int x, .int y] => if s = ("nearest" : Str) then decide (near = some (x, y)) else decide (s = ("gap" : Str)) && gapB p o b st (x, y)
  | _ => false
def spGap (C : Addr) : Sp := fun vs H Q _ => ∃ m p o b has q0 st e qa q, vs = [.ref m, .ref qa] ∧ MetAt C H m p o b has q0 st e ∧ H qa = some (tup2 q) ∧ Bd2 9000 q ∧ ∀ H', Ex H H' → Q (.bl (gapB p o b st q)) H'
def spMod (C : Addr) : Sp := fun vs H Q _ => ∃ m p o b has q0 st e n, vs = [.ref m, .int n] ∧ MetAt C H m p o b has q0 st e ∧ Q (.bl (modB p o n)) H
section
variable {P : Program} {w : World} {K : PySem.W.Frag} {mg : Str → Option Value} {base : Heap} {CN fI CA FE : Addr}
theorem ok_is_modulus (T : Txt P K mg CN fI CA FE) (D : Df K mg "is_modulus" s_is_modulus) : DefOk P w K mg base CX0 1 "is_modulus" ["meetings", "value"] (spMod FE) := by
  refine D.ok sc_is_modulus (fun _ _ _ _ _ _ us hl => match us, hl with | [_, _], _ => rfl) (fun vs H Q E h => ?_) (fun f cdv A outer s H vs Q E hr h => ?_)
  · obtain ⟨_, _, _, _, _, _, _, _, _, rfl, _⟩ := h
    rfl
  · obtain ⟨m, p, o, b, has, q0, st, e, n, rfl, M, k⟩ := h
    obtain ⟨n1, n2, n3, n4, n5, n6, n7, n8, n9⟩ := T.nf
    obtain ⟨dx, pa, oa, la, qa, sa, ea, h1, h2, h3, h4, h5, h6, h7⟩ := M.at_
    refine ⟨_, (pss_cons (ps_if (PW.pt (pw_or (pt_cmpR op_lt (pv 1) pe_int (nomark _)) (pw_or (pt_cmpR op_ne (pe_op op_mod (pe_ix ix_tup (pe_fld (pv 0) rfl) pe_int (fun _ _ => rfl)) (pv 1)) pe_int (nomark _)) (pw_or1 (pt_cmpR op_ne (pe_op op_mod (pe_ix ix_tup (pe_fld (pv 0) rfl) pe_int (fun _ _ => rfl)) (pv 1)) pe_int (nomark _))))))
 (pss_one (ps_ret pe_bl))
 pss_nil)
 (pss_one (ps_ret (pe_cmpR op_ne (pe_op op_mod (pe_op op_sub (pe_ix ix_tup (pe_fld (pv 0) rfl) pe_int (fun _ _ => rfl)) (pe_ix ix_tup (pe_fld (pv 0) rfl) pe_int (fun _ _ => rfl))) (pv 1)) pe_int (nomark _))))), ?_⟩
    unfold modB at k
    refine ⟨_, rfl, _, _, rfl, rfl, _, rfl, ?_⟩
    by_cases c1 : n < 2
    · refine if_so (decide_eq_true c1) (if_so rfl ?_)
      rw [decide_eq_false (by omega : ¬ 2 ≤ n)] at k
      exact k
    · refine if_no (decide_eq_false c1) ?_
      have n0 : 0 < n := by omega
      rw [decide_eq_true (by omega : 2 ≤ n)] at k
      refine ⟨_, rfl, m, FE, dx, _, V.ref pa, rfl, h1, T.c_Met, n1, rfl, _, _, _, _, rfl, rfl, SqT.of h2, rfl, _, rfl, _, _, rfl, rfl, n0, rfl, _, rfl, ?_⟩
      by_cases c2 : p.1 % n = 0
      · refine if_no (nei_f c2) ?_
        rw [decide_eq_true c2] at k
        refine ⟨_, rfl, m, FE, dx, _, V.ref oa, rfl, h1, T.c_Met, n2, rfl, _, _, _, _, rfl, rfl, SqT.of h3, rfl, _, rfl, _, _, rfl, rfl, n0, rfl, _, rfl, ?_⟩
        by_cases c3 : o.1 % n = 0
        · refine if_no (nei_f c3) ?_
          rw [decide_eq_true c3] at k
          refine ⟨_, rfl, m, FE, dx, _, V.ref oa, rfl, h1, T.c_Met, n2, rfl, _, _, _, _, rfl, rfl, SqT.of h3, rfl, _, rfl, m, FE, dx, _, V.ref pa, rfl, h1, T.c_Met, n1, rfl, _, _, _, _, rfl, rfl, SqT.of h2, rfl, _, _, rfl, rfl, _, rfl, _, _, rfl, rfl, n0, rfl, ?_⟩
          by_cases c4 : (o.2 - p.2) % n = 0
          · rw [nei_f c4]
            rw [decide_eq_true c4] at k
            exact k
          · rw [nei_t c4]
            rw [decide_eq_false c4] at k
            exact k
        · refine if_so (nei_t c3) ?_
          rw [decide_eq_false c3] at k
          exact k
      · refine if_so (nei_t c2) (if_so rfl ?_)
        rw [decide_eq_false c2] at k
        exact k
theorem ok_is_gap (T : Txt P K mg CN fI CA FE) (D : Df K mg "is_gap" s_is_gap) (D_Met_is_on_line : MethOk P w K mg base CX0 1 FE "is_on_line" ["self", "pair"] (spOnLine FE)) (D_Met_spares_at : MethOk P w K mg base CX0 1 FE "spares_at" ["self", "pair"] (spSpares FE))
    (D_Met_slopes : MethOk P w K mg base CX0 1 FE "slopes" ["self"] (spSlopes FE)) : DefOk P w K mg base CX0 2 "is_gap" ["meetings", "pair"] (spGap FE) := by
  refine D.ok sc_is_gap (fun _ _ _ _ _ _ us hl => match us, hl with | [_, _], _ => rfl) (fun vs H Q E h => ?_) (fun f cdv A outer s H vs Q E hr h => ?_)
  · obtain ⟨_, _, _, _, _, _, _, _, _, _, rfl, _⟩ := h
    rfl
  · obtain ⟨m, p, o, b, has, q0, st, e, qa', q, rfl, M, hq, bq, k⟩ := h
    obtain ⟨n1, n2, n3, n4, n5, n6, n7, n8, n9⟩ := T.nf
    obtain ⟨dx, pa, oa, la, qa, sa, ea, h1, h2, h3, h4, h5, h6, h7⟩ := M.at_
    refine ⟨_, (pss_cons (ps_if (pt_not (pt_val (pe_methD (pv 0) T.c_Met D_Met_is_on_line (hr.mono (by decide)) pass0 (pa_cons (pv 1) pa_nil))))
 (pss_one (ps_ret pe_bl))
 pss_nil)
 (pss_cons (ps_set (i := 2) sc_is_gap.nd rfl (Or.inl rfl) (pe_methD0 (pv 0) T.c_Met D_Met_slopes (hr.mono (by decide)) pass0))
 (pss_cons (ps_set (i := 3) sc_is_gap.nd rfl (Or.inl rfl) (pe_methD (pv 0) T.c_Met D_Met_spares_at (hr.mono (by decide)) pass0 (pa_cons (pv 1) pa_nil)))
 (pss_cons (ps_setLc (i := 4) (own := [("spare", 5), ("slope", 6)]) (g := (gTup K 2 (gCons (gName 5) (gCons (gName 6) gNil)))) (by rfl) sc_is_gap.nd rfl rfl (sw_true rfl rfl rfl (by decide +kernel)) (RZ.pi_zipA (by rfl) T.n_zip (pa_cons (pv 3) (pa_cons (pv 2) pa_nil))) (blkOk_by (own := [("spare", 5), ("slope", 6)]) (N := ["meetings", "pair", "slopes", "here", "there", "spare", "slope", "before"]) (sc := defScope s_is_gap) (by decide +kernel)) (fun _ _ _ _ _ => (pg_tup (by rfl) (pgs_cons (pg_name (i := 5) sc_is_gap.nd rfl (Or.inl rfl)) (pgs_cons (pg_name (i := 6) sc_is_gap.nd rfl (Or.inl rfl)) pgs_nil)))) (fun _ _ _ _ _ => pts_nil) (fun _ _ _ _ _ => (pe_op op_add (pv 5) (pv 6))))
 (pss_cons (ps_set (i := 7) sc_is_gap.nd rfl (Or.inl rfl) (pe_callB (cr_any rfl) (by rfl) T.n_any (by decide +kernel) (pa_cons (pe_lc (own := [("spare", 5), ("slope", 6)]) (g := (gTup K 2 (gCons (gName 5) (gCons (gName 6) gNil)))) (by rfl) sc_is_gap.nd (RZ.pi_zipA (by rfl) T.n_zip (pa_cons (pv 3) (pa_cons (pv 2) pa_nil))) (blkOk_by (own := [("spare", 5), ("slope", 6)]) (N := ["meetings", "pair", "slopes", "here", "there", "spare", "slope", "before"]) (sc := defScope s_is_gap) (by decide +kernel)) (fun _ _ _ _ _ => (pg_tup (by rfl) (pgs_cons (pg_name (i := 5) sc_is_gap.nd rfl (Or.inl rfl)) (pgs_cons (pg_name (i := 6) sc_is_gap.nd rfl (Or.inl rfl)) pgs_nil)))) (fun _ _ _ _ _ => pts_nil) (fun _ _ _ _ _ => (pe_chain op_lt op_le (pv 5) pe_int (pv 6)))) pa_nil)))
 (pss_one (ps_ret (pe_and (pv 7) (pe_one (pe_callB (cr_any rfl) (by rfl) T.n_any (by decide +kernel) (pa_cons (pe_lc (own := [("spare", 5), ("slope", 6)]) (g := (gTup K 2 (gCons (gName 5) (gCons (gName 6) gNil)))) (by rfl) sc_is_gap.nd (RZ.pi_zipA (by rfl) T.n_zip (pa_cons (pv 4) (pa_cons (pv 2) pa_nil))) (blkOk_by (own := [("spare", 5), ("slope", 6)]) (N := ["meetings", "pair", "slopes", "here", "there", "spare", "slope", "before"]) (sc := defScope s_is_gap) (by decide +kernel)) (fun _ _ _ _ _ => (pg_tup (by rfl) (pgs_cons (pg_name (i := 5) sc_is_gap.nd rfl (Or.inl rfl)) (pgs_cons (pg_name (i := 6) sc_is_gap.nd rfl (Or.inl rfl)) pgs_nil)))) (fun _ _ _ _ _ => pts_nil) (fun _ _ _ _ _ => (pe_and (pe_cmpR op_lt (pv 5) pe_int (nomark _)) (pe_one (pe_cmpR op_le (pv 6) pe_int (nomark _)))))) pa_nil))))))))))), ?_⟩
    unfold gapB at k
    refine ⟨_, rfl, m, dx, _, rfl, h1, rfl, _, rfl, m, p, o, b, has, q0, st, e, qa', q, rfl, M, hq, bq, _, rfl, ?_⟩
    cases hon : onLine p o q with
    | false =>
      rw [hon] at k
      exact if_so rfl (k H (Ex.refl _))
    | true =>
      rw [hon] at k
      refine if_no rfl ?_
      refine ⟨_, rfl, m, dx, _, rfl, h1, rfl, ?_⟩
      refine ⟨m, dx, la, qa, sa, _, st, b, rfl, h1, mF_bnd .., rfl, h4, h6, fun l2 H1 f1 e1 hl2 => ?_⟩
      refine ⟨_, rfl, m, dx, _, rfl, e1 _ _ h1, rfl, _, rfl, ?_⟩
      refine ⟨m, qa', dx, _, q, b, rfl, e1 _ _ h1, mF_bnd .., e1 _ _ hq, fun l1 H2 f2 e2 hl1 => ?_⟩
      have hl2' := e2 _ _ hl2
      have hlen := Mt.len_eq b q st
      have hz : (Mt.spares b q).length ≤ 1000 := by
        unfold Mt.spares
        cases b.high <;> cases b.rounds <;> simp
      dsimp only
      have hzl : (Mt.rows b q st).length = (Mt.slopes b st).length := by
        unfold Mt.rows
        rw [List.length_zip, hlen, Nat.min_self]
      refine q_asgL (xs := ((Mt.rows b q st).map fun r => r.1 + r.2).map V.int) (by
        rw [List.map_map]
        refine el_zipI (ns := Mt.spares b q) (ms := Mt.slopes b st) (V.int ∘ fun r => r.1 + r.2) (ea_cons (ev_var rfl) (ea_cons (ev_var rfl) ea_nil)) (SqL.of hl1) (SqL.of hl2') hlen hz (fun x y H3 e3 hm T hT Q q => ?_)
        exact ⟨T, _, rfl, SqT.of upd_same, rfl, _, _, rfl, _, _, rfl, rfl, q _ _ (Ex.new hT) rfl (ev_op (ev_var rfl) (ev_var rfl) rv_I0)⟩) fun l3 H3 hl3 e3 hL3 => ?_
      refine q_asg (v := .bl ((Mt.rows b q st).any fun r => decide (r.1 < 0) && decide (0 ≤ r.2))) (by
        refine ev_anyZ (ns := Mt.spares b q) (ms := Mt.slopes b st) (fun r => decide (r.1 < 0) && decide (0 ≤ r.2)) (ea_cons (ev_var rfl) (ea_cons (ev_var rfl) ea_nil)) (SqL.of (e3 _ _ hl1)) (SqL.of (e3 _ _ hl2')) hlen hz (fun x y H4 e4 hm T hT Q q => ?_)
        exact ⟨T, _, rfl, SqT.of upd_same, rfl, _, _, rfl, _, _, rfl, rfl, q _ _ (Ex.new hT) rfl (ev_chain (ev_var rfl) ev_c (ev_var rfl) rv_I0 rv_I0)⟩) fun H4 e4 => ?_
      have en := (e1.trans e2).trans (e3.trans e4)
      refine ⟨_, rfl, _, rfl, ?_⟩
      cases hb1 : (Mt.rows b q st).any fun r => decide (r.1 < 0) && decide (0 ≤ r.2) with
      | false =>
        rw [hb1] at k
        exact if_no rfl (k H4 en)
      | true =>
        rw [hb1] at k
        refine if_so rfl ?_
        have hm : ((Mt.rows b q st).any fun r => decide (r.1 + r.2 < 0) && decide (r.2 ≤ 0)) = (((Mt.rows b q st).map fun r => r.1 + r.2).zip (Mt.slopes b st)).any fun r => decide (r.1 < 0) && decide (r.2 ≤ 0) := by
          unfold Mt.rows
          rw [zip_there, List.any_map]
          rfl
        rw [hm] at k
        refine ev_anyZ (K := K) (ns := List.map (fun r : Int × Int => r.1 + r.2) (Mt.rows b q st)) (ms := Mt.slopes b st) (fun r => decide (r.1 < 0) && decide (r.2 ≤ 0)) (ea_cons (ev_var rfl) (ea_cons (ev_var rfl) ea_nil)) (SqL.of (e4 _ _ hL3)) (SqL.of (e4 _ _ (e3 _ _ hl2'))) (by rw [List.length_map]; exact hzl) (by rw [List.length_map, hzl, ← hlen]; exact hz) (fun x y H5 e5 hm T hT Q q => ?_) H4 (Ex.refl _) _ fun H5 e5 => k H5 (en.trans e5)
        exact ⟨T, _, rfl, SqT.of upd_same, rfl, _, _, rfl, _, _, rfl, rfl, q _ _ (Ex.new hT) rfl (ev_andV (ev_op (ev_var rfl) ev_c rv_I0) fun _ => ev_op (ev_var rfl) ev_c rv_I0)⟩
end
end My
set_option maxHeartbeats 4000000
namespace My
open PySem L2 Lf Evl StX
/-- more facts of the text: the type of a Meetings object -/
structure Tx2 (K : PySem.W.Frag) (FE : Addr) : Prop where
  ha : PySem.W.findIn K (.ref FE) "__class__" = some (some (.builtin "object.__class__"))
  hn : PySem.W.specialIn K (.builtin "object.__class__") "__get__" = some (some (.builtin "getset_descriptor.__get__"))
  htk : PySem.W.takesIn K (.builtin "object.__class__") = some true
  hm : PySem.W.mroIn K FE (.type "object") = some true
  no : PySem.W.kitOne K (.type "NoneType") (.ref FE) = some false ∧ PySem.W.kitOne K (.type "int") (.ref FE) = some false ∧ PySem.W.kitOne K (.type "str") (.ref FE) = some false ∧ PySem.W.kitOne K (.type "list") (.ref FE) = some false ∧ PySem.W.kitOne K (.type "tuple") (.ref FE) = some false
section
variable {K : PySem.W.Frag} {σ : L2.St} {H : Hp} {te tl : TE} {vs : List Nat} {xs : List V}
/-- [f(x) for x in t], t a new tuple -/
theorem el_mapU {j : Nat} (f : V → V) (h : EvU tl σ H xs) (hz : xs.length ≤ 1000) (hw : ∀ x, wipe ((wipe σ vs).set j (some x)) vs = wipe σ vs)
    (he : ∀ x ∈ xs, ∀ H1, Ex H H1 → Ev te ((wipe σ vs).set j (some x)) H1 (f x)) :
    EvL (tLc (iTup K tl) (gName j) tYes te vs) σ H (xs.map f) := fun H0 e0 Q q => h H0 e0 _ fun a H1 ha e1 hT =>
  ⟨a, rfl, ⟨xs, SqT.of hT⟩, fun D hD => lc_tup (K := K) (a := a) (xs := xs) (fun i H' => Ex H1 H' ∧ H' D = some (.lst ((xs.take i).map f))) ⟨Ex.new hD, upd_same⟩ (fun i H' _ ⟨e2, _⟩ => SqT.of (e2 _ _ hT))
    (fun i x H' hx ⟨e2, hL⟩ => ⟨hw x, (he x (List.mem_of_getElem? hx) H' (e0.trans (e1.trans e2))) H' (Ex.refl _) _ fun H5 e5 => ⟨_, e5 _ _ hL, (by
      rw [List.length_map, List.length_take]
      exact Nat.lt_of_le_of_lt (Nat.min_le_left _ _) (Nat.lt_of_lt_of_le (Nat.lt_of_lt_of_le (List.getElem?_eq_some_iff.mp hx).1 hz) (show 1000 ≤ sizeLine by decide))), Ex.mut (e2.trans e5) hD, (by
      rw [upd_same, take_more hx, List.map_append]
      rfl)⟩⟩)
    (fun H' ⟨e2, hL⟩ => q D H' (fresh_back e1 hD) (e1.trans e2) (by rw [hL, List.take_length]))⟩
theorem eu_sl {tl th : TO} {a : Addr} {lo hi : Option Int} (h : Ev te σ H (.ref a)) (h1 : EvO tl σ H lo) (h2 : EvO th σ H hi) (hs : SqT K H a xs) (hn : ¬ (HT.sIx xs.length 0 lo = 0 ∧ HT.sIx xs.length xs.length hi = xs.length)) : EvU (tSl (rSlT K) te tl th) σ H (cutV xs lo hi) := fun H1 e _ q =>
  h H1 e _ fun H2 e2 => h1 H2 (e.trans e2) _ fun H3 e3 => h2 H3 ((e.trans e2).trans e3) _ fun H4 e4 => ⟨a, xs, rfl, ex_t (((e.trans e2).trans e3).trans e4) hs, hn, fun p hp =>
    q p _ (fresh_back ((e2.trans e3).trans e4) hp) (((e2.trans e3).trans e4).trans (Ex.new hp)) upd_same⟩
end
theorem cut1 (x y : V) (r : List V) : cutV (x :: y :: r) (some 1) none = y :: r := by
  unfold cutV HT.sIx
  simp
theorem cut1n (x y : V) (r : List V) : ¬ (HT.sIx (x :: y :: r).length 0 (some 1) = 0 ∧ HT.sIx (x :: y :: r).length (x :: y :: r).length none = (x :: y :: r).length) := by
  unfold HT.sIx
  simp
theorem at0 (x : V) (r : List V) : atI (x :: r) 0 = some x := by
  unfold atI ixN
  simp
theorem at1 (x y : V) (r : List V) : atI (x :: y :: r) 1 = some y := by
  unfold atI ixN
  rw [if_pos (by omega), if_pos (by simp only [List.length_cons]; omega)]
  rfl
theorem judge_long (p o : Int × Int) (b : Mt.Bnd) (st : Int × Int) (near : Option (Int × Int)) (x y z w : V) (r : List V) : judge p o b st near (x :: y :: z :: w :: r) = false := by
  cases x <;> cases y <;> first | rfl | (cases z <;> rfl)
/-! ### what is judged -/
def FlB : V → Prop
  | .non => True
  | .bl _ => True
  | .int i => Bd 9000 i
  | .str _ => True
  | _ => False
def tyN : V → String
  | .non => "NoneType"
  | .bl _ => "bool"
  | .int _ => "int"
  | _ => "str"
theorem FlB.kd {v : V} (h : FlB v) (H : Hp) : Kd H v (tyN v) := by
  cases v with
  | non => exact .non
  | bl b => exact .bl b
  | int i => exact .int i
  | str s => exact .str s
  | _ => exact h.elim
/-- a value that is judged: a tuple of flat items, or no tuple -/
def PV (H : Hp) (v : V) : Option (List V) → Prop
  | some xs => ∃ a, v = .ref a ∧ H a = some (.tup xs) ∧ (∀ x ∈ xs, FlB x) ∧ xs.length ≤ 4
  | none => ∃ t, Kd H v t ∧ (t == "tuple") = false
theorem PV.mono {H H' : Hp} {v : V} (e : Ex H H') : ∀ {ov : Option (List V)}, PV H v ov → PV H' v ov
  | some xs, ⟨a, h1, h2, h3⟩ => ⟨a, h1, e _ _ h2, h3⟩
  | none, ⟨t, k, n⟩ => ⟨t, k.same e, n⟩
def judgeO (p o : Int × Int) (b : Mt.Bnd) (st : Int × Int) (near : Option (Int × Int)) : Option (List V) → Bool
  | some xs => judge p o b st near xs
  | none => false
def spJudge (C : Addr) (CA : Addr) : Sp := fun vs H Q E =>
  (∃ m p o b has q0 st e v ov, vs = [.ref m, v] ∧ MetAt C H m p o b has q0 st e ∧ PV H v ov ∧ ∀ H', Ex H H' → Q (.bl (judgeO p o b st (Mt.nearest has q0 st e) ov)) H') ∨
  (∃ mv v t, vs = [mv, v] ∧ Kd H mv t ∧ t ∈ ["NoneType", "int", "str", "list", "tuple"] ∧ E (.ref CA) none H)
theorem kd_str {H : Hp} {v : V} {t : String} (k : Kd H v t) : kitB t "str" = some (t == "str") := by
  cases k <;> (first | rfl | decide +kernel)
section
variable {P : Program} {w : World} {K : PySem.W.Frag} {mg : Str → Option Value} {base : Heap} {CN fI CA FE : Addr}
theorem MetAt.ty {H : Hp} {m : Addr} {p o : Int × Int} {b : Mt.Bnd} {has : Bool} {q0 st : Int × Int} {e : Mt.Ends} (T : Txt P K mg CN fI CA FE) (T2 : Tx2 K FE) (M : MetAt FE H m p o b has q0 st e) : TyX K H (.ref m) (.ref FE) := by
  obtain ⟨dx, pa, oa, la, qa, sa, ea, h1, _⟩ := M.at_
  exact .base (.ins h1 T.c_Met T2.ha T2.hn T2.htk T2.hm)
theorem kit_same (C : Addr) : PySem.W.kitOne K (.ref C) (.ref C) = some true := by
  unfold PySem.W.kitOne
  rw [if_pos]
  simp
theorem ok_judge (T : Txt P K mg CN fI CA FE) (T2 : Tx2 K FE) (D : Df K mg "is_meetings_paper" s_is_meetings_paper) (D_is_number : DefOk P w K mg base CX0 1 "is_number" ["value"] spIsNumber) (D_is_modulus : DefOk P w K mg base CX0 1 "is_modulus" ["meetings", "value"] (spMod FE))
    (D_is_gap : DefOk P w K mg base CX0 2 "is_gap" ["meetings", "pair"] (spGap FE)) (D_Met_nearest : PropOk P w K mg base CX0 3 FE "nearest" ["self"] (spNearest FE)) : DefOk P w K mg base (L2.CX P w) 5 "is_meetings_paper" ["meetings", "value"] (spJudge FE CA) := by
  refine D.okX sc_is_meetings_paper (fun _ _ _ _ _ _ us hl => match us, hl with | [_, _], _ => rfl) (fun vs H Q E h => ?_) (fun f cdv A outer s H vs Q E hr h => ?_)
  · rcases h with ⟨_, _, _, _, _, _, _, _, _, _, rfl, _⟩ | ⟨_, _, _, rfl, _⟩
    · rfl
    · rfl
  · refine ⟨_, (pss_cons (ps_if (pt_not (pt_val (pe_callB call_isi (by rfl) T.n_isinstance (by decide +kernel) (pa_cons (pv 0) (pa_cons (pe_glob (v := V.ref FE) (by rfl) T.g_Meetings rfl) pa_nil)))))
 (pss_one (ps_raise rfl (takes_of rfl rfl rfl rfl) (pmk_own PySem.F.excBase_ValueError T.xA T.gA T.kA (raises_own T.bA T.tA) rfl)))
 pss_nil)
 (pss_cons (ps_if (PW.pt (pw_or (pt_not (pt_val (pe_callB call_isi (by rfl) T.n_isinstance (by decide +kernel) (pa_cons (pv 1) (pa_cons (pe_bltn (v := .ty "tuple") (by rfl) T.n_tuple (by decide +kernel) rfl) pa_nil))))) (pw_or (pt_cmpR op_lt (pe_callB call_len_seq (by rfl) T.n_len (by decide +kernel) (pa_cons (pv 1) pa_nil)) pe_int (nomark _)) (pw_or1 (pt_not (pt_val (pe_callB call_isi (by rfl) T.n_isinstance (by decide +kernel) (pa_cons (pe_ix ix_tup (pv 1) pe_int (fun _ _ => rfl)) (pa_cons (pe_bltn (v := .ty "str") (by rfl) T.n_str (by decide +kernel) rfl) pa_nil)))))))))
 (pss_one (ps_ret pe_bl))
 pss_nil)
 (pss_cons (ps_if (pt_not (pt_val (pe_callB (cr_all rfl) (by rfl) T.n_all (by decide +kernel) (pa_cons (pe_lc (own := [("one", 2)]) (by rfl) sc_is_meetings_paper.nd (pi_tup (pe_slice sl_tup (pv 1) (po_some pe_int) po_none)) (blkOk_by (own := [("one", 2)]) (N := ["meetings", "value", "one"]) (sc := defScope s_is_meetings_paper) (by decide +kernel)) (fun _ _ _ _ _ => (pg_name (i := 2) sc_is_meetings_paper.nd rfl (Or.inl rfl))) (fun _ _ _ _ _ => pts_nil) (fun _ _ _ _ _ => (pe_callD D_is_number (hr.mono (by decide)) pass0 (pa_cons (pv 2) pa_nil)))) pa_nil))))
 (pss_one (ps_ret pe_bl))
 pss_nil)
 (pss_cons (ps_if (pt_cmpR op_eq (pe_callB call_len_seq (by rfl) T.n_len (by decide +kernel) (pa_cons (pv 1) pa_nil)) pe_int (nomark _))
 (pss_one (ps_ret (pe_and (pe_cmpR op_eq (pe_ix ix_tup (pv 1) pe_int (fun _ _ => rfl)) (pe_gStr (by rfl) T.g_MODULUS) (nomark _)) (pe_one (pe_callD D_is_modulus (hr.mono (by decide)) pass0 (pa_cons (pv 0) (pa_cons (pe_ix ix_tup (pv 1) pe_int (fun _ _ => rfl)) pa_nil)))))))
 pss_nil)
 (pss_cons (ps_if (pt_cmpR op_ne (pe_callB call_len_seq (by rfl) T.n_len (by decide +kernel) (pa_cons (pv 1) pa_nil)) pe_int (nomark _))
 (pss_one (ps_ret pe_bl))
 pss_nil)
 (pss_cons (ps_if (pt_cmpR op_eq (pe_ix ix_tup (pv 1) pe_int (fun _ _ => rfl)) (pe_gStr (by rfl) T.g_NEAREST) (nomark _))
 (pss_one (ps_ret (pe_cmpR (op_eqD hr.units) (pe_slice sl_tup (pv 1) (po_some pe_int) po_none) (pe_propD (pv 0) T.c_Met D_Met_nearest (hr.mono (by decide)) pass0) (nomark _))))
 pss_nil)
 (pss_one (ps_ret (pe_and (pe_cmpR op_eq (pe_ix ix_tup (pv 1) pe_int (fun _ _ => rfl)) (pe_gStr (by rfl) T.g_GAP) (nomark _)) (pe_one (pe_callD D_is_gap (hr.mono (by decide)) pass0 (pa_cons (pv 0) (pa_cons (pe_slice sl_tup (pv 1) (po_some pe_int) po_none) pa_nil))))))))))))), ?_⟩
    rcases h with ⟨m, p, o, b, has, q0, st, e, v, ov, rfl, M, hv, k⟩ | ⟨mv, v, t, rfl, kd, ht, k⟩
    · refine ⟨_, rfl, _, _, _, _, _, rfl, .own FE, M.ty T T2, kit_same FE, _, rfl, if_no rfl ?_⟩
      cases ov with
      | none =>
        obtain ⟨t, kd, ht⟩ := hv
        refine ⟨_, rfl, _, _, _, _, _, rfl, .ty "tuple", kd.ty K, kit_ty kd.tuple_, _, rfl, ?_⟩
        rw [ht]
        exact if_so rfl (if_so rfl (k H (Ex.refl _)))
      | some xs =>
        obtain ⟨a, rfl, ha, hf, hl⟩ := hv
        refine ⟨_, rfl, _, _, _, _, _, rfl, .ty "tuple", (Kd.tup ha).ty K, kit_ty (Kd.tup ha).tuple_, _, rfl, if_no rfl ?_⟩
        refine ⟨_, rfl, _, _, rfl, .inr (SqT.of ha), _, _, rfl, rfl, _, rfl, ?_⟩
        match xs, ha, hf, hl, k with
        | [], ha, hf, hl, k => exact if_so rfl (if_so rfl (k H (Ex.refl _)))
        | [x], ha, hf, hl, k =>
          refine if_so rfl (if_so rfl ?_)
          have e : judgeO p o b st (Mt.nearest has q0 st e) (some [x]) = false := by cases x <;> rfl
          rw [e] at k
          exact k H (Ex.refl _)
        | x :: y :: r, ha, hf, hl, k =>
          refine if_no (decide_eq_false (by simp; omega)) ?_
          have fx := hf x (List.mem_cons_self ..)
          refine ⟨_, rfl, _, _, _, _, rfl, rfl, SqT.of ha, at0 .., _, _, _, _, _, rfl, .ty "str", (fx.kd H).ty K, kit_ty (kd_str (fx.kd H)), _, rfl, ?_⟩
          by_cases hs : ∃ s, x = V.str s
          · obtain ⟨s, rfl⟩ := hs
            refine if_no rfl ?_
            have hall : ∀ (σ : L2.St) (H1 : Hp), σ[1]? = some (some (.ref a)) → Ex H H1 → σ.length = 3 → Ev (tCB (rAll K) (tCons (tLc (iTup K (tSl (rSlT K) (tVar 1) (tPart (tC (.int 1))) tNoPart)) (gName 2) tYes (tCallD spIsNumber E0 (tCons (tVar 2) tNil)) [2]) tNil)) σ H1 (.bl ((y :: r).all numV)) := by
              intro σ H1 hσ e1 hσl
              have h := ev_all (K := K) (bs := (y :: r).map numV) (te := tLc (iTup K (tSl (rSlT K) (tVar 1) (tPart (tC (.int 1))) tNoPart)) (gName 2) tYes (tCallD spIsNumber E0 (tCons (tVar 2) tNil)) [2]) (σ := σ) (H := H1) (by
                rw [List.map_map]
                have q := eu_sl (K := K) (te := tVar 1) (tl := tPart (tC (.int 1))) (th := tNoPart) (σ := σ) (H := H1) (ev_var hσ) (eo_some ev_c) eo_none (SqT.of (e1 _ _ ha)) (cut1n _ _ _)
                rw [cut1] at q
                refine el_mapU (V.bl ∘ numV) q (by simp at hl ⊢; omega) (fun x => ?_) (fun z hz H2 e2 H3 e3 Q q => ?_)
                · match σ, hσl with
                  | [_, _, _], _ => rfl
                · have fz := hf z (List.mem_cons_of_mem _ hz)
                  refine ⟨z, ?_, z, _, rfl, fz.kd _, q H3 (Ex.refl _)⟩
                  match σ, hσl with
                  | [_, _, _], _ => rfl)
              rw [List.all_map] at h
              exact h
            refine hall _ H rfl (Ex.refl _) rfl H (Ex.refl _) _ fun H1 e1 => ⟨_, rfl, ?_⟩
            have ha1 := e1 _ _ ha
            cases hn : (y :: r).all numV with
            | false =>
              refine if_so rfl ?_
              have e : judgeO p o b st (Mt.nearest has q0 st e) (some (.str s :: y :: r)) = false := by
                match r, y, hn with
                | [], .int i, hn => simp [numV] at hn
                | [], .non, _ => rfl
                | [], .bl _, _ => rfl
                | [], .str _, _ => rfl
                | [], .ref _, _ => rfl
                | [], .flt _, _ => rfl
                | [], .ty _, _ => rfl
                | [], .byt _, _ => rfl
                | [z], .int i, hn => cases z <;> first | rfl | simp [numV] at hn
                | [z], .non, _ => rfl
                | [z], .bl _, _ => rfl
                | [z], .str _, _ => rfl
                | [z], .ref _, _ => rfl
                | [z], .flt _, _ => rfl
                | [z], .ty _, _ => rfl
                | [z], .byt _, _ => rfl
                | _ :: _ :: _, _, _ => exact judge_long ..
              rw [e] at k
              exact k H1 e1
            | true =>
              refine if_no rfl ?_
              match r, y, hn, ha1, hf, k with
              | [], .int n, hn, ha1, hf, k =>
                refine ⟨_, rfl, _, _, rfl, .inr (SqT.of ha1), rfl, _, rfl, if_so rfl ?_⟩
                refine ⟨_, rfl, _, _, _, _, rfl, rfl, SqT.of ha1, rfl, rfl, _, rfl, ?_⟩
                have je : judgeO p o b st (Mt.nearest has q0 st e) (some [.str s, .int n]) = (decide (s = ("modulus" : Str)) && modB p o n) := rfl
                rw [je] at k
                by_cases c : s = ("modulus" : Str)
                · rw [decide_eq_true c] at k
                  refine if_so (decide_eq_true (by rw [c])) ⟨_, rfl, _, rfl, _, _, _, _, rfl, rfl, SqT.of ha1, rfl, m, p, o, b, has, q0, st, e, n, rfl, M.mono e1, k H1 e1⟩
                · rw [decide_eq_false c] at k
                  exact if_no (decide_eq_false (fun z => c (by cases z; rfl))) (k H1 e1)
              | [.int n2], .int n, hn, ha1, hf, k =>
                refine ⟨_, rfl, _, _, rfl, .inr (SqT.of ha1), rfl, _, rfl, if_no rfl ?_⟩
                refine ⟨_, rfl, _, _, rfl, .inr (SqT.of ha1), rfl, _, rfl, if_no rfl ?_⟩
                refine ⟨_, rfl, _, _, _, _, rfl, rfl, SqT.of ha1, rfl, rfl, _, rfl, ?_⟩
                have je : judgeO p o b st (Mt.nearest has q0 st e) (some [.str s, .int n, .int n2]) = if s = ("nearest" : Str) then decide (Mt.nearest has q0 st e = some (n, n2)) else decide (s = ("gap" : Str)) && gapB p o b st (n, n2) := rfl
                rw [je] at k
                have bn : Bd2 9000 (n, n2) := ⟨hf (.int n) (by simp), hf (.int n2) (by simp)⟩
                have M1 := M.mono e1
                obtain ⟨dx, _, _, _, _, _, _, hm1, _⟩ := M1.at_
                by_cases c : s = ("nearest" : Str)
                · rw [if_pos c] at k
                  refine if_so (decide_eq_true (by rw [c])) ?_
                  refine ⟨_, rfl, _, rfl, a, _, rfl, SqT.of ha1, cut1n _ _ _, fun t ht => ?_⟩
                  rw [cut1]
                  have et := Ex.new (o := HO.tup [.int n, .int n2]) ht
                  have ht' : upd H1 t (HO.tup [.int n, .int n2]) t = some (.tup [.int n, .int n2]) := upd_same
                  have dpt : ∀ {H2 : Hp}, H2 t = some (.tup [.int n, .int n2]) → Dp K H2 (.ref t) (.tuple [.int n, .int n2]) := fun z => .tup (SqT.of z) (.cons (.int n) (.cons (.int n2) .nil))
                  refine ⟨_, rfl, m, dx, _, rfl, et _ _ hm1, m, p, o, b, has, q0, st, e, rfl, M1.mono et, fun hn0 => ?_, fun q hq r2 H2 e2 hr2 => ?_⟩
                  · refine ⟨_, _, dpt ht', .non, rfl, rfl, ?_⟩
                    rw [hn0] at k
                    exact k _ (e1.trans et)
                  · refine ⟨_, .tuple [.int q.1, .int q.2], dpt (e2 _ _ ht'), .tup (SqT.of hr2) (.cons (.int _) (.cons (.int _) .nil)), rfl, rfl, ?_⟩
                    rw [hq] at k
                    have je2 : PyData.eqv (.tuple [.int n, .int n2]) (.tuple [.int q.1, .int q.2]) = decide (some q = some (n, n2)) := by
                      show ((n == q.1) && ((n2 == q.2) && true)) = _
                      rw [Bool.eq_iff_iff]
                      simp only [Bool.and_true, Bool.and_eq_true, beq_iff_eq, decide_eq_true_eq, Option.some.injEq]
                      constructor
                      · rintro ⟨rfl, rfl⟩; rfl
                      · rintro rfl; exact ⟨rfl, rfl⟩
                    rw [je2]
                    exact k _ ((e1.trans et).trans e2)
                · rw [if_neg c] at k
                  refine if_no (decide_eq_false (fun z => c (by cases z; rfl))) ?_
                  refine ⟨_, rfl, _, _, _, _, rfl, rfl, SqT.of ha1, rfl, rfl, _, rfl, ?_⟩
                  by_cases c2 : s = ("gap" : Str)
                  · rw [decide_eq_true c2] at k
                    refine if_so (decide_eq_true (by rw [c2])) ?_
                    refine ⟨_, rfl, _, rfl, _, rfl, a, _, rfl, SqT.of ha1, cut1n _ _ _, fun t ht => ?_⟩
                    rw [cut1]
                    have et := Ex.new (o := HO.tup [.int n, .int n2]) ht
                    exact ⟨m, p, o, b, has, q0, st, e, t, (n, n2), rfl, M1.mono et, upd_same, bn, fun H' e' => k H' ((e1.trans et).trans e')⟩
                  · rw [decide_eq_false c2] at k
                    exact if_no (decide_eq_false (fun z => c2 (by cases z; rfl))) (k H1 e1)
              | z :: w2 :: r2, y, hn, ha1, hf, k =>
                have hlen : ((((V.str s :: y :: z :: w2 :: r2).length : Nat) : Int)) ≠ 2 := by simp only [List.length_cons]; omega
                have hlen3 : ((((V.str s :: y :: z :: w2 :: r2).length : Nat) : Int)) ≠ 3 := by simp only [List.length_cons]; omega
                refine ⟨_, rfl, _, _, rfl, .inr (SqT.of ha1), rfl, _, rfl, if_no (eqi_f hlen) ?_⟩
                refine ⟨_, rfl, _, _, rfl, .inr (SqT.of ha1), rfl, _, rfl, if_so (nei_t hlen3) ?_⟩
                have e : judgeO p o b st (Mt.nearest has q0 st e) (some (V.str s :: y :: z :: w2 :: r2)) = false := judge_long ..
                rw [e] at k
                exact k H1 e1
              | [.non], .int _, hn, _, _, _ => cases hn
              | [.bl _], .int _, hn, _, _, _ => cases hn
              | [.str _], .int _, hn, _, _, _ => cases hn
              | [.byt _], .int _, hn, _, _, _ => cases hn
              | [.flt _], .int _, hn, _, _, _ => cases hn
              | [.ref _], .int _, hn, _, _, _ => cases hn
              | [.ty _], .int _, hn, _, _, _ => cases hn
              | _, .non, hn, _, _, _ => cases hn
              | _, .bl _, hn, _, _, _ => cases hn
              | _, .str _, hn, _, _, _ => cases hn
              | _, .byt _, hn, _, _, _ => cases hn
              | _, .flt _, hn, _, _, _ => cases hn
              | _, .ref _, hn, _, _, _ => cases hn
              | _, .ty _, hn, _, _, _ => cases hn
          · have e1 : (tyN x == "str") = false := by
              cases x <;> first | rfl | exact absurd ⟨_, rfl⟩ hs | exact fx.elim
            rw [e1]
            refine if_so rfl ?_
            have e : judgeO p o b st (Mt.nearest has q0 st e) (some (x :: y :: r)) = false := by
              cases x <;> first | rfl | exact absurd ⟨_, rfl⟩ hs
            rw [e] at k
            exact k H (Ex.refl _)
    · have hk : PySem.W.kitOne K (.type t) (.ref FE) = some false := by
        obtain ⟨a1, a2, a3, a4, a5⟩ := T2.no
        simp only [List.mem_cons, List.not_mem_nil, or_false] at ht
        rcases ht with rfl | rfl | rfl | rfl | rfl <;> assumption
      refine ⟨_, rfl, _, _, _, _, _, rfl, .own FE, kd.ty K, hk, _, rfl, if_so rfl ?_⟩
      exact k
end
end My
set_option maxHeartbeats 4000000
namespace My
open PySem L2 Lf Evl StX
theorem ite2 {c : Bool} {A B : Prop} (h1 : c = true → A) (h2 : c = false → B) : if c = true then A else B := by
  cases c with
  | true => exact if_so rfl (h1 rfl)
  | false => exact if_no rfl (h2 rfl)
abbrev s_law_dice : Stmt := top 27
theorem sc_law_dice : FnScope ["_law_cell", "_law_number"] ["_law_cell"] (defScope s_law_dice) := ⟨rfl, rfl, rfl, by decide +kernel, rfl, by decide +kernel, by decide +kernel⟩
abbrev s_law_next : Stmt := top 28
theorem sc_law_next : FnScope ["_law_dice_here", "_law_many", "_law_found", "_law_mixed"] ["_law_dice_here", "_law_many"] (defScope s_law_next) := ⟨rfl, rfl, rfl, by decide +kernel, rfl, by decide +kernel, by decide +kernel⟩
abbrev s_law_cells : Stmt := top 29
theorem sc_law_cells : FnScope ["_law_script", "_law_most"] ["_law_script", "_law_most"] (defScope s_law_cells) := ⟨rfl, rfl, rfl, by decide +kernel, rfl, by decide +kernel, by decide +kernel⟩
abbrev s_law_great : Stmt := top 30
theorem sc_law_great : FnScope ["_law_dice_here", "_law_number", "_law_turn"] ["_law_dice_here"] (defScope s_law_great) := ⟨rfl, rfl, rfl, by decide +kernel, rfl, by decide +kernel, by decide +kernel⟩
abbrev s_law_whole : Stmt := top 31
theorem sc_law_whole : FnScope ["_law_dice_here", "_law_way"] ["_law_dice_here"] (defScope s_law_whole) := ⟨rfl, rfl, rfl, by decide +kernel, rfl, by decide +kernel, by decide +kernel⟩
abbrev s_law_is_count : Stmt := top 38
theorem sc_law_is_count : FnScope ["_law_value"] ["_law_value"] (defScope s_law_is_count) := ⟨rfl, rfl, rfl, by decide +kernel, rfl, by decide +kernel, by decide +kernel⟩
local macro_rules | `(tactic| walk_at "rd") => `(tactic| repeat (first | refine ⟨_, rfl, ?_⟩ | refine ⟨_, _, rfl, rfl, ?_⟩ | refine ⟨_, _, rfl, ?_⟩ | refine Or.inl ⟨_, rfl, ?_⟩ | refine Or.inr ⟨_, rfl, ?_⟩))
/-- the three ints of a die -/
def DiceL (xs : List V) : Prop := ∃ a b c : Int, xs = [.int a, .int b, .int c] ∧ -1099511627776 < b ∧ b < 1099511627776
def spDice : Sp := fun vs H Q _ => ∃ c : Int, vs = [.int c] ∧ ∀ p xs, H p = none → DiceL xs → Q (.ref p) (upd H p (.lst xs))
def spNext : Sp := fun vs H Q _ => ∃ (d : Addr) (m : Int) (xs : List V), vs = [.ref d, .int m] ∧ H d = some (.lst xs) ∧ DiceL xs ∧ 0 < m ∧ m < 1073741824 ∧
  ∀ r ys, 0 ≤ r → r < m → DiceL ys → Q (.int r) (upd H d (.lst ys))
/-- a draw from the die d whose value is less than b in size -/
def spDraw (b : Int) : Sp := fun vs H Q _ => ∃ (d : Addr) (xs : List V), vs = [.ref d] ∧ H d = some (.lst xs) ∧ DiceL xs ∧ ∀ r ys, -b < r → r < b → DiceL ys → Q (.int r) (upd H d (.lst ys))
theorem cpow (j : Nat) (h : (j : Int) ≤ 1000000) : CPow 10 (j : Int) := ⟨by omega, h, by decide⟩
def spCells (K : PySem.W.Frag) : Sp := fun vs H Q _ => ∃ (a : Addr) (ns : List Int), vs = [.ref a, .int 12] ∧ SqL K H a (ns.map V.int) ∧ ∀ p (cs : List Int) H', Ex H H' → H' p = some (.lst (cs.map V.int)) → Q (.ref p) H'
theorem upd_id {H : Hp} {a : Addr} {o : HO} (h : H a = some o) : upd H a o = H := by
  funext b
  unfold upd
  split
  · rename_i e
    rw [e, h]
  · rfl
section
variable {P : Program} {w : World} {K : PySem.W.Frag} {mg : Str → Option Value} {base : Heap} {CN fI CA FE : Addr}
theorem ok_law_dice (T : Txt P K mg CN fI CA FE) (D : Df K mg "_law_dice" s_law_dice) : DefOk P w K mg base CX0 1 "_law_dice" ["_law_cell"] spDice := by
  refine D.ok sc_law_dice (fun _ _ _ _ _ _ us hl => match us, hl with | [_], _ => rfl) (fun vs H Q E h => ?_) (fun f cdv A outer s H vs Q E hr h => ?_)
  · obtain ⟨v, rfl, _⟩ := h
    rfl
  · obtain ⟨c, rfl, q⟩ := h
    refine ⟨_, (pss_cons (ps_set (i := 1) sc_law_dice.nd rfl (Or.inl rfl) (pe_callTy call_int1 (by rfl) T.n_int (by decide +kernel) (pa_cons (pe_callB call_abs (by rfl) T.n_abs (by decide +kernel) (pa_cons (pv 0) pa_nil)) pa_nil)))
 (pss_one (ps_ret (pe_lst (pa_cons (pe_callB (call_max2 rfl) (by rfl) T.n_max (by decide +kernel) (pa_cons pe_int (pa_cons (pe_op op_sub (pv 1) (pe_op op_pow pe_int pe_int)) pa_nil))) (pa_cons (pe_op op_mod (pe_callTy call_int1 (by rfl) T.n_int (by decide +kernel) (pa_cons (pe_op op_add (pe_op op_mul (pv 1) pe_int) (pe_callTy call_int1 (by rfl) T.n_int (by decide +kernel) (pa_cons (pe_cmpR op_lt (pv 0) pe_int (nomark _)) pa_nil))) pa_nil)) pe_int) (pa_cons pe_int pa_nil))))))), ?_⟩
    walk_at "rd"
    refine ⟨cpow 18 (by decide), ?_⟩
    walk_at "rd"
    refine ⟨.inr ⟨by decide, by decide⟩, ?_⟩
    walk_at "rd"
    refine ⟨show (0 : Int) < 2147483629 by decide, ?_⟩
    refine ⟨show 3 ≤ sizeLine by decide, fun p hp => q p _ hp ⟨_, _, _, rfl, ?_, ?_⟩⟩
    · have h1 := Int.emod_nonneg ((if c < 0 then -c else c) * 2 + if decide (c < 0) = true then 1 else 0) (show (2147483629 : Int) ≠ 0 by decide)
      omega
    · have h1 := Int.emod_lt_of_pos ((if c < 0 then -c else c) * 2 + if decide (c < 0) = true then 1 else 0) (show (0 : Int) < 2147483629 by decide)
      omega
theorem ok_law_next (T : Txt P K mg CN fI CA FE) (D : Df K mg "_law_next" s_law_next) : DefOk P w K mg base CX0 1 "_law_next" ["_law_dice_here", "_law_many"] spNext := by
  refine D.ok sc_law_next (fun _ _ _ _ _ _ us hl => match us, hl with | [_, _], _ => rfl) (fun vs H Q E h => ?_) (fun f cdv A outer s H vs Q E hr h => ?_)
  · obtain ⟨d, m, xs, rfl, _⟩ := h
    rfl
  · obtain ⟨d, m, _, rfl, hd, ⟨a, b, c, rfl, hb1, hb2⟩, m0, m1, q⟩ := h
    refine ⟨_, (pss_cons (ps_if (pt_cmpR op_gt (pe_ix ix_list (pv 0) pe_int (fun _ _ => rfl)) pe_int (nomark _))
 (pss_cons (ps_set (i := 2) sc_law_next.nd rfl (Or.inl rfl) (pe_op op_mod (pe_callTy call_int1 (by rfl) T.n_int (by decide +kernel) (pa_cons (pe_ix ix_list (pv 0) pe_int (fun _ _ => rfl)) pa_nil)) (pv 1)))
 (pss_cons (ps_asg (pe_op op_fdiv (pe_ix ix_list (pv 0) pe_int (fun _ _ => rfl)) (pv 1)) (pg_sub (pv 0) pe_int set_list))
 (pss_one (ps_ret (pv 2)))))
 pss_nil)
 (pss_cons (ps_asg (pe_op op_add (pe_ix ix_list (pv 0) pe_int (fun _ _ => rfl)) pe_int) (pg_sub (pv 0) pe_int set_list))
 (pss_cons (ps_set (i := 3) sc_law_next.nd rfl (Or.inl rfl) (pe_op op_mod (pe_callTy call_int1 (by rfl) T.n_int (by decide +kernel) (pa_cons (pe_op op_mul (pe_op op_add (pe_ix ix_list (pv 0) pe_int (fun _ _ => rfl)) pe_int) (pe_op op_add (pe_op op_mul (pe_ix ix_list (pv 0) pe_int (fun _ _ => rfl)) pe_int) pe_int)) pa_nil)) pe_int))
 (pss_cons (ps_set (i := 3) sc_law_next.nd rfl (Or.inl rfl) (pe_op op_mod (pe_callTy call_int1 (by rfl) T.n_int (by decide +kernel) (pa_cons (pe_op op_add (pe_op op_mul (pv 3) (pv 3)) (pe_op op_mul (pe_ix ix_list (pv 0) pe_int (fun _ _ => rfl)) pe_int)) pa_nil)) pe_int))
 (pss_one (ps_ret (pe_op op_mod (pe_callTy call_int1 (by rfl) T.n_int (by decide +kernel) (pa_cons (pe_op op_fdiv (pv 3) pe_int) pa_nil)) (pv 1)))))))), ?_⟩
    refine ⟨_, rfl, _, _, _, _, rfl, rfl, SqL.of hd, rfl, _, _, rfl, rfl, _, rfl, ?_⟩
    cases ha : decide (0 < a) with
    | true =>
      refine if_so rfl ?_
      refine ⟨_, rfl, _, _, _, _, rfl, rfl, SqL.of hd, rfl, .inl ⟨_, rfl, _, rfl, _, _, rfl, rfl, m0, ?_⟩⟩
      refine ⟨_, rfl, _, _, _, _, rfl, rfl, SqL.of hd, rfl, _, rfl, _, _, rfl, rfl, ⟨m0, m1⟩, _, rfl, _, _, _, _, rfl, rfl, hd, rfl, ?_⟩
      exact ⟨_, rfl, q _ _ (Int.emod_nonneg _ (by omega)) (Int.emod_lt_of_pos _ m0) ⟨_, _, _, rfl, hb1, hb2⟩⟩
    | false =>
      refine if_no rfl ?_
      refine ⟨_, rfl, _, _, _, _, rfl, rfl, SqL.of hd, rfl, _, _, rfl, rfl, _, rfl, _, _, _, _, rfl, rfl, hd, rfl, ?_⟩
      have hd2 : upd H d (.lst ([V.int a, V.int b, V.int c].set 2 (V.int (c + 1)))) d = some (.lst [.int a, .int b, .int (c + 1)]) := upd_same
      refine ⟨_, rfl, _, _, _, _, rfl, rfl, SqL.of hd2, rfl, _, _, rfl, rfl, _, rfl, _, _, _, _, rfl, rfl, SqL.of hd2, rfl, _, _, rfl, rfl, .inr ⟨by decide, by decide⟩, _, _, rfl, rfl, _, _, rfl, rfl, .inl ⟨by omega, by omega⟩, .inl ⟨_, rfl, _, _, rfl, rfl, show (0 : Int) < 2147483587 by decide, ?_⟩⟩
      have e1 := Int.emod_nonneg ((b + 40503) * ((c + 1) * 69621 + 1013)) (show (2147483587 : Int) ≠ 0 by decide)
      have e2 := Int.emod_lt_of_pos ((b + 40503) * ((c + 1) * 69621 + 1013)) (show (0 : Int) < 2147483587 by decide)
      refine ⟨_, rfl, _, rfl, _, _, rfl, rfl, .inl ⟨by omega, by omega⟩, _, rfl, _, _, _, _, rfl, rfl, SqL.of hd2, rfl, _, _, rfl, rfl, .inr ⟨by decide, by decide⟩, _, _, rfl, rfl, .inl ⟨_, rfl, _, _, rfl, rfl, show (0 : Int) < 2147483579 by decide, ?_⟩⟩
      refine ⟨_, rfl, _, _, rfl, rfl, ⟨by decide, by decide⟩, .inl ⟨_, rfl, _, rfl, _, _, rfl, rfl, m0, ?_⟩⟩
      exact q _ _ (Int.emod_nonneg _ (by omega)) (Int.emod_lt_of_pos _ m0) ⟨_, _, _, rfl, hb1, hb2⟩
theorem ok_law_cells (T : Txt P K mg CN fI CA FE) (D : Df K mg "_law_cells" s_law_cells) : DefOk P w K mg base CX0 1 "_law_cells" ["_law_script", "_law_most"] (spCells K) := by
  refine D.ok sc_law_cells (fun _ _ _ _ _ _ us hl => match us, hl with | [_, _], _ => rfl) (fun vs H Q E h => ?_) (fun f cdv A outer s H vs Q E hr h => ?_)
  · obtain ⟨a, ns, rfl, _⟩ := h
    rfl
  · obtain ⟨a, ns, rfl, hS, q⟩ := h
    refine ⟨_, (pss_one (ps_ret (pe_ifExp (pt_cmpR op_gt (pe_callB call_len_seq (by rfl) T.n_len (by decide +kernel) (pa_cons (pv 0) pa_nil)) pe_int (nomark _)) (pe_callTy call_list_of (by rfl) T.n_list (by decide +kernel) (pa_cons (pe_slice sl_list (pv 0) po_none (po_some (pv 1))) pa_nil)) (pe_lst (pa_cons pe_int pa_nil))))), ?_⟩
    refine ⟨_, rfl, _, _, rfl, .inl hS, _, _, rfl, rfl, _, rfl, ?_⟩
    refine ite2 (fun _ => ?_) (fun _ => ?_)
    · refine ⟨_, rfl, _, rfl, _, rfl, _, _, rfl, hS, fun p hp => ?_⟩
      refine ⟨_, _, rfl, .inl (SqL.of upd_same), fun l hl => ?_⟩
      have e : ∃ cs : List Int, cutV (ns.map V.int) none (some 12) = cs.map V.int := ⟨(ns.drop _).take _, by unfold cutV; rw [List.map_take, List.map_drop]⟩
      obtain ⟨cs, ec⟩ := e
      refine q l cs _ ((Ex.new hp).trans (Ex.new hl)) ?_
      rw [upd_same, ec]
    · exact ⟨show 1 ≤ sizeLine by decide, fun p hp => q p [7] _ (Ex.new hp) upd_same⟩
theorem ok_law_great (T : Txt P K mg CN fI CA FE) (D : Df K mg "_law_great" s_law_great) (D_law_next : DefOk P w K mg base CX0 1 "_law_next" ["_law_dice_here", "_law_many"] spNext) : DefOk P w K mg base CX0 2 "_law_great" ["_law_dice_here"] (spDraw 1000000000000000000) := by
  refine D.ok sc_law_great (fun _ _ _ _ _ _ us hl => match us, hl with | [_], _ => rfl) (fun vs H Q E h => ?_) (fun f cdv A outer s H vs Q E hr h => ?_)
  · obtain ⟨d, xs, rfl, _⟩ := h
    rfl
  · obtain ⟨d, xs, rfl, hd, hx, q⟩ := h
    refine ⟨_, (pss_cons (ps_set (i := 1) sc_law_great.nd rfl (Or.inl rfl) pe_int)
 (pss_cons (ps_for PassesOwn.never rfl (pi_range1 (by rfl) T.n_range (pa_cons pe_int pa_nil)) (pg_name (i := 2) sc_law_great.nd rfl (Or.inl rfl))
 (pss_one (ps_set (i := 1) sc_law_great.nd rfl (Or.inl rfl) (pe_op op_add (pe_op op_mul (pv 1) (pe_op op_pow pe_int pe_int)) (pe_callD D_law_next (hr.mono (by decide)) pass0 (pa_cons (pv 0) (pa_cons (pe_op op_pow pe_int pe_int) pa_nil)))))))
 (pss_one (ps_ret (pe_ifExp (pt_cmpR op_eq (pe_callD D_law_next (hr.mono (by decide)) pass0 (pa_cons (pv 0) (pa_cons pe_int pa_nil))) pe_int (nomark _)) (pe_un un_neg (pv 1)) (pv 1)))))), ?_⟩
    refine ⟨3, rfl, by decide, by decide, for_range (lo := 0) (n := 3) (fun i σ H' => ∃ (v : Option V) (ys : List V) (z : Int), σ = [some (.ref d), some (.int z), v] ∧ H' = upd H d (.lst ys) ∧ DiceL ys ∧ 0 ≤ z ∧ z < 1000000 ^ i)
      ⟨none, xs, 0, rfl, (upd_id hd).symm, hx, by omega, by decide⟩ ?_ ?_⟩
    · rintro i σ H' hi ⟨v, ys, z, rfl, rfl, hy, z0, z1⟩
      refine ⟨_, rfl, _, _, rfl, rfl, cpow 6 (by decide), _, _, rfl, rfl, .inr ⟨by decide, by decide⟩, ?_⟩
      refine ⟨_, rfl, _, _, rfl, rfl, cpow 6 (by decide), ?_⟩
      refine ⟨d, _, ys, rfl, upd_same, hy, by decide, by decide, fun r zs r0 r1 hz => ?_⟩
      refine ⟨_, _, rfl, rfl, _, zs, _, rfl, upd_upd, hz, ?_, ?_⟩
      · have : (0 : Int) ≤ z * 10 ^ Int.toNat 6 := Int.mul_nonneg z0 (by decide)
        omega
      · have e : (10 : Int) ^ Int.toNat 6 = 1000000 := by decide
        have r1' : r < 1000000 := by rw [e] at r1; exact r1
        rw [e, Int.pow_succ]
        omega
    · rintro σ H' ⟨v, ys, z, rfl, rfl, hy, z0, z1⟩
      refine ⟨_, rfl, d, _, ys, rfl, upd_same, hy, by decide, by decide, fun r zs r0 r1 hz => ?_⟩
      refine ⟨rfl, _, rfl, ?_⟩
      have e : (1000000 : Int) ^ 3 = 1000000000000000000 := by decide
      rw [e] at z1
      refine ite2 (fun _ => ?_) (fun _ => ?_)
      · refine ⟨_, rfl, _, rfl, ?_⟩
        rw [upd_upd]
        exact q _ _ (by omega) (by omega) hz
      · refine ⟨_, rfl, ?_⟩
        rw [upd_upd]
        exact q _ _ (by omega) (by omega) hz
theorem ok_law_whole (T : Txt P K mg CN fI CA FE) (D : Df K mg "_law_whole" s_law_whole) (D_law_next : DefOk P w K mg base CX0 1 "_law_next" ["_law_dice_here", "_law_many"] spNext)
    (D_law_great : DefOk P w K mg base CX0 2 "_law_great" ["_law_dice_here"] (spDraw 1000000000000000000)) : DefOk P w K mg base CX0 3 "_law_whole" ["_law_dice_here"] (spDraw 1000000000000000000) := by
  refine D.ok sc_law_whole (fun _ _ _ _ _ _ us hl => match us, hl with | [_], _ => rfl) (fun vs H Q E h => ?_) (fun f cdv A outer s H vs Q E hr h => ?_)
  · obtain ⟨d, xs, rfl, _⟩ := h
    rfl
  · obtain ⟨d, xs, rfl, hd, hx, q⟩ := h
    refine ⟨_, (pss_cons (ps_set (i := 1) sc_law_whole.nd rfl (Or.inl rfl) (pe_callD D_law_next (hr.mono (by decide)) pass0 (pa_cons (pv 0) (pa_cons pe_int pa_nil))))
 (pss_cons (ps_if (pt_cmpR op_lt (pv 1) pe_int (nomark _))
 (pss_one (ps_ret (pe_op op_sub (pe_callD D_law_next (hr.mono (by decide)) pass0 (pa_cons (pv 0) (pa_cons pe_int pa_nil))) pe_int)))
 pss_nil)
 (pss_one (ps_ret (pe_ifExp (pt_cmpR op_eq (pv 1) pe_int (nomark _)) (pe_op op_sub (pe_callD D_law_next (hr.mono (by decide)) pass0 (pa_cons (pv 0) (pa_cons pe_int pa_nil))) pe_int) (pe_callD D_law_great (hr.mono (by decide)) pass0 (pa_cons (pv 0) pa_nil))))))), ?_⟩
    refine ⟨_, rfl, d, _, xs, rfl, hd, hx, by decide, by decide, fun r ys r0 r1 hy => ?_⟩
    refine ⟨_, rfl, _, _, rfl, rfl, _, rfl, ?_⟩
    refine ite2 (fun _ => ?_) (fun _ => ?_)
    · refine ⟨_, rfl, d, _, ys, rfl, upd_same, hy, by decide, by decide, fun r' zs r0' r1' hz => ?_⟩
      refine ⟨_, _, rfl, rfl, ?_⟩
      rw [upd_upd]
      exact q _ _ (by omega) (by omega) hz
    · refine ⟨_, rfl, rfl, _, rfl, ?_⟩
      refine ite2 (fun _ => ?_) (fun _ => ?_)
      · refine ⟨_, rfl, d, _, ys, rfl, upd_same, hy, by decide, by decide, fun r' zs r0' r1' hz => ?_⟩
        refine ⟨_, _, rfl, rfl, ?_⟩
        rw [upd_upd]
        exact q _ _ (by omega) (by omega) hz
      · refine ⟨_, rfl, d, ys, rfl, upd_same, hy, fun r' zs r0' r1' hz => ?_⟩
        rw [upd_upd]
        exact q _ _ r0' r1' hz
theorem ok_law_is_count (T : Txt P K mg CN fI CA FE) (D : Df K mg "_law_is_count" s_law_is_count) : DefOk P w K mg base CX0 1 "_law_is_count" ["_law_value"] spIsNumber := by
  refine D.ok sc_law_is_count (fun _ _ _ _ _ _ us hl => match us, hl with | [_], _ => rfl) (fun vs H Q E h => ?_) (fun f cdv A outer s H vs Q E hr h => ?_)
  · obtain ⟨v, t, rfl, _⟩ := h
    rfl
  · obtain ⟨v, t, rfl, kd, q⟩ := h
    refine ⟨_, (pss_one (ps_ret (pe_and (pe_callB call_isi (by rfl) T.n_isinstance (by decide +kernel) (pa_cons (pv 0) (pa_cons (pe_bltn (v := .ty "int") (by rfl) T.n_int (by decide +kernel) rfl) pa_nil))) (pe_one (pe_not (pe_callB call_isi (by rfl) T.n_isinstance (by decide +kernel) (pa_cons (pv 0) (pa_cons (pe_bltn (v := .ty "bool") (by rfl) T.n_bool (by decide +kernel) rfl) pa_nil)))))))), ?_⟩
    refine ⟨v, rfl, v, _, _, _, _, rfl, .ty "int", kd.ty K, kit_ty kd.int_, _, rfl, ?_⟩
    have e := kd.num_
    cases h : (numV v || t == "bool") with
    | true =>
      rw [h] at e
      refine if_so rfl ⟨v, rfl, v, _, _, _, _, rfl, .ty "bool", kd.ty K, kit_ty kd.bool_, _, rfl, ?_⟩
      rw [if_pos rfl] at e
      show Q (.bl (!(t == "bool"))) H
      rw [e]
      exact q
    | false =>
      rw [h] at e
      refine if_no rfl ?_
      rw [if_neg Bool.false_ne_true] at e
      rw [e]
      exact q
end

end My
set_option maxHeartbeats 4000000
namespace My
open PySem L2 Lf Evl StX
abbrev s_law_divisor : Stmt := top 33
theorem sc_law_divisor : FnScope ["_law_one_here", "_law_other", "_law_turn"] ["_law_one_here", "_law_other"] (defScope s_law_divisor) := ⟨rfl, rfl, rfl, by decide +kernel, rfl, by decide +kernel, by decide +kernel⟩
abbrev s_law_step : Stmt := top 34
theorem sc_law_step : FnScope ["_law_place", "_law_other", "_law_shared"] ["_law_place", "_law_other"] (defScope s_law_step) := ⟨rfl, rfl, rfl, by decide +kernel, rfl, by decide +kernel, by decide +kernel⟩
abbrev s_law_meets : Stmt := top 35
theorem sc_law_meets : FnScope ["_law_place", "_law_other", "_law_pair"] ["_law_place", "_law_other", "_law_pair"] (defScope s_law_meets) := ⟨rfl, rfl, rfl, by decide +kernel, rfl, by decide +kernel, by decide +kernel⟩
abbrev s_law_is_good : Stmt := top 36
theorem sc_law_is_good : FnScope ["_law_place", "_law_other", "_law_bounds_here", "_law_pair", "_law_low", "_law_high", "_law_first", "_law_rounds"] ["_law_place", "_law_other", "_law_bounds_here", "_law_pair"] (defScope s_law_is_good) := ⟨rfl, rfl, rfl, by decide +kernel, rfl, by decide +kernel, by decide +kernel⟩
abbrev s_law_moved : Stmt := top 40
theorem sc_law_moved : FnScope ["_law_pair", "_law_step_here", "_law_many"] ["_law_pair", "_law_step_here", "_law_many"] (defScope s_law_moved) := ⟨rfl, rfl, rfl, by decide +kernel, rfl, by decide +kernel, by decide +kernel⟩
abbrev s_law_is_nearest : Stmt := top 41
theorem sc_law_is_nearest : FnScope ["_law_place", "_law_other", "_law_bounds_here", "_law_pair", "_law_step_here", "_law_way"] ["_law_place", "_law_other", "_law_bounds_here", "_law_pair"] (defScope s_law_is_nearest) := ⟨rfl, rfl, rfl, by decide +kernel, rfl, by decide +kernel, by decide +kernel⟩
abbrev s_law_is_truth : Stmt := top 39
theorem sc_law_is_truth : FnScope ["_law_value", "_law_due"] ["_law_value", "_law_due"] (defScope s_law_is_truth) := ⟨rfl, rfl, rfl, by decide +kernel, rfl, by decide +kernel, by decide +kernel⟩
abbrev bndT (b : Mt.Bnd) : HO := .tup [.int b.low, oV b.high, .int b.first, oV b.rounds]
def goodB (p o : Int × Int) (b : Mt.Bnd) (q : Int × Int) : Bool :=
  onLine p o q && (decide (b.first ≤ q.1) && (decide (b.low ≤ q.2 - q.1) && ((match b.high with | none => true | some h => decide (q.2 - q.1 ≤ h)) && (match b.rounds with | none => true | some n => decide (q.2 < n)))))
def nearB (p o : Int × Int) (b : Mt.Bnd) (st q : Int × Int) : Bool := goodB p o b q && !goodB p o b (Mt.after q st (if 0 < Mt.lway st then -1 else 1))
theorem good_iff {p o : Int × Int} {b : Mt.Bnd} {q : Int × Int} : goodB p o b q = true ↔ Mt.good p o b q := by
  unfold goodB Mt.good onLine Mt.meets
  rw [Mt.keeps_iff]
  simp only [Bool.and_eq_true, decide_eq_true_eq]
  obtain ⟨lo, hi, fi, ro⟩ := b
  cases hi <;> cases ro <;> simp
theorem near_bool {p o : Int × Int} {b : Mt.Bnd} {st q : Int × Int} : nearB p o b st q = true ↔ Mt.isNear p o b st q := by
  unfold nearB Mt.isNear
  rw [Bool.and_eq_true, good_iff, Bool.not_eq_true', ← Bool.not_eq_true, good_iff]
def spDiv : Sp := fun vs H Q _ => ∃ x y : Int, vs = [.int x, .int y] ∧ Bd 90 x ∧ Bd 90 y ∧ Q (.int (Int.gcd x y : Int)) H
def spStep : Sp := fun vs H Q _ => ∃ (pa oa : Addr) (p o : Int × Int), vs = [.ref pa, .ref oa] ∧ H pa = some (tup2 p) ∧ H oa = some (tup2 o) ∧ Bd2 90 p ∧ Bd2 90 o ∧ ¬ (p.1 = 0 ∧ o.1 = 0) ∧ ∀ r H', Ex H H' → H' r = some (tup2 (stepOf p o)) → Q (.ref r) H'
def spMeets : Sp := fun vs H Q _ => ∃ (pa oa qa : Addr) (p o q : Int × Int), vs = [.ref pa, .ref oa, .ref qa] ∧ H pa = some (tup2 p) ∧ H oa = some (tup2 o) ∧ H qa = some (tup2 q) ∧ Bd2 90 p ∧ Bd2 90 o ∧ Bd2 9100 q ∧ Q (.bl (onLine p o q)) H
def spGood : Sp := fun vs H Q _ => ∃ (pa oa ba qa : Addr) (p o q : Int × Int) (b : Mt.Bnd), vs = [.ref pa, .ref oa, .ref ba, .ref qa] ∧ H pa = some (tup2 p) ∧ H oa = some (tup2 o) ∧ H ba = some (bndT b) ∧ H qa = some (tup2 q) ∧ Bd2 90 p ∧ Bd2 90 o ∧ Bd2 9100 q ∧ Q (.bl (goodB p o b q)) H
def spMoved : Sp := fun vs H Q _ => ∃ (qa sa : Addr) (q st : Int × Int) (n : Int), vs = [.ref qa, .ref sa, .int n] ∧ H qa = some (tup2 q) ∧ H sa = some (tup2 st) ∧ Bd2 400 st ∧ Bd 64 n ∧ ∀ r H', Ex H H' → H' r = some (tup2 (Mt.after q st n)) → Q (.ref r) H'
def spNear : Sp := fun vs H Q _ => ∃ (pa oa ba qa : Addr) (p o q : Int × Int) (b : Mt.Bnd), vs = [.ref pa, .ref oa, .ref ba, .ref qa] ∧ H pa = some (tup2 p) ∧ H oa = some (tup2 o) ∧ H ba = some (bndT b) ∧ H qa = some (tup2 q) ∧ Bd2 90 p ∧ Bd2 90 o ∧ ¬ (p.1 = 0 ∧ o.1 = 0) ∧ Bd2 9000 q ∧
  ∀ H', Ex H H' → Q (.bl (nearB p o b (stepOf p o) q)) H'
def spTruth : Sp := fun vs H Q _ => ∃ a b : Bool, vs = [.bl a, .bl b] ∧ Q (.bl (a == b)) H
theorem gcd_bd {x y : Int} {n : Nat} (hx : Bd n x) (hy : Bd n y) (nz : ¬ (x = 0 ∧ y = 0)) : Bd n (Int.gcd x y : Int) ∧ 0 < (Int.gcd x y : Int) := by
  refine ⟨?_, ?_⟩
  · unfold Bd
    rw [Int.natAbs_natCast]
    by_cases z : x = 0
    · have h1 : Int.gcd x y ≤ y.natAbs := Nat.le_of_dvd (Int.natAbs_pos.mpr (fun h => nz ⟨z, h⟩)) (Nat.gcd_dvd_right _ _)
      exact Nat.lt_of_le_of_lt h1 hy
    · have h1 : Int.gcd x y ≤ x.natAbs := Nat.le_of_dvd (Int.natAbs_pos.mpr z) (Nat.gcd_dvd_left _ _)
      exact Nat.lt_of_le_of_lt h1 hx
  · have h : Int.gcd x y ≠ 0 := fun h => nz (Int.gcd_eq_zero_iff.mp h)
    omega
theorem step_bd {p o : Int × Int} {n : Nat} (hp : Bd2 n p) (ho : Bd2 n o) : Bd2 n (stepOf p o) := ⟨ho.1.div, hp.1.div⟩
theorem after_bd {q st : Int × Int} {n m k : Nat} {t : Int} (hq : Bd2 n q) (hs : Bd2 m st) (ht : Bd k t) (h : m + k ≤ n) : Bd2 (n + 1) (Mt.after q st t) :=
  ⟨hq.1.add ((hs.1.mul ht (Nat.le_refl _)).mono h) (Nat.le_refl _), hq.2.add ((hs.2.mul ht (Nat.le_refl _)).mono h) (Nat.le_refl _)⟩
section
variable {P : Program} {w : World} {K : PySem.W.Frag} {mg : Str → Option Value} {base : Heap} {CN fI CA FE : Addr}
theorem half {x y : Nat} (h : y < x) (hy : 0 < y) : y * (x % y) * 2 ≤ x * y := by
  have h1 := Nat.mod_lt x hy
  have h2 := Nat.div_add_mod x y
  have h3 : 1 ≤ x / y := Nat.div_pos (Nat.le_of_lt h) hy
  have h4 : y * 1 ≤ y * (x / y) := Nat.mul_le_mul_left y h3
  have h5 : (x % y) * 2 ≤ x := by omega
  calc y * (x % y) * 2 = y * ((x % y) * 2) := Nat.mul_assoc ..
    _ ≤ y * x := Nat.mul_le_mul_left y h5
    _ = x * y := Nat.mul_comm ..
theorem ok_law_divisor (T : Txt P K mg CN fI CA FE) (D : Df K mg "_law_divisor" s_law_divisor) : DefOk P w K mg base CX0 1 "_law_divisor" ["_law_one_here", "_law_other"] spDiv := by
  refine D.ok sc_law_divisor (fun _ _ _ _ _ _ us hl => match us, hl with | [_, _], _ => rfl) (fun vs H Q E h => ?_) (fun f cdv A outer s H vs Q E hr h => ?_)
  · obtain ⟨_, _, rfl, _⟩ := h
    rfl
  · obtain ⟨x, y, rfl, bx, by_, k⟩ := h
    refine ⟨_, (pss_cons (ps_par (by rfl) sc_law_divisor.nd (i := 0) (j := 1) rfl rfl (by decide) rfl rfl (pa_cons (pe_callB call_abs (by rfl) T.n_abs (by decide +kernel) (pa_cons (pv 0) pa_nil)) (pa_cons (pe_callB call_abs (by rfl) T.n_abs (by decide +kernel) (pa_cons (pv 1) pa_nil)) pa_nil)) (by rfl))
 (pss_cons (ps_for PassesOwn.never rfl (pi_range1 (by rfl) T.n_range (pa_cons pe_int pa_nil)) (pg_name (i := 2) sc_law_divisor.nd rfl (Or.inl rfl))
 (pss_cons (ps_if (pt_cmpR op_eq (pv 1) pe_int (nomark _))
 (pss_one (ps_ret (pv 0)))
 pss_nil)
 (pss_one (ps_par (by rfl) sc_law_divisor.nd (i := 0) (j := 1) rfl rfl (by decide) rfl rfl (pa_cons (pv 1) (pa_cons (pe_op op_mod (pe_callTy call_int1 (by rfl) T.n_int (by decide +kernel) (pa_cons (pv 0) pa_nil)) (pv 1)) pa_nil)) (by rfl)))))
 (pss_one (ps_ret (pv 0))))), ?_⟩
    refine ⟨_, rfl, _, rfl, _, rfl, _, rfl, _, _, rfl, ?_⟩
    refine ⟨2000, rfl, by decide, by decide, for_range (lo := 0) (n := 2000) (fun i σ H' => ∃ (v : Option V) (a b : Nat), σ = [some (.int a), some (.int b), v] ∧ H' = H ∧ Nat.gcd a b = Int.gcd x y ∧ ((i = 0 ∧ a * b ≤ 2 ^ 180) ∨ (b < a ∧ a * b * 2 ^ i ≤ 2 ^ 181)))
      ⟨none, x.natAbs, y.natAbs, ?_, rfl, rfl, .inl ⟨rfl, ?_⟩⟩ ?_ ?_⟩
    · rw [← abs_nat, ← abs_nat]; rfl
    · have h : x.natAbs * y.natAbs ≤ 2 ^ 90 * 2 ^ 90 := Nat.mul_le_mul (Nat.le_of_lt bx) (Nat.le_of_lt by_)
      rw [← Nat.pow_add] at h
      exact h
    · rintro i σ H' hi ⟨v, a, b, rfl, rfl, hg, hp⟩
      refine ⟨_, rfl, rfl, _, rfl, ?_⟩
      by_cases hz : (b : Int) = 0
      · refine if_so (eqi_t hz) ⟨_, rfl, ?_⟩
        have hb : b = 0 := by omega
        subst hb
        rw [Nat.gcd_zero_right] at hg
        rw [hg]
        exact k
      · refine if_no (eqi_f hz) ?_
        have hb : 0 < b := by omega
        refine ⟨_, rfl, _, rfl, .inl ⟨_, rfl, _, rfl, _, _, rfl, rfl, (by omega : (0 : Int) < (b : Int)), _, _, rfl, _, b, a % b, rfl, rfl, ?_, .inr ⟨Nat.mod_lt _ hb, ?_⟩⟩⟩
        · rw [Nat.gcd_comm, ← Nat.gcd_rec, Nat.gcd_comm]
          exact hg
        · rcases hp with ⟨rfl, h0⟩ | ⟨hlt, h1⟩
          · have h2 : b * (a % b) ≤ b * a := Nat.mul_le_mul_left b (Nat.mod_le a b)
            rw [Nat.mul_comm b a] at h2
            have e1 : (2 : Nat) ^ (0 + 1) = 2 := rfl
            have e2 : (2 : Nat) ^ 181 = 2 ^ 180 * 2 := by rw [← Nat.pow_succ]
            rw [e1, e2]
            exact Nat.mul_le_mul_right 2 (Nat.le_trans h2 h0)
          · have h2 := half hlt hb
            rw [Nat.pow_succ, Nat.mul_comm (2 ^ i) 2, ← Nat.mul_assoc]
            exact Nat.le_trans (Nat.mul_le_mul_right _ h2) h1
    · rintro σ H' ⟨v, a, b, rfl, rfl, hg, hp⟩
      refine ⟨_, rfl, ?_⟩
      rcases hp with ⟨z, _⟩ | ⟨hlt, h1⟩
      · cases z
      · have hb : b = 0 := by
          rcases Nat.eq_zero_or_pos b with h | h
          · exact h
          · exfalso
            have h3 : 1 * 1 ≤ a * b := Nat.mul_le_mul (by omega) h
            have h4 : (2 : Nat) ^ 2000 ≤ a * b * 2 ^ 2000 := Nat.le_mul_of_pos_left _ (by omega)
            have h5 : (2 : Nat) ^ 181 < 2 ^ 2000 := Nat.pow_lt_pow_right (by decide) (by decide)
            exact absurd (Nat.le_trans h4 h1) (Nat.not_le.mpr h5)
        subst hb
        rw [Nat.gcd_zero_right] at hg
        rw [hg]
        exact k
theorem ok_law_step (T : Txt P K mg CN fI CA FE) (D : Df K mg "_law_step" s_law_step) (D_law_divisor : DefOk P w K mg base CX0 1 "_law_divisor" ["_law_one_here", "_law_other"] spDiv) : DefOk P w K mg base CX0 2 "_law_step" ["_law_place", "_law_other"] spStep := by
  refine D.ok sc_law_step (fun _ _ _ _ _ _ us hl => match us, hl with | [_, _], _ => rfl) (fun vs H Q E h => ?_) (fun f cdv A outer s H vs Q E hr h => ?_)
  · obtain ⟨_, _, _, _, rfl, _⟩ := h
    rfl
  · obtain ⟨pa, oa, p, o, rfl, hp, ho, bp, bo, nz, k⟩ := h
    refine ⟨_, (pss_cons (ps_set (i := 2) sc_law_step.nd rfl (Or.inl rfl) (pe_callD D_law_divisor (hr.mono (by decide)) pass0 (pa_cons (pe_ix ix_tup (pv 0) pe_int (fun _ _ => rfl)) (pa_cons (pe_ix ix_tup (pv 1) pe_int (fun _ _ => rfl)) pa_nil))))
 (pss_one (ps_ret (pe_tup (pa_cons (pe_op op_fdivW (pe_ix ix_tup (pv 1) pe_int (fun _ _ => rfl)) (pv 2)) (pa_cons (pe_op op_fdivW (pe_ix ix_tup (pv 0) pe_int (fun _ _ => rfl)) (pv 2)) pa_nil)))))), ?_⟩
    obtain ⟨bg, g0⟩ := gcd_bd bp.1 bo.1 nz
    have dv : ∀ i : Int, CDivW i (Int.gcd p.1 o.1 : Int) := fun i => bg.dpos g0 (by decide) (by decide)
    refine ⟨_, rfl, _, _, _, _, rfl, rfl, SqT.of hp, rfl, _, rfl, _, _, _, _, rfl, rfl, SqT.of ho, rfl, _, _, rfl, bp.1, bo.1, ?_⟩
    refine ⟨_, rfl, _, _, _, _, rfl, rfl, SqT.of ho, rfl, _, rfl, _, _, rfl, rfl, dv _, _, rfl, _, _, _, _, rfl, rfl, SqT.of hp, rfl, _, rfl, _, _, rfl, rfl, dv _, show 2 ≤ sizeLine by decide, fun r hr' => k r _ (Ex.new hr') upd_same⟩
theorem ok_law_meets (T : Txt P K mg CN fI CA FE) (D : Df K mg "_law_meets" s_law_meets) : DefOk P w K mg base CX0 1 "_law_meets" ["_law_place", "_law_other", "_law_pair"] spMeets := by
  refine D.ok sc_law_meets (fun _ _ _ _ _ _ us hl => match us, hl with | [_, _, _], _ => rfl) (fun vs H Q E h => ?_) (fun f cdv A outer s H vs Q E hr h => ?_)
  · obtain ⟨_, _, _, _, _, _, rfl, _⟩ := h
    rfl
  · obtain ⟨pa, oa, qa, p, o, q, rfl, hp, ho, hq, bp, bo, bq, k⟩ := h
    refine ⟨_, (pss_one (ps_ret (pe_cmpR op_eq (pe_op op_add (pe_op op_mulW (pe_ix ix_tup (pv 0) pe_int (fun _ _ => rfl)) (pe_ix ix_tup (pv 2) pe_int (fun _ _ => rfl))) (pe_ix ix_tup (pv 0) pe_int (fun _ _ => rfl))) (pe_op op_add (pe_op op_mulW (pe_ix ix_tup (pv 1) pe_int (fun _ _ => rfl)) (pe_ix ix_tup (pv 2) pe_int (fun _ _ => rfl))) (pe_ix ix_tup (pv 1) pe_int (fun _ _ => rfl))) (nomark _)))), ?_⟩
    refine ⟨_, rfl, _, _, _, _, rfl, rfl, SqT.of hp, rfl, _, rfl, _, _, _, _, rfl, rfl, SqT.of hq, rfl, _, _, rfl, rfl, bp.1.ok bq.1 (by decide) (by decide) (by decide), ?_⟩
    refine ⟨_, rfl, _, _, _, _, rfl, rfl, SqT.of hp, rfl, _, _, rfl, rfl, ?_⟩
    refine ⟨_, rfl, _, _, _, _, rfl, rfl, SqT.of ho, rfl, _, rfl, _, _, _, _, rfl, rfl, SqT.of hq, rfl, _, _, rfl, rfl, bo.1.ok bq.2 (by decide) (by decide) (by decide), ?_⟩
    refine ⟨_, rfl, _, _, _, _, rfl, rfl, SqT.of ho, rfl, _, _, rfl, rfl, rfl, ?_⟩
    unfold onLine at k
    have e : decide (V.int (p.1 * q.1 + p.2) = V.int (o.1 * q.2 + o.2)) = decide (p.1 * q.1 + p.2 = o.1 * q.2 + o.2) := by rw [decide_eq_decide]; simp
    rw [← e] at k
    exact k
theorem ok_law_moved (T : Txt P K mg CN fI CA FE) (D : Df K mg "_law_moved" s_law_moved) : DefOk P w K mg base CX0 1 "_law_moved" ["_law_pair", "_law_step_here", "_law_many"] spMoved := by
  refine D.ok sc_law_moved (fun _ _ _ _ _ _ us hl => match us, hl with | [_, _, _], _ => rfl) (fun vs H Q E h => ?_) (fun f cdv A outer s H vs Q E hr h => ?_)
  · obtain ⟨a, b, _, _, _, rfl, _⟩ := h
    rfl
  · obtain ⟨qa, sa, q, st, t, rfl, hq, hs, bs, bt, k⟩ := h
    refine ⟨_, (pss_one (ps_ret (pe_tup (pa_cons (pe_op op_add (pe_ix ix_tup (pv 0) pe_int (fun _ _ => rfl)) (pe_op op_mulW (pe_ix ix_tup (pv 1) pe_int (fun _ _ => rfl)) (pv 2))) (pa_cons (pe_op op_add (pe_ix ix_tup (pv 0) pe_int (fun _ _ => rfl)) (pe_op op_mulW (pe_ix ix_tup (pv 1) pe_int (fun _ _ => rfl)) (pv 2))) pa_nil))))), ?_⟩
    refine ⟨_, rfl, _, _, _, _, rfl, rfl, SqT.of hq, rfl, _, rfl, _, _, _, _, rfl, rfl, SqT.of hs, rfl, _, rfl, _, _, rfl, rfl, bs.1.ok bt (by decide) (by decide) (by decide), _, _, rfl, rfl, ?_⟩
    refine ⟨_, rfl, _, _, _, _, rfl, rfl, SqT.of hq, rfl, _, rfl, _, _, _, _, rfl, rfl, SqT.of hs, rfl, _, rfl, _, _, rfl, rfl, bs.2.ok bt (by decide) (by decide) (by decide), _, _, rfl, rfl, show 2 ≤ sizeLine by decide, fun r hr' => ?_⟩
    exact k r _ (Ex.new hr') upd_same
theorem ok_law_is_good (T : Txt P K mg CN fI CA FE) (D : Df K mg "_law_is_good" s_law_is_good) (D_law_meets : DefOk P w K mg base CX0 1 "_law_meets" ["_law_place", "_law_other", "_law_pair"] spMeets) : DefOk P w K mg base CX0 2 "_law_is_good" ["_law_place", "_law_other", "_law_bounds_here", "_law_pair"] spGood := by
  refine D.ok sc_law_is_good (fun _ _ _ _ _ _ us hl => match us, hl with | [_, _, _, _], _ => rfl) (fun vs H Q E h => ?_) (fun f cdv A outer s H vs Q E hr h => ?_)
  · obtain ⟨_, _, _, _, _, _, _, _, rfl, _⟩ := h
    rfl
  · obtain ⟨pa, oa, ba, qa, p, o, q, b, rfl, hp, ho, hb, hq, bp, bo, bq, k⟩ := h
    obtain ⟨lo, hi, fi, ro⟩ := b
    refine ⟨_, (pss_cons (ps_asg (pv 2) (pg_tup (by rfl) (pgs_cons (pg_name (i := 4) sc_law_is_good.nd rfl (Or.inl rfl)) (pgs_cons (pg_name (i := 5) sc_law_is_good.nd rfl (Or.inl rfl)) (pgs_cons (pg_name (i := 6) sc_law_is_good.nd rfl (Or.inl rfl)) (pgs_cons (pg_name (i := 7) sc_law_is_good.nd rfl (Or.inl rfl)) pgs_nil))))))
 (pss_cons (ps_if (PW.pt (pw_or (pt_not (pt_val (pe_callD D_law_meets (hr.mono (by decide)) pass0 (pa_cons (pv 0) (pa_cons (pv 1) (pa_cons (pv 3) pa_nil)))))) (pw_or (pt_cmpR op_lt (pe_ix ix_tup (pv 3) pe_int (fun _ _ => rfl)) (pv 6) (nomark _)) (pw_or1 (pt_cmpR op_lt (pe_op op_sub (pe_ix ix_tup (pv 3) pe_int (fun _ _ => rfl)) (pe_ix ix_tup (pv 3) pe_int (fun _ _ => rfl))) (pv 4) (nomark _))))))
 (pss_one (ps_ret pe_bl))
 pss_nil)
 (pss_one (ps_ret (pe_and (pe_or (pe_cmpR op_isN (pv 5) pe_non (nomark _)) (pe_one (pe_cmpR op_le (pe_op op_sub (pe_ix ix_tup (pv 3) pe_int (fun _ _ => rfl)) (pe_ix ix_tup (pv 3) pe_int (fun _ _ => rfl))) (pv 5) (nomark _)))) (pe_one (pe_or (pe_cmpR op_isN (pv 7) pe_non (nomark _)) (pe_one (pe_cmpR op_lt (pe_ix ix_tup (pv 3) pe_int (fun _ _ => rfl)) (pv 7) (nomark _)))))))))), ?_⟩
    unfold goodB at k
    refine ⟨_, rfl, ba, _, rfl, SqT.of hb, rfl, _, _, rfl, _, _, rfl, _, _, rfl, _, _, rfl, rfl, ?_⟩
    refine ⟨_, rfl, _, rfl, _, rfl, pa, oa, qa, p, o, q, rfl, hp, ho, hq, bp, bo, bq, _, rfl, ?_⟩
    cases h1 : onLine p o q with
    | false =>
      rw [h1] at k
      exact if_so rfl (if_so rfl k)
    | true =>
      rw [h1] at k
      refine if_no rfl ?_
      refine ⟨_, rfl, _, _, _, _, rfl, rfl, SqT.of hq, rfl, _, rfl, _, _, rfl, rfl, _, rfl, ?_⟩
      by_cases h2 : fi ≤ q.1
      · refine if_no (decide_eq_false (by dsimp only; omega)) ?_
        dsimp only at k
        rw [decide_eq_true h2] at k
        refine ⟨_, rfl, _, _, _, _, rfl, rfl, SqT.of hq, rfl, _, rfl, _, _, _, _, rfl, rfl, SqT.of hq, rfl, _, _, rfl, rfl, _, rfl, _, _, rfl, rfl, _, rfl, ?_⟩
        by_cases h3 : lo ≤ q.2 - q.1
        · refine if_no (decide_eq_false (by dsimp only; omega)) ?_
          rw [decide_eq_true h3] at k
          refine ⟨_, rfl, rfl, _, rfl, ?_⟩
          cases hi with
          | none =>
            refine if_so rfl ⟨_, rfl, if_so rfl ?_⟩
            refine ⟨_, rfl, rfl, _, rfl, ?_⟩
            cases ro with
            | none => exact if_so rfl k
            | some n => exact if_no rfl ⟨_, rfl, _, _, _, _, rfl, rfl, SqT.of hq, rfl, _, rfl, _, _, rfl, rfl, k⟩
          | some h =>
            refine if_no rfl ⟨_, rfl, _, _, _, _, rfl, rfl, SqT.of hq, rfl, _, rfl, _, _, _, _, rfl, rfl, SqT.of hq, rfl, _, _, rfl, rfl, _, rfl, _, _, rfl, rfl, _, rfl, ?_⟩
            by_cases h4 : q.2 - q.1 ≤ h
            · refine if_so (decide_eq_true h4) ?_
              dsimp only at k
              rw [decide_eq_true h4] at k
              refine ⟨_, rfl, rfl, _, rfl, ?_⟩
              cases ro with
              | none => exact if_so rfl k
              | some n => exact if_no rfl ⟨_, rfl, _, _, _, _, rfl, rfl, SqT.of hq, rfl, _, rfl, _, _, rfl, rfl, k⟩
            · refine if_no (decide_eq_false h4) ?_
              dsimp only at k
              rw [decide_eq_false h4] at k
              exact k
        · refine if_so (decide_eq_true (by dsimp only; omega)) ?_
          rw [decide_eq_false h3] at k
          exact k
      · refine if_so (decide_eq_true (by dsimp only; omega)) (if_so rfl ?_)
        dsimp only at k
        rw [decide_eq_false h2] at k
        exact k
theorem ok_law_is_nearest (T : Txt P K mg CN fI CA FE) (D : Df K mg "_law_is_nearest" s_law_is_nearest) (D_law_is_good : DefOk P w K mg base CX0 2 "_law_is_good" ["_law_place", "_law_other", "_law_bounds_here", "_law_pair"] spGood)
    (D_law_step : DefOk P w K mg base CX0 2 "_law_step" ["_law_place", "_law_other"] spStep) (D_law_moved : DefOk P w K mg base CX0 1 "_law_moved" ["_law_pair", "_law_step_here", "_law_many"] spMoved) : DefOk P w K mg base CX0 3 "_law_is_nearest" ["_law_place", "_law_other", "_law_bounds_here", "_law_pair"] spNear := by
  refine D.ok sc_law_is_nearest (fun _ _ _ _ _ _ us hl => match us, hl with | [_, _, _, _], _ => rfl) (fun vs H Q E h => ?_) (fun f cdv A outer s H vs Q E hr h => ?_)
  · obtain ⟨_, _, _, _, _, _, _, _, rfl, _⟩ := h
    rfl
  · obtain ⟨pa, oa, ba, qa, p, o, q, b, rfl, hp, ho, hb, hq, bp, bo, nz, bq, k⟩ := h
    refine ⟨_, (pss_cons (ps_if (pt_not (pt_val (pe_callD D_law_is_good (hr.mono (by decide)) pass0 (pa_cons (pv 0) (pa_cons (pv 1) (pa_cons (pv 2) (pa_cons (pv 3) pa_nil)))))))
 (pss_one (ps_ret pe_bl))
 pss_nil)
 (pss_cons (ps_set (i := 4) sc_law_is_nearest.nd rfl (Or.inl rfl) (pe_callD D_law_step (hr.mono (by decide)) pass0 (pa_cons (pv 0) (pa_cons (pv 1) pa_nil))))
 (pss_cons (ps_set (i := 5) sc_law_is_nearest.nd rfl (Or.inl rfl) (pe_ifExp (pt_cmpR op_ne (pe_ix ix_tup (pv 4) pe_int (fun _ _ => rfl)) (pe_ix ix_tup (pv 4) pe_int (fun _ _ => rfl)) (nomark _)) (pe_op op_sub (pe_ix ix_tup (pv 4) pe_int (fun _ _ => rfl)) (pe_ix ix_tup (pv 4) pe_int (fun _ _ => rfl))) (pe_ix ix_tup (pv 4) pe_int (fun _ _ => rfl))))
 (pss_one (ps_ret (pe_not (pe_callD D_law_is_good (hr.mono (by decide)) pass0 (pa_cons (pv 0) (pa_cons (pv 1) (pa_cons (pv 2) (pa_cons (pe_callD D_law_moved (hr.mono (by decide)) pass0 (pa_cons (pv 3) (pa_cons (pv 4) (pa_cons (pe_ifExp (pt_cmpR op_gt (pv 5) pe_int (nomark _)) (pe_un un_neg pe_int) pe_int) pa_nil)))) pa_nil))))))))))), ?_⟩
    unfold nearB at k
    refine ⟨_, rfl, _, rfl, _, rfl, _, rfl, pa, oa, ba, qa, p, o, q, b, rfl, hp, ho, hb, hq, bp, bo, bq.mono (by decide), _, rfl, ?_⟩
    cases h1 : goodB p o b q with
    | false =>
      rw [h1] at k
      exact if_so rfl (k H (Ex.refl _))
    | true =>
      rw [h1] at k
      refine if_no rfl ?_
      refine ⟨_, rfl, _, rfl, pa, oa, p, o, rfl, hp, ho, bp, bo, nz, fun sa H1 e1 hs => ?_⟩
      have bs := step_bd bp bo
      generalize stepOf p o = st at hs bs k
      refine ⟨_, rfl, _, _, _, _, rfl, rfl, SqT.of hs, rfl, _, rfl, _, _, _, _, rfl, rfl, SqT.of hs, rfl, rfl, _, rfl, ?_⟩
      have fin : ∀ wv : Int, wv = Mt.lway st → tRet (tNotV (tCallD spGood E0 (tCons (tVar 0) (tCons (tVar 1) (tCons (tVar 2) (tCons (tCallD spMoved E0 (tCons (tVar 3) (tCons (tVar 4) (tCons (tIf (tTest (tOp (rI0 fun i j => .bl (decide (j < i))) (tVar 5) (tC (.int 0)))) (tUn (rU fun i => .int (-i)) (tC (.int 1))) (tC (.int 1))) tNil)))) tNil))))))
          { nx := fun _ H' => Q .non H', rt := Q } [some (.ref pa), some (.ref oa), some (.ref ba), some (.ref qa), some (.ref sa), some (.int wv)] H1 := by
        intro wv hw
        have go : ∀ n : Int, Bd 64 n → n = (if 0 < Mt.lway st then -1 else 1) → spMoved [.ref qa, .ref sa, .int n] H1 (fun x H2 => spGood [.ref pa, .ref oa, .ref ba, x] H2 (fun z H3 => ∃ c, z = .bl c ∧ Q (.bl (!c)) H3) E0) E0 := by
          intro n bn en
          refine ⟨qa, sa, q, st, n, rfl, e1 _ _ hq, hs, bs.mono (by decide), bn, fun r H2 e2 hr2 => ?_⟩
          have en2 := e1.trans e2
          refine ⟨pa, oa, ba, r, p, o, _, b, rfl, en2 _ _ hp, en2 _ _ ho, en2 _ _ hb, hr2, bp, bo, (after_bd bq bs bn (by decide)).mono (by decide), _, rfl, ?_⟩
          rw [en]
          exact k H2 en2
        refine ⟨_, rfl, _, rfl, _, rfl, _, rfl, _, rfl, _, rfl, _, _, rfl, rfl, _, rfl, ?_⟩
        rw [hw]
        by_cases c : 0 < Mt.lway st
        · refine if_so (decide_eq_true c) ⟨_, rfl, go (-1) (Bd.lit (by decide)) (by rw [if_pos c])⟩
        · exact if_no (decide_eq_false c) (go 1 (Bd.lit (by decide)) (by rw [if_neg c]))
      unfold Mt.lway at fin
      by_cases c : st.2 = st.1
      · refine if_no (nei_f c) ?_
        refine ⟨_, rfl, _, _, _, _, rfl, rfl, SqT.of hs, rfl, ?_⟩
        exact fin _ (by rw [if_neg (fun z => z c)])
      · refine if_so (nei_t c) ?_
        refine ⟨_, rfl, _, _, _, _, rfl, rfl, SqT.of hs, rfl, _, rfl, _, _, _, _, rfl, rfl, SqT.of hs, rfl, _, _, rfl, rfl, ?_⟩
        exact fin _ (by rw [if_pos c])
theorem ok_law_is_truth (T : Txt P K mg CN fI CA FE) (D : Df K mg "_law_is_truth" s_law_is_truth) : DefOk P w K mg base CX0 1 "_law_is_truth" ["_law_value", "_law_due"] spTruth := by
  refine D.ok sc_law_is_truth (fun _ _ _ _ _ _ us hl => match us, hl with | [_, _], _ => rfl) (fun vs H Q E h => ?_) (fun f cdv A outer s H vs Q E hr h => ?_)
  · obtain ⟨_, _, rfl, _⟩ := h
    rfl
  · obtain ⟨a, b, rfl, k⟩ := h
    refine ⟨_, (pss_one (ps_ret (pe_and (pe_callB call_isi (by rfl) T.n_isinstance (by decide +kernel) (pa_cons (pv 0) (pa_cons (pe_bltn (v := .ty "bool") (by rfl) T.n_bool (by decide +kernel) rfl) pa_nil))) (pe_one (pe_cmpR (op_eqD hr.units) (pv 0) (pv 1) (nomark _)))))), ?_⟩
    refine ⟨_, rfl, _, _, _, _, _, rfl, .ty "bool", (Kd.bl a).ty K, kit_ty (Kd.bl (H := H) a).bool_, _, rfl, if_so rfl ?_⟩
    exact ⟨_, rfl, _, rfl, _, _, .bl a, .bl b, rfl, rfl, k⟩
end
end My
set_option maxHeartbeats 4000000
namespace My
open PySem L2 Lf Evl StX
abbrev s_law_spares : Stmt := top 43
theorem sc_law_spares : FnScope ["_law_place", "_law_other", "_law_bounds_here", "_law_pair", "_law_low", "_law_high", "_law_first", "_law_rounds", "_law_one_here", "_law_two", "_law_found"] ["_law_place", "_law_other", "_law_bounds_here", "_law_pair"] (defScope s_law_spares) := ⟨rfl, rfl, rfl, by decide +kernel, rfl, by decide +kernel, by decide +kernel⟩
abbrev s_law_is_gap : Stmt := top 44
theorem sc_law_is_gap : FnScope ["_law_place", "_law_other", "_law_bounds_here", "_law_pair", "_law_rows", "_law_spare", "_law_slope"] ["_law_place", "_law_other", "_law_bounds_here", "_law_pair"] (defScope s_law_is_gap) := ⟨rfl, rfl, rfl, by decide +kernel, rfl, by decide +kernel, by decide +kernel⟩
abbrev s_law_is_paper : Stmt := top 45
theorem sc_law_is_paper : FnScope ["_law_place", "_law_other", "_law_bounds_here", "_law_value", "_law_one_here"] ["_law_place", "_law_other", "_law_bounds_here", "_law_value"] (defScope s_law_is_paper) := ⟨rfl, rfl, rfl, by decide +kernel, rfl, by decide +kernel, by decide +kernel⟩
/-- the pairs rs at the values vs -/
inductive RowsAt (H : Hp) : List V → List (Int × Int) → Prop
  | nil : RowsAt H [] []
  | cons {a : Addr} {r : Int × Int} {vs : List V} {rs : List (Int × Int)} (h : H a = some (tup2 r)) (t : RowsAt H vs rs) : RowsAt H (.ref a :: vs) (r :: rs)
theorem RowsAt.mono {H H' : Hp} (e : ∀ a r, H a = some (tup2 r) → H' a = some (tup2 r)) : ∀ {vs : List V} {rs : List (Int × Int)}, RowsAt H vs rs → RowsAt H' vs rs
  | _, _, .nil => .nil
  | _, _, .cons h t => .cons (e _ _ h) (t.mono e)
theorem RowsAt.app {H : Hp} : ∀ {vs us : List V} {rs ss : List (Int × Int)}, RowsAt H vs rs → RowsAt H us ss → RowsAt H (vs ++ us) (rs ++ ss)
  | _, _, _, _, .nil, h => h
  | _, _, _, _, .cons h t, u => .cons h (t.app u)
theorem RowsAt.len {H : Hp} : ∀ {vs : List V} {rs : List (Int × Int)}, RowsAt H vs rs → vs.length = rs.length
  | _, _, .nil => rfl
  | _, _, .cons _ t => by rw [List.length_cons, List.length_cons, t.len]
theorem RowsAt.at {H : Hp} : ∀ {vs : List V} {rs : List (Int × Int)}, RowsAt H vs rs → ∀ {i : Nat} {x : V}, vs[i]? = some x → ∃ a r, x = .ref a ∧ rs[i]? = some r ∧ H a = some (tup2 r)
  | _, _, .nil, i, x, h => by simp at h
  | _, _, .cons h t, 0, x, e => by cases e; exact ⟨_, _, rfl, rfl, h⟩
  | _, _, .cons h t, i + 1, x, e => t.at (i := i) (x := x) e
section
variable {K : PySem.W.Frag} {σ : L2.St} {H : Hp} {te tl : TE} {vs : List Nat} {xs : List V} {rs : List (Int × Int)}
/-- [e for x, y in l], l a list of pairs -/
theorem el_rows {j k : Nat} {a : Addr} (f : Int × Int → V) (h : Ev tl σ H (.ref a)) (hx : H a = some (.lst xs)) (R : RowsAt H xs rs) (hz : xs.length ≤ 1000) (hw : ∀ x y, wipe (((wipe σ vs).set j (some x)).set k (some y)) vs = wipe σ vs)
    (he : ∀ r ∈ rs, ∀ H1, Ex H H1 → Ev te (((wipe σ vs).set j (some (.int r.1))).set k (some (.int r.2))) H1 (f r)) :
    EvL (tLc (iList K tl) (gTup K 2 (gCons (gName j) (gCons (gName k) gNil))) tYes te vs) σ H (rs.map f) := fun H0 e0 Q q => h H0 e0 _ fun H1 e1 =>
  ⟨a, rfl, ⟨xs, SqL.of (e1 _ _ (e0 _ _ hx))⟩, fun D hD => lc_list (K := K) (a := a) (xs := xs) (fun i H' => Ex H1 H' ∧ H' D = some (.lst ((rs.take i).map f))) ⟨Ex.new hD, upd_same⟩ (fun i H' _ ⟨e2, _⟩ => SqL.of (e2 _ _ (e1 _ _ (e0 _ _ hx))))
    (fun i x H' hi ⟨e2, hL⟩ => by
      obtain ⟨b, r, rfl, hr, hb⟩ := R.at hi
      have e3 := e0.trans (e1.trans e2)
      refine ⟨b, _, rfl, SqT.of (e3 _ _ hb), rfl, _, _, rfl, _, _, rfl, rfl, hw _ _, ?_⟩
      dsimp only [tYes]
      rw [if_pos rfl]
      refine he r (List.mem_of_getElem? hr) H' e3 H' (Ex.refl _) _ fun H5 e5 => ⟨_, e5 _ _ hL, ?_, Ex.mut (e2.trans e5) hD, ?_⟩
      · rw [List.length_map, List.length_take]
        exact Nat.lt_of_le_of_lt (Nat.min_le_left _ _) (Nat.lt_of_lt_of_le (Nat.lt_of_lt_of_le (List.getElem?_eq_some_iff.mp hi).1 hz) (show 1000 ≤ sizeLine by decide))
      · rw [upd_same, take_more hr, List.map_append]
        rfl)
    (fun H' ⟨e2, hL⟩ => q D H' (fresh_back e1 hD) (e1.trans e2) (by rw [hL, R.len, List.take_length]))⟩
theorem ev_anyR {j k : Nat} {a : Addr} (f : Int × Int → Bool) (h : Ev tl σ H (.ref a)) (hx : H a = some (.lst xs)) (R : RowsAt H xs rs) (hz : xs.length ≤ 1000) (hw : ∀ x y, wipe (((wipe σ vs).set j (some x)).set k (some y)) vs = wipe σ vs)
    (he : ∀ r ∈ rs, ∀ H1, Ex H H1 → Ev te (((wipe σ vs).set j (some (.int r.1))).set k (some (.int r.2))) H1 (.bl (f r))) :
    Ev (tCB (rAny K) (tCons (tLc (iList K tl) (gTup K 2 (gCons (gName j) (gCons (gName k) gNil))) tYes te vs) tNil)) σ H (.bl (rs.any f)) := by
  have h := ev_any (K := K) (bs := rs.map f) (te := tLc (iList K tl) (gTup K 2 (gCons (gName j) (gCons (gName k) gNil))) tYes te vs) (σ := σ) (H := H) (by
    rw [List.map_map]
    exact el_rows (V.bl ∘ f) h hx R hz hw he)
  rw [List.any_map] at h
  exact h
end
def spRows : Sp := fun vs H Q _ => ∃ (pa oa ba qa : Addr) (p o q : Int × Int) (b : Mt.Bnd), vs = [.ref pa, .ref oa, .ref ba, .ref qa] ∧ H pa = some (tup2 p) ∧ H oa = some (tup2 o) ∧ H ba = some (bndT b) ∧ H qa = some (tup2 q) ∧ Bd2 90 p ∧ Bd2 90 o ∧ ¬ (p.1 = 0 ∧ o.1 = 0) ∧
  ∀ l us H', Ex H H' → H' l = some (.lst us) → RowsAt H' us (Mt.rows b q (stepOf p o)) → Q (.ref l) H'
def spGapL : Sp := fun vs H Q _ => ∃ (pa oa ba qa : Addr) (p o q : Int × Int) (b : Mt.Bnd), vs = [.ref pa, .ref oa, .ref ba, .ref qa] ∧ H pa = some (tup2 p) ∧ H oa = some (tup2 o) ∧ H ba = some (bndT b) ∧ H qa = some (tup2 q) ∧ Bd2 90 p ∧ Bd2 90 o ∧ ¬ (p.1 = 0 ∧ o.1 = 0) ∧ Bd2 9000 q ∧
  ∀ H', Ex H H' → Q (.bl (gapB p o b (stepOf p o) q)) H'
theorem rows_len (b : Mt.Bnd) (q st : Int × Int) : (Mt.rows b q st).length ≤ 4 := by
  unfold Mt.rows Mt.spares Mt.slopes
  cases b.high <;> cases b.rounds <;> simp
section
variable {P : Program} {w : World} {K : PySem.W.Frag} {mg : Str → Option Value} {base : Heap} {CN fI CA FE : Addr}
theorem ok_law_spares (T : Txt P K mg CN fI CA FE) (D : Df K mg "_law_spares" s_law_spares) (D_law_step : DefOk P w K mg base CX0 2 "_law_step" ["_law_place", "_law_other"] spStep) : DefOk P w K mg base CX0 3 "_law_spares" ["_law_place", "_law_other", "_law_bounds_here", "_law_pair"] spRows := by
  refine D.ok sc_law_spares (fun _ _ _ _ _ _ us hl => match us, hl with | [_, _, _, _], _ => rfl) (fun vs H Q E h => ?_) (fun f cdv A outer s H vs Q E hr h => ?_)
  · obtain ⟨_, _, _, _, _, _, _, _, rfl, _⟩ := h
    rfl
  · obtain ⟨pa, oa, ba, qa, p, o, q, b, rfl, hp, ho, hb, hq, bp, bo, nz, k⟩ := h
    obtain ⟨lo, hi, fi, ro⟩ := b
    refine ⟨_, (pss_cons (ps_asg (pv 2) (pg_tup (by rfl) (pgs_cons (pg_name (i := 4) sc_law_spares.nd rfl (Or.inl rfl)) (pgs_cons (pg_name (i := 5) sc_law_spares.nd rfl (Or.inl rfl)) (pgs_cons (pg_name (i := 6) sc_law_spares.nd rfl (Or.inl rfl)) (pgs_cons (pg_name (i := 7) sc_law_spares.nd rfl (Or.inl rfl)) pgs_nil))))))
 (pss_cons (ps_asg (pe_callD D_law_step (hr.mono (by decide)) pass0 (pa_cons (pv 0) (pa_cons (pv 1) pa_nil))) (pg_tup (by rfl) (pgs_cons (pg_name (i := 8) sc_law_spares.nd rfl (Or.inl rfl)) (pgs_cons (pg_name (i := 9) sc_law_spares.nd rfl (Or.inl rfl)) pgs_nil))))
 (pss_cons (ps_set (i := 10) sc_law_spares.nd rfl (Or.inl rfl) (pe_lst (pa_cons (pe_tup (pa_cons (pe_op op_sub (pe_ix ix_tup (pv 3) pe_int (fun _ _ => rfl)) (pv 6)) (pa_cons (pv 8) pa_nil))) (pa_cons (pe_tup (pa_cons (pe_op op_sub (pe_op op_sub (pe_ix ix_tup (pv 3) pe_int (fun _ _ => rfl)) (pe_ix ix_tup (pv 3) pe_int (fun _ _ => rfl))) (pv 4)) (pa_cons (pe_op op_sub (pv 9) (pv 8)) pa_nil))) pa_nil))))
 (pss_cons (ps_if (pt_cmpR op_notN (pv 5) pe_non (nomark _))
 (pss_one (ps_expr (pe_bm PySem.F.plainAttrs_list PySem.F.slot_list_append PySem.F.type_list_append mt_append (pv 10) (pa_cons (pe_tup (pa_cons (pe_op op_add (pe_op op_sub (pv 5) (pe_ix ix_tup (pv 3) pe_int (fun _ _ => rfl))) (pe_ix ix_tup (pv 3) pe_int (fun _ _ => rfl))) (pa_cons (pe_op op_sub (pv 8) (pv 9)) pa_nil))) pa_nil))))
 pss_nil)
 (pss_cons (ps_if (pt_cmpR op_notN (pv 7) pe_non (nomark _))
 (pss_one (ps_expr (pe_bm PySem.F.plainAttrs_list PySem.F.slot_list_append PySem.F.type_list_append mt_append (pv 10) (pa_cons (pe_tup (pa_cons (pe_op op_sub (pe_op op_sub (pv 7) pe_int) (pe_ix ix_tup (pv 3) pe_int (fun _ _ => rfl))) (pa_cons (pe_un un_neg (pv 9)) pa_nil))) pa_nil))))
 pss_nil)
 (pss_one (ps_ret (pv 10)))))))), ?_⟩
    refine ⟨_, rfl, ba, _, rfl, SqT.of hb, rfl, _, _, rfl, _, _, rfl, _, _, rfl, _, _, rfl, rfl, ?_⟩
    refine ⟨_, rfl, _, rfl, pa, oa, p, o, rfl, hp, ho, bp, bo, nz, fun sa H1 e1 hs => ?_⟩
    generalize stepOf p o = st at hs k
    refine ⟨sa, _, rfl, SqT.of hs, rfl, _, _, rfl, _, _, rfl, rfl, ?_⟩
    have hq1 := e1 _ _ hq
    refine ⟨_, rfl, _, _, _, _, rfl, rfl, SqT.of hq1, rfl, _, rfl, _, _, rfl, rfl, _, rfl, show 2 ≤ sizeLine by decide, fun t1 ht1 => ?_⟩
    have hq2 := (Ex.new (o := HO.tup [.int (q.1 - fi), .int st.1]) ht1) _ _ hq1
    refine ⟨_, rfl, _, _, _, _, rfl, rfl, SqT.of hq2, rfl, _, rfl, _, _, _, _, rfl, rfl, SqT.of hq2, rfl, _, _, rfl, rfl, _, rfl, _, _, rfl, rfl, _, rfl, _, rfl, _, _, rfl, rfl, show 2 ≤ sizeLine by decide, fun t2 ht2 => ?_⟩
    refine ⟨show 2 ≤ sizeLine by decide, fun l hl => ?_⟩
    have x1 := Ex.new (o := HO.tup [.int (q.1 - fi), .int st.1]) ht1
    have x2 := Ex.new (o := HO.tup [.int (q.2 - q.1 - lo), .int (st.2 - st.1)]) ht2
    have x3 := Ex.new (o := HO.lst [.ref t1, .ref t2]) hl
    have hl1 : H1 l = none := fresh_back (x1.trans x2) hl
    generalize hH2 : upd (upd (upd H1 t1 _) t2 _) l _ = H2
    have e2 : Ex H1 H2 := by rw [← hH2]; exact (x1.trans x2).trans x3
    have hL2 : H2 l = some (.lst [.ref t1, .ref t2]) := by rw [← hH2]; exact upd_same
    have R2 : RowsAt H2 [.ref t1, .ref t2] [(q.1 - fi, st.1), (q.2 - q.1 - lo, st.2 - st.1)] := by
      rw [← hH2]
      exact .cons (x3 _ _ (x2 _ _ upd_same)) (.cons (x3 _ _ upd_same) .nil)
    clear hH2
    -- the last row
    have fin : ∀ (us : List V) (rs : List (Int × Int)) (H3 : Hp), Ex H1 H3 → H3 l = some (.lst us) → RowsAt H3 us rs → us.length ≤ 3 → rs ++ (match ro with | none => [] | some n => [(n - 1 - q.2, -st.2)]) = Mt.rows ⟨lo, hi, fi, ro⟩ q st →
        tSeq (tIfS (tTest (tOp (fun x y H Q => y = .non ∧ Q (.bl (!decide (x = .non))) H) (tVar 7) (tC .non))) (tDrop (tBM K "list" rAppend (tVar 10) (tCons (tTup (tCons (tOp (rI0 fun i j => .int (i - j)) (tOp (rI0 fun i j => .int (i - j)) (tVar 7) (tC (.int 1))) (tOp (rIxT K) (tVar 3) (tC (.int 1)))) (tCons (tUn (rU fun i => .int (-i)) (tVar 9)) tNil))) tNil))) tNext) (tRet (tVar 10))
          { nx := fun _ H' => Q .non H', rt := Q } [some (.ref pa), some (.ref oa), some (.ref ba), some (.ref qa), some (.int lo), some (oV hi), some (.int fi), some (oV ro), some (.int st.1), some (.int st.2), some (.ref l)] H3 := by
      intro us rs H3 e3 hL R hn hx
      refine ⟨_, rfl, rfl, _, rfl, ?_⟩
      cases ro with
      | none =>
        refine if_no rfl ⟨_, rfl, k l us H3 (e1.trans e3) hL ?_⟩
        rw [← hx, List.append_nil]
        exact R
      | some n =>
        refine if_so rfl ?_
        refine ⟨_, rfl, .inl ⟨rfl, _, SqL.of hL⟩, _, rfl, _, _, rfl, rfl, _, rfl, _, _, _, _, rfl, rfl, SqT.of (e3 _ _ hq1), rfl, _, _, rfl, rfl, _, rfl, _, rfl, show 2 ≤ sizeLine by decide, fun t ht => ?_⟩
        have xt := Ex.new (o := HO.tup [.int (n - 1 - q.2), .int (-st.2)]) ht
        refine ⟨l, _, _, rfl, rfl, xt _ _ hL, Nat.lt_of_le_of_lt hn (show 3 < sizeLine by decide), ?_⟩
        refine ⟨_, rfl, k l _ _ (e1.trans (Ex.mut (e3.trans xt) hl1)) upd_same ?_⟩
        rw [← hx]
        have sh : ∀ a r, upd H3 t (HO.tup [.int (n - 1 - q.2), .int (-st.2)]) a = some (tup2 r) → upd (upd H3 t (HO.tup [.int (n - 1 - q.2), .int (-st.2)])) l (.lst (us ++ [.ref t])) a = some (tup2 r) := fun a r ha => by
          rw [upd_ne (fun z => by rw [z, xt _ _ hL] at ha; cases ha)]
          exact ha
        exact RowsAt.app (R.mono fun a r ha => sh a r (xt _ _ ha)) (.cons (sh _ _ upd_same) .nil)
    refine ⟨_, rfl, rfl, _, rfl, ?_⟩
    cases hi with
    | none =>
      refine if_no rfl ?_
      exact fin _ _ H2 e2 hL2 R2 (by simp) (by unfold Mt.rows Mt.spares Mt.slopes; cases ro <;> rfl)
    | some h =>
      refine if_so rfl ?_
      refine ⟨_, rfl, .inl ⟨rfl, _, SqL.of hL2⟩, _, rfl, _, rfl, _, _, _, _, rfl, rfl, SqT.of (e2 _ _ hq1), rfl, _, _, rfl, rfl, _, rfl, _, _, _, _, rfl, rfl, SqT.of (e2 _ _ hq1), rfl, _, _, rfl, rfl, _, rfl, _, rfl, _, _, rfl, rfl, show 2 ≤ sizeLine by decide, fun t ht => ?_⟩
      have xt := Ex.new (o := HO.tup [.int (h - q.2 + q.1), .int (st.1 - st.2)]) ht
      refine ⟨l, _, _, rfl, rfl, xt _ _ hL2, show 2 < sizeLine by decide, ?_⟩
      have sh : ∀ a r, upd H2 t (HO.tup [.int (h - q.2 + q.1), .int (st.1 - st.2)]) a = some (tup2 r) → upd (upd H2 t (HO.tup [.int (h - q.2 + q.1), .int (st.1 - st.2)])) l (.lst ([.ref t1, .ref t2] ++ [.ref t])) a = some (tup2 r) := fun a r ha => by
        rw [upd_ne (fun z => by rw [z, xt _ _ hL2] at ha; cases ha)]
        exact ha
      refine fin _ ([(q.1 - fi, st.1), (q.2 - q.1 - lo, st.2 - st.1)] ++ [(h - q.2 + q.1, st.1 - st.2)]) _ (Ex.mut (e2.trans xt) hl1) upd_same (RowsAt.app (R2.mono fun a r ha => sh a r (xt _ _ ha)) (.cons (sh _ _ upd_same) .nil)) (by simp) ?_
      have eh : h - q.2 + q.1 = h - (q.2 - q.1) := by omega
      rw [eh]
      unfold Mt.rows Mt.spares Mt.slopes
      cases ro <;> rfl
theorem ok_law_is_gap (T : Txt P K mg CN fI CA FE) (D : Df K mg "_law_is_gap" s_law_is_gap) (D_law_meets : DefOk P w K mg base CX0 1 "_law_meets" ["_law_place", "_law_other", "_law_pair"] spMeets)
    (D_law_spares : DefOk P w K mg base CX0 3 "_law_spares" ["_law_place", "_law_other", "_law_bounds_here", "_law_pair"] spRows) : DefOk P w K mg base CX0 4 "_law_is_gap" ["_law_place", "_law_other", "_law_bounds_here", "_law_pair"] spGapL := by
  refine D.ok sc_law_is_gap (fun _ _ _ _ _ _ us hl => match us, hl with | [_, _, _, _], _ => rfl) (fun vs H Q E h => ?_) (fun f cdv A outer s H vs Q E hr h => ?_)
  · obtain ⟨_, _, _, _, _, _, _, _, rfl, _⟩ := h
    rfl
  · obtain ⟨pa, oa, ba, qa, p, o, q, b, rfl, hp, ho, hb, hq, bp, bo, nz, bq, k⟩ := h
    refine ⟨_, (pss_cons (ps_if (pt_not (pt_val (pe_callD D_law_meets (hr.mono (by decide)) pass0 (pa_cons (pv 0) (pa_cons (pv 1) (pa_cons (pv 3) pa_nil))))))
 (pss_one (ps_ret pe_bl))
 pss_nil)
 (pss_cons (ps_set (i := 4) sc_law_is_gap.nd rfl (Or.inl rfl) (pe_callD D_law_spares (hr.mono (by decide)) pass0 (pa_cons (pv 0) (pa_cons (pv 1) (pa_cons (pv 2) (pa_cons (pv 3) pa_nil))))))
 (pss_cons (ps_if (pt_not (pt_val (pe_callB (cr_any rfl) (by rfl) T.n_any (by decide +kernel) (pa_cons (pe_lc (own := [("_law_spare", 5), ("_law_slope", 6)]) (g := (gTup K 2 (gCons (gName 5) (gCons (gName 6) gNil)))) (by rfl) sc_law_is_gap.nd (pi_list (pv 4)) (blkOk_by (own := [("_law_spare", 5), ("_law_slope", 6)]) (N := ["_law_place", "_law_other", "_law_bounds_here", "_law_pair", "_law_rows", "_law_spare", "_law_slope"]) (sc := defScope s_law_is_gap) (by decide +kernel)) (fun _ _ _ _ _ => (pg_tup (by rfl) (pgs_cons (pg_name (i := 5) sc_law_is_gap.nd rfl (Or.inl rfl)) (pgs_cons (pg_name (i := 6) sc_law_is_gap.nd rfl (Or.inl rfl)) pgs_nil)))) (fun _ _ _ _ _ => pts_nil) (fun _ _ _ _ _ => (pe_and (pe_cmpR op_lt (pv 5) pe_int (nomark _)) (pe_one (pe_cmpR op_ge (pv 6) pe_int (nomark _)))))) pa_nil))))
 (pss_one (ps_ret pe_bl))
 pss_nil)
 (pss_one (ps_ret (pe_callB (cr_any rfl) (by rfl) T.n_any (by decide +kernel) (pa_cons (pe_lc (own := [("_law_spare", 5), ("_law_slope", 6)]) (g := (gTup K 2 (gCons (gName 5) (gCons (gName 6) gNil)))) (by rfl) sc_law_is_gap.nd (pi_list (pv 4)) (blkOk_by (own := [("_law_spare", 5), ("_law_slope", 6)]) (N := ["_law_place", "_law_other", "_law_bounds_here", "_law_pair", "_law_rows", "_law_spare", "_law_slope"]) (sc := defScope s_law_is_gap) (by decide +kernel)) (fun _ _ _ _ _ => (pg_tup (by rfl) (pgs_cons (pg_name (i := 5) sc_law_is_gap.nd rfl (Or.inl rfl)) (pgs_cons (pg_name (i := 6) sc_law_is_gap.nd rfl (Or.inl rfl)) pgs_nil)))) (fun _ _ _ _ _ => pts_nil) (fun _ _ _ _ _ => (pe_and (pe_cmpR op_lt (pe_op op_add (pv 5) (pv 6)) pe_int (nomark _)) (pe_one (pe_cmpR op_le (pv 6) pe_int (nomark _)))))) pa_nil))))))), ?_⟩
    unfold gapB at k
    refine ⟨_, rfl, _, rfl, _, rfl, pa, oa, qa, p, o, q, rfl, hp, ho, hq, bp, bo, bq.mono (by decide), _, rfl, ?_⟩
    cases h1 : onLine p o q with
    | false =>
      rw [h1] at k
      exact if_so rfl (k H (Ex.refl _))
    | true =>
      rw [h1] at k
      refine if_no rfl ?_
      refine ⟨_, rfl, _, rfl, _, rfl, _, rfl, pa, oa, ba, qa, p, o, q, b, rfl, hp, ho, hb, hq, bp, bo, nz, fun l us H1 e1 hL R => ?_⟩
      have hz : us.length ≤ 1000 := by rw [R.len]; exact Nat.le_trans (rows_len _ _ _) (by decide)
      generalize Mt.rows b q (stepOf p o) = rs at R k
      refine ev_anyR (K := K) (xs := us) (rs := rs) (fun r => decide (r.1 < 0) && decide (0 ≤ r.2)) (ev_var rfl) hL R hz (fun _ _ => rfl) (fun r hr' H2 e2 => ?_) H1 (Ex.refl _) _ fun H2 e2 => ⟨_, rfl, ?_⟩
      · exact ev_andV (ev_op (ev_var rfl) ev_c rv_I0) fun _ => ev_op (ev_var rfl) ev_c rv_I0
      · cases h2 : rs.any fun r => decide (r.1 < 0) && decide (0 ≤ r.2) with
        | false =>
          rw [h2] at k
          exact if_so rfl (k H2 (e1.trans e2))
        | true =>
          rw [h2] at k
          refine if_no rfl ?_
          refine ev_anyR (K := K) (xs := us) (rs := rs) (fun r => decide (r.1 + r.2 < 0) && decide (r.2 ≤ 0)) (ev_var rfl) (e2 _ _ hL) (R.mono fun a r ha => e2 _ _ ha) hz (fun _ _ => rfl) (fun r hr' H3 e3 => ?_) H2 (Ex.refl _) _ fun H3 e3 => k H3 ((e1.trans e2).trans e3)
          exact ev_andV (ev_op (ev_op (ev_var rfl) (ev_var rfl) rv_I0) ev_c rv_I0) fun _ => ev_op (ev_var rfl) ev_c rv_I0
end
end My
set_option maxHeartbeats 4000000
namespace My
open PySem L2 Lf Evl StX
def ljudge (p o : Int × Int) (b : Mt.Bnd) (st : Int × Int) : List V → Bool
  | [.str s, .int n] => decide (s = ("modulus" : Str)) && modB p o n
  | [.str s, .int x, .int y] => if s = ("nearest" : Str) then nearB p o b st (x, y) else decide (s = ("gap" : Str)) && gapB p o b st (x, y)
  | _ => false
def ljudgeO (p o : Int × Int) (b : Mt.Bnd) (st : Int × Int) : Option (List V) → Bool
  | some xs => ljudge p o b st xs
  | none => false
def spPaperL : Sp := fun vs H Q _ => ∃ (pa oa ba : Addr) (v : V) (ov : Option (List V)) (p o : Int × Int) (b : Mt.Bnd), vs = [.ref pa, .ref oa, .ref ba, v] ∧ H pa = some (tup2 p) ∧ H oa = some (tup2 o) ∧ H ba = some (bndT b) ∧ PV H v ov ∧ Bd2 90 p ∧ Bd2 90 o ∧ ¬ (p.1 = 0 ∧ o.1 = 0) ∧
  ∀ H', Ex H H' → Q (.bl (ljudgeO p o b (stepOf p o) ov)) H'
/-- the program's judgement is the law's -/
theorem judge_same {p o : Int × Int} {b : Mt.Bnd} {has : Bool} {q0 st : Int × Int} {e : Mt.Ends} (M : Mt.MetOk p o b has q0 st e) (yes : has = true → st = stepOf p o) (ov : Option (List V)) :
    judgeO p o b st (Mt.nearest has q0 st e) ov = ljudgeO p o b (stepOf p o) ov := by
  have hn : ∀ q, decide (Mt.nearest has q0 st e = some q) = nearB p o b (stepOf p o) q := fun q => by
    rw [Bool.eq_iff_iff, decide_eq_true_eq, near_bool]
    exact Mt.near_iff M (fun h => (yes h).symm)
  have hg : ∀ q, gapB p o b st q = gapB p o b (stepOf p o) q := fun q => by
    cases hh : has with
    | true => rw [yes hh]
    | false =>
      have h0 : onLine p o q = false := by
        unfold onLine
        exact decide_eq_false ((M.no hh).2.2 q)
      unfold gapB
      rw [h0]
      rfl
  cases ov with
  | none => rfl
  | some xs =>
    show judge _ _ _ _ _ xs = ljudge _ _ _ _ xs
    unfold judge ljudge
    split
    · rfl
    · rw [hn, hg]
    · rename_i h1 h2
      first
        | rfl
        | (split
           · exact (h1 _ _ rfl).elim
           · exact (h2 _ _ _ rfl).elim
           · rfl)
theorem lj3 (p o : Int × Int) (b : Mt.Bnd) (st : Int × Int) (s : Str) (x y : Int) : ljudgeO p o b st (some [.str s, .int x, .int y]) = if s = ("nearest" : Str) then nearB p o b st (x, y) else decide (s = ("gap" : Str)) && gapB p o b st (x, y) := rfl
theorem scal_fl {x : V} {s : Str} (h : FlB x) : scal x (.str s) = true := by
  cases x <;> first | rfl | exact h.elim
theorem mod_case {p o : Int × Int} {n : Int} (c : ¬ 2 ≤ n ∨ ¬ p.1 % n = 0 ∨ ¬ o.1 % n = 0) : modB p o n = false := by
  unfold modB
  rcases c with c | c | c <;> simp [c]
section
variable {P : Program} {w : World} {K : PySem.W.Frag} {mg : Str → Option Value} {base : Heap} {CN fI CA FE : Addr}
theorem ok_law_is_paper (T : Txt P K mg CN fI CA FE) (D : Df K mg "_law_is_paper" s_law_is_paper) (D_law_is_count : DefOk P w K mg base CX0 1 "_law_is_count" ["_law_value"] spIsNumber)
    (D_law_is_nearest : DefOk P w K mg base CX0 3 "_law_is_nearest" ["_law_place", "_law_other", "_law_bounds_here", "_law_pair"] spNear) (D_law_is_gap : DefOk P w K mg base CX0 4 "_law_is_gap" ["_law_place", "_law_other", "_law_bounds_here", "_law_pair"] spGapL) :
    DefOk P w K mg base CX0 5 "_law_is_paper" ["_law_place", "_law_other", "_law_bounds_here", "_law_value"] spPaperL := by
  refine D.ok sc_law_is_paper (fun _ _ _ _ _ _ us hl => match us, hl with | [_, _, _, _], _ => rfl) (fun vs H Q E h => ?_) (fun f cdv A outer s H vs Q E hr h => ?_)
  · obtain ⟨_, _, _, _, _, _, _, _, rfl, _⟩ := h
    rfl
  · obtain ⟨pa, oa, ba, v, ov, p, o, b, rfl, hp, ho, hb, hv, bp, bo, nz, k⟩ := h
    refine ⟨_, (pss_cons (ps_if (PW.pt (pw_or (pt_not (pt_val (pe_callB call_isi (by rfl) T.n_isinstance (by decide +kernel) (pa_cons (pv 3) (pa_cons (pe_bltn (v := .ty "tuple") (by rfl) T.n_tuple (by decide +kernel) rfl) pa_nil))))) (pw_or (pt_cmpR op_notIn_seq (pe_callB call_len_seq (by rfl) T.n_len (by decide +kernel) (pa_cons (pv 3) pa_nil)) (pe_tup (pa_cons pe_int (pa_cons pe_int pa_nil))) (by rfl)) (pw_or1 (pt_not (pt_val (pe_callB (cr_all rfl) (by rfl) T.n_all (by decide +kernel) (pa_cons (pe_lc (own := [("_law_one_here", 4)]) (by rfl) sc_law_is_paper.nd (pi_tup (pe_slice sl_tup (pv 3) (po_some pe_int) po_none)) (blkOk_by (own := [("_law_one_here", 4)]) (N := ["_law_place", "_law_other", "_law_bounds_here", "_law_value", "_law_one_here"]) (sc := defScope s_law_is_paper) (by decide +kernel)) (fun _ _ _ _ _ => (pg_name (i := 4) sc_law_is_paper.nd rfl (Or.inl rfl))) (fun _ _ _ _ _ => pts_nil) (fun _ _ _ _ _ => (pe_callD D_law_is_count (hr.mono (by decide)) pass0 (pa_cons (pv 4) pa_nil)))) pa_nil))))))))
 (pss_one (ps_ret pe_bl))
 pss_nil)
 (pss_cons (ps_if (PW.pt (pw_and (pt_cmpR op_eq (pe_ix ix_tup (pv 3) pe_int (fun _ _ => rfl)) pe_str (nomark _)) (pw_and1 (pt_cmpR op_eq (pe_callB call_len_seq (by rfl) T.n_len (by decide +kernel) (pa_cons (pv 3) pa_nil)) pe_int (nomark _)))))
 (pss_cons (ps_if (PW.pt (pw_or (pt_cmpR op_lt (pe_ix ix_tup (pv 3) pe_int (fun _ _ => rfl)) pe_int (nomark _)) (pw_or (pt_cmpR op_ne (pe_op op_mod (pe_callTy call_int1 (by rfl) T.n_int (by decide +kernel) (pa_cons (pe_ix ix_tup (pv 0) pe_int (fun _ _ => rfl)) pa_nil)) (pe_ix ix_tup (pv 3) pe_int (fun _ _ => rfl))) pe_int (nomark _)) (pw_or1 (pt_cmpR op_ne (pe_op op_mod (pe_callTy call_int1 (by rfl) T.n_int (by decide +kernel) (pa_cons (pe_ix ix_tup (pv 1) pe_int (fun _ _ => rfl)) pa_nil)) (pe_ix ix_tup (pv 3) pe_int (fun _ _ => rfl))) pe_int (nomark _))))))
 (pss_one (ps_ret pe_bl))
 pss_nil)
 (pss_one (ps_ret (pe_cmpR op_ne (pe_op op_mod (pe_callTy call_int1 (by rfl) T.n_int (by decide +kernel) (pa_cons (pe_op op_sub (pe_ix ix_tup (pv 1) pe_int (fun _ _ => rfl)) (pe_ix ix_tup (pv 0) pe_int (fun _ _ => rfl))) pa_nil)) (pe_ix ix_tup (pv 3) pe_int (fun _ _ => rfl))) pe_int (nomark _)))))
 pss_nil)
 (pss_cons (ps_if (PW.pt (pw_and (pt_cmpR op_eq (pe_ix ix_tup (pv 3) pe_int (fun _ _ => rfl)) pe_str (nomark _)) (pw_and1 (pt_cmpR op_eq (pe_callB call_len_seq (by rfl) T.n_len (by decide +kernel) (pa_cons (pv 3) pa_nil)) pe_int (nomark _)))))
 (pss_one (ps_ret (pe_callD D_law_is_nearest (hr.mono (by decide)) pass0 (pa_cons (pv 0) (pa_cons (pv 1) (pa_cons (pv 2) (pa_cons (pe_slice sl_tup (pv 3) (po_some pe_int) po_none) pa_nil)))))))
 pss_nil)
 (pss_one (ps_ret (pe_and (pe_cmpR op_eq (pe_ix ix_tup (pv 3) pe_int (fun _ _ => rfl)) pe_str (nomark _)) (pe_and (pe_cmpR op_eq (pe_callB call_len_seq (by rfl) T.n_len (by decide +kernel) (pa_cons (pv 3) pa_nil)) pe_int (nomark _)) (pe_one (pe_callD D_law_is_gap (hr.mono (by decide)) pass0 (pa_cons (pv 0) (pa_cons (pv 1) (pa_cons (pv 2) (pa_cons (pe_slice sl_tup (pv 3) (po_some pe_int) po_none) pa_nil))))))))))))), ?_⟩
    cases ov with
    | none =>
      obtain ⟨t, kd, ht⟩ := hv
      refine ⟨_, rfl, _, _, _, _, _, rfl, .ty "tuple", kd.ty K, kit_ty kd.tuple_, _, rfl, ?_⟩
      rw [ht]
      exact if_so rfl (if_so rfl (k H (Ex.refl _)))
    | some xs =>
      obtain ⟨a, rfl, ha, hf, hl⟩ := hv
      refine ⟨_, rfl, _, _, _, _, _, rfl, .ty "tuple", (Kd.tup ha).ty K, kit_ty (Kd.tup ha).tuple_, _, rfl, if_no rfl ?_⟩
      refine ⟨_, rfl, _, _, rfl, .inr (SqT.of ha), show 2 ≤ sizeLine by decide, fun t ht => ?_⟩
      have x1 := Ex.new (o := HO.tup [.int 2, .int 3]) ht
      refine ⟨t, _, rfl, .inr (SqT.of upd_same), rfl, rfl, _, rfl, ?_⟩
      have ha1 := x1 _ _ ha
      have hall : ∀ (x y : V) (r : List V) (σ : L2.St) (H1 : Hp), H1 a = some (.tup (x :: y :: r)) → (∀ z ∈ y :: r, FlB z) → r.length ≤ 4 → σ[3]? = some (some (.ref a)) → σ.length = 5 → Ev (tCB (rAll K) (tCons (tLc (iTup K (tSl (rSlT K) (tVar 3) (tPart (tC (.int 1))) tNoPart)) (gName 4) tYes (tCallD spIsNumber E0 (tCons (tVar 4) tNil)) [4]) tNil)) σ H1 (.bl ((y :: r).all numV)) := by
        intro x y r σ H1 ha hf hl hσ hσl
        have h := ev_all (K := K) (bs := (y :: r).map numV) (te := tLc (iTup K (tSl (rSlT K) (tVar 3) (tPart (tC (.int 1))) tNoPart)) (gName 4) tYes (tCallD spIsNumber E0 (tCons (tVar 4) tNil)) [4]) (σ := σ) (H := H1) (by
          rw [List.map_map]
          have q := eu_sl (K := K) (te := tVar 3) (tl := tPart (tC (.int 1))) (th := tNoPart) (σ := σ) (H := H1) (ev_var hσ) (eo_some ev_c) eo_none (SqT.of ha) (cut1n _ _ _)
          rw [cut1] at q
          refine el_mapU (V.bl ∘ numV) q (by simp at hl ⊢; omega) (fun x => ?_) (fun z hz H2 e2 H3 e3 Q q => ?_)
          · match σ, hσl with
            | [_, _, _, _, _], _ => rfl
          · have fz := hf z hz
            refine ⟨z, ?_, z, _, rfl, fz.kd _, q H3 (Ex.refl _)⟩
            match σ, hσl with
            | [_, _, _, _, _], _ => rfl)
        rw [List.all_map] at h
        exact h
      match xs, ha, ha1, hf, hl, k with
      | [], ha, ha1, hf, hl, k => exact if_so rfl (if_so rfl (k _ x1))
      | [x], ha, ha1, hf, hl, k =>
        refine if_so rfl (if_so rfl ?_)
        have e : ljudgeO p o b (stepOf p o) (some [x]) = false := by cases x <;> rfl
        rw [e] at k
        exact k _ x1
      | [x, y, z, w2], ha, ha1, hf, hl, k =>
        refine if_so rfl (if_so rfl ?_)
        have e : ljudgeO p o b (stepOf p o) (some [x, y, z, w2]) = false := by cases x <;> cases y <;> first | rfl | (cases z <;> rfl)
        rw [e] at k
        exact k _ x1
      | x :: y :: z :: w2 :: u :: r, ha, ha1, hf, hl, k => simp at hl
      | [x, y], ha, ha1, hf, hl, k =>
        refine if_no rfl ?_
        refine hall x y [] _ _ ha1 (fun z hz => hf z (List.mem_cons_of_mem _ hz)) (by simp) rfl rfl _ (Ex.refl _) _ fun H1 e1 => ⟨_, rfl, ?_⟩
        have fx := hf x (List.mem_cons_self ..)
        have ha2 := e1 _ _ ha1
        have hp2 := e1 _ _ (x1 _ _ hp)
        have ho2 := e1 _ _ (x1 _ _ ho)
        have k' := fun H' z => k H' ((x1.trans e1).trans z)
        by_cases hy : ∃ n, y = V.int n
        · obtain ⟨n, rfl⟩ := hy
          refine if_no rfl ?_
          refine ⟨_, rfl, _, _, _, _, rfl, rfl, SqT.of ha2, rfl, scal_fl fx, _, rfl, ?_⟩
          by_cases c1 : x = V.str "modulus"
          · subst c1
            refine if_so (decide_eq_true rfl) ⟨_, rfl, _, _, rfl, .inr (SqT.of ha2), rfl, _, rfl, if_so rfl ?_⟩
            have e : ljudgeO p o b (stepOf p o) (some [.str "modulus", .int n]) = modB p o n := by
              show (decide (("modulus" : Str) = ("modulus" : Str)) && modB p o n) = _
              rw [decide_eq_true rfl, Bool.true_and]
            rw [e] at k'
            refine ⟨_, rfl, _, _, _, _, rfl, rfl, SqT.of ha2, rfl, _, _, rfl, rfl, _, rfl, ?_⟩
            by_cases d1 : n < 2
            · rw [mod_case (.inl (by omega))] at k'
              exact if_so (decide_eq_true d1) (if_so rfl (k' H1 (Ex.refl _)))
            · refine if_no (decide_eq_false d1) ?_
              have n0 : 0 < n := by omega
              refine ⟨_, rfl, _, _, _, _, rfl, rfl, SqT.of hp2, rfl, .inl ⟨_, rfl, _, rfl, _, _, _, _, rfl, rfl, SqT.of ha2, rfl, _, _, rfl, rfl, n0, rfl, _, rfl, ?_⟩⟩
              by_cases d2 : p.1 % n = 0
              · refine if_no (nei_f d2) ?_
                refine ⟨_, rfl, _, _, _, _, rfl, rfl, SqT.of ho2, rfl, .inl ⟨_, rfl, _, rfl, _, _, _, _, rfl, rfl, SqT.of ha2, rfl, _, _, rfl, rfl, n0, rfl, _, rfl, ?_⟩⟩
                by_cases d3 : o.1 % n = 0
                · refine if_no (nei_f d3) ?_
                  refine ⟨_, rfl, _, _, _, _, rfl, rfl, SqT.of ho2, rfl, _, rfl, _, _, _, _, rfl, rfl, SqT.of hp2, rfl, _, _, rfl, rfl, .inl ⟨_, rfl, _, rfl, _, _, _, _, rfl, rfl, SqT.of ha2, rfl, _, _, rfl, rfl, n0, rfl, ?_⟩⟩
                  have e2 : modB p o n = !decide ((o.2 - p.2) % n = 0) := by
                    unfold modB
                    rw [decide_eq_true (by omega : 2 ≤ n), decide_eq_true d2, decide_eq_true d3]
                    rfl
                  rw [e2] at k'
                  have e3 : decide (V.int ((o.2 - p.2) % n) = V.int 0) = decide ((o.2 - p.2) % n = 0) := by rw [decide_eq_decide]; simp
                  rw [← e3] at k'
                  exact k' H1 (Ex.refl _)
                · rw [mod_case (.inr (.inr d3))] at k'
                  exact if_so (nei_t d3) (k' H1 (Ex.refl _))
              · rw [mod_case (.inr (.inl d2))] at k'
                exact if_so (nei_t d2) (if_so rfl (k' H1 (Ex.refl _)))
          · refine if_no (decide_eq_false c1) (if_no rfl ?_)
            have e : ljudgeO p o b (stepOf p o) (some [x, .int n]) = false := by
              cases x with
              | str s =>
                show (decide (s = ("modulus" : Str)) && modB p o n) = _
                rw [decide_eq_false (fun z => c1 (by rw [z])), Bool.false_and]
              | _ => rfl
            rw [e] at k'
            refine ⟨_, rfl, _, _, _, _, rfl, rfl, SqT.of ha2, rfl, scal_fl fx, _, rfl, ?_⟩
            refine both (fun _ t => ?_) (fun _ t => if_no rfl t) ?_
            · exact ⟨_, rfl, _, _, rfl, .inr (SqT.of ha2), rfl, _, rfl, if_no rfl t⟩
            refine ⟨_, rfl, _, _, _, _, rfl, rfl, SqT.of ha2, rfl, scal_fl fx, _, rfl, ?_⟩
            refine ite2 (fun _ => ?_) (fun _ => ?_)
            · exact ⟨_, rfl, _, _, rfl, .inr (SqT.of ha2), rfl, _, rfl, if_no rfl (k' H1 (Ex.refl _))⟩
            · exact k' H1 (Ex.refl _)
        · have e0 : ([y].all numV) = false := by
            cases y <;> first | rfl | exact absurd ⟨_, rfl⟩ hy
          rw [e0]
          refine if_so rfl ?_
          have e : ljudgeO p o b (stepOf p o) (some [x, y]) = false := by
            cases x <;> cases y <;> first | rfl | exact absurd ⟨_, rfl⟩ hy
          rw [e] at k'
          exact k' H1 (Ex.refl _)
      | [x, y, z], ha, ha1, hf, hl, k =>
        refine if_no rfl ?_
        refine hall x y [z] _ _ ha1 (fun z hz => hf z (List.mem_cons_of_mem _ hz)) (by simp) rfl rfl _ (Ex.refl _) _ fun H1 e1 => ⟨_, rfl, ?_⟩
        have fx := hf x (List.mem_cons_self ..)
        have ha2 := e1 _ _ ha1
        have hp2 := e1 _ _ (x1 _ _ hp)
        have ho2 := e1 _ _ (x1 _ _ ho)
        have hb2 := e1 _ _ (x1 _ _ hb)
        have k' := fun H' z => k H' ((x1.trans e1).trans z)
        by_cases hyz : ∃ m n, y = V.int m ∧ z = V.int n
        · obtain ⟨m, n, rfl, rfl⟩ := hyz
          have bn : Bd2 9000 (m, n) := ⟨hf (.int m) (by simp), hf (.int n) (by simp)⟩
          refine if_no rfl ?_
          refine ⟨_, rfl, _, _, _, _, rfl, rfl, SqT.of ha2, rfl, scal_fl fx, _, rfl, ?_⟩
          refine both (fun _ t => ?_) (fun _ t => if_no rfl t) ?_
          · exact ⟨_, rfl, _, _, rfl, .inr (SqT.of ha2), rfl, _, rfl, if_no rfl t⟩
          refine ⟨_, rfl, _, _, _, _, rfl, rfl, SqT.of ha2, rfl, scal_fl fx, _, rfl, ?_⟩
          by_cases c1 : x = V.str "nearest"
          · subst c1
            refine if_so (decide_eq_true rfl) ⟨_, rfl, _, _, rfl, .inr (SqT.of ha2), rfl, _, rfl, if_so rfl ?_⟩
            have e : ljudgeO p o b (stepOf p o) (some [.str "nearest", .int m, .int n]) = nearB p o b (stepOf p o) (m, n) := by
              rw [lj3, if_pos rfl]
            rw [e] at k'
            refine ⟨_, rfl, _, rfl, _, rfl, _, rfl, _, rfl, a, _, rfl, SqT.of ha2, cut1n _ _ _, fun t2 ht2 => ?_⟩
            rw [cut1]
            have et := Ex.new (o := HO.tup [.int m, .int n]) ht2
            exact ⟨pa, oa, ba, t2, p, o, (m, n), b, rfl, et _ _ hp2, et _ _ ho2, et _ _ hb2, upd_same, bp, bo, nz, bn, fun H' e' => k' H' (et.trans e')⟩
          · refine if_no (decide_eq_false c1) (if_no rfl ?_)
            refine ⟨_, rfl, _, _, _, _, rfl, rfl, SqT.of ha2, rfl, scal_fl fx, _, rfl, ?_⟩
            by_cases c2 : x = V.str "gap"
            · subst c2
              refine if_so (decide_eq_true rfl) ⟨_, rfl, _, _, rfl, .inr (SqT.of ha2), rfl, _, rfl, if_so rfl ?_⟩
              have e : ljudgeO p o b (stepOf p o) (some [.str "gap", .int m, .int n]) = gapB p o b (stepOf p o) (m, n) := by
                rw [lj3, if_neg (by decide), decide_eq_true rfl, Bool.true_and]
              rw [e] at k'
              refine ⟨_, rfl, _, rfl, _, rfl, _, rfl, _, rfl, a, _, rfl, SqT.of ha2, cut1n _ _ _, fun t2 ht2 => ?_⟩
              rw [cut1]
              have et := Ex.new (o := HO.tup [.int m, .int n]) ht2
              exact ⟨pa, oa, ba, t2, p, o, (m, n), b, rfl, et _ _ hp2, et _ _ ho2, et _ _ hb2, upd_same, bp, bo, nz, bn, fun H' e' => k' H' (et.trans e')⟩
            · refine if_no (decide_eq_false c2) ?_
              have e : ljudgeO p o b (stepOf p o) (some [x, .int m, .int n]) = false := by
                cases x with
                | str s =>
                  rw [lj3, if_neg (fun z => c1 (by rw [z])), decide_eq_false (fun z => c2 (by rw [z])), Bool.false_and]
                | _ => rfl
              rw [e] at k'
              exact k' H1 (Ex.refl _)
        · have e0 : ([y, z].all numV) = false := by
            cases y <;> cases z <;> first | rfl | exact absurd ⟨_, _, rfl, rfl⟩ hyz
          rw [e0]
          refine if_so rfl ?_
          have e : ljudgeO p o b (stepOf p o) (some [x, y, z]) = false := by
            cases x <;> cases y <;> cases z <;> first | rfl | exact absurd ⟨_, _, rfl, rfl⟩ hyz
          rw [e] at k'
          exact k' H1 (Ex.refl _)
end
end My
set_option maxHeartbeats 4000000
namespace My
open PySem L2 Lf Evl StX
abbrev s_law_steps : Stmt := top 32
theorem sc_law_steps : FnScope ["_law_dice_here", "_law_one_here", "_law_other"] ["_law_dice_here"] (defScope s_law_steps) := ⟨rfl, rfl, rfl, by decide +kernel, rfl, by decide +kernel, by decide +kernel⟩
abbrev s_law_places : Stmt := top 46
theorem sc_law_places : FnScope ["_law_dice_here", "_law_one_here", "_law_other", "_law_steps_here"] ["_law_dice_here"] (defScope s_law_places) := ⟨rfl, rfl, rfl, by decide +kernel, rfl, by decide +kernel, by decide +kernel⟩
abbrev s_law_bounds : Stmt := top 42
theorem sc_law_bounds : FnScope ["_law_dice_here", "_law_most", "_law_low", "_law_high", "_law_first"] ["_law_dice_here", "_law_most"] (defScope s_law_bounds) := ⟨rfl, rfl, rfl, by decide +kernel, rfl, by decide +kernel, by decide +kernel⟩
def spSteps : Sp := fun vs H Q _ => ∃ (d : Addr) (xs : List V), vs = [.ref d] ∧ H d = some (.lst xs) ∧ DiceL xs ∧ ∀ r H' ys p, Eb d H H' → H' d = some (.lst ys) → DiceL ys → H' r = some (tup2 p) → Bd2 64 p → ¬ (p.1 = 0 ∧ p.2 = 0) → Q (.ref r) H'
def spPlaces : Sp := fun vs H Q _ => ∃ (d : Addr) (xs : List V), vs = [.ref d] ∧ H d = some (.lst xs) ∧ DiceL xs ∧ ∀ r H' ys pa oa p o, Eb d H H' → H' d = some (.lst ys) → DiceL ys → H' r = some (.tup [.ref pa, .ref oa]) → H' pa = some (tup2 p) → H' oa = some (tup2 o) → Bd2 64 p → Bd2 64 o → ¬ (p.1 = 0 ∧ o.1 = 0) → Q (.ref r) H'
/-- the bounds that the law draws -/
structure LBnd (b : Mt.Bnd) : Prop where
  lo : 0 ≤ b.low ∧ b.low < 9
  hi : ∀ h, b.high = some h → -2 ≤ h ∧ h < 20
  fi : 0 ≤ b.first ∧ b.first < 9
  ro : ∀ n, b.rounds = some n → 0 ≤ n ∧ n < 27
def spBounds : Sp := fun vs H Q _ => ∃ (d : Addr) (xs : List V), vs = [.ref d, .int 9] ∧ H d = some (.lst xs) ∧ DiceL xs ∧ ∀ r H' ys b, Eb d H H' → H' d = some (.lst ys) → DiceL ys → H' r = some (bndT b) → LBnd b → Q (.ref r) H'
theorem bd18 {i : Int} (h1 : -1000000000000000000 < i) (h2 : i < 1000000000000000000) : Bd 64 i := by
  unfold Bd
  omega
theorem bd_small {i : Int} (h1 : -1000 < i) (h2 : i < 1000) : Bd 64 i := by
  unfold Bd
  omega
section
variable {P : Program} {w : World} {K : PySem.W.Frag} {mg : Str → Option Value} {base : Heap} {CN fI CA FE : Addr}
theorem ok_law_steps (T : Txt P K mg CN fI CA FE) (D : Df K mg "_law_steps" s_law_steps) (D_law_next : DefOk P w K mg base CX0 1 "_law_next" ["_law_dice_here", "_law_many"] spNext)
    (D_law_whole : DefOk P w K mg base CX0 3 "_law_whole" ["_law_dice_here"] (spDraw 1000000000000000000)) : DefOk P w K mg base CX0 4 "_law_steps" ["_law_dice_here"] spSteps := by
  refine D.ok sc_law_steps (fun _ _ _ _ _ _ us hl => match us, hl with | [_], _ => rfl) (fun vs H Q E h => ?_) (fun f cdv A outer s H vs Q E hr h => ?_)
  · obtain ⟨_, _, rfl, _⟩ := h
    rfl
  · obtain ⟨d, xs, rfl, hd, hx, k⟩ := h
    refine ⟨_, (pss_cons (ps_par (by rfl) sc_law_steps.nd (i := 1) (j := 2) rfl rfl (by decide) rfl rfl (pa_cons (pe_callD D_law_whole (hr.mono (by decide)) pass0 (pa_cons (pv 0) pa_nil)) (pa_cons (pe_callD D_law_whole (hr.mono (by decide)) pass0 (pa_cons (pv 0) pa_nil)) pa_nil)) (by rfl))
 (pss_cons (ps_if (pt_cmpR op_eq (pe_callD D_law_next (hr.mono (by decide)) pass0 (pa_cons (pv 0) (pa_cons pe_int pa_nil))) pe_int (nomark _))
 (pss_one (ps_set (i := 2) sc_law_steps.nd rfl (Or.inl rfl) (pv 1)))
 pss_nil)
 (pss_one (ps_ret (pe_ifExp (PW.pt (pw_and (pt_cmpR op_eq (pv 1) pe_int (nomark _)) (pw_and1 (pt_cmpR op_eq (pv 2) pe_int (nomark _))))) (pe_tup (pa_cons pe_int (pa_cons pe_int pa_nil))) (pe_tup (pa_cons (pv 1) (pa_cons (pv 2) pa_nil)))))))), ?_⟩
    refine ⟨_, rfl, d, xs, rfl, hd, hx, fun x ys a1 a2 hy => ?_⟩
    refine ⟨_, rfl, d, ys, rfl, upd_same, hy, fun y zs b1 b2 hz => ?_⟩
    refine ⟨_, _, rfl, ?_⟩
    refine ⟨_, rfl, d, _, zs, rfl, upd_same, hz, by decide, by decide, fun r ws r0 r1 hw => ?_⟩
    rw [upd_upd, upd_upd]
    refine ⟨rfl, _, rfl, ?_⟩
    have eb : Eb d H (upd H d (.lst ws)) := Eb.upd
    have hd' : upd H d (.lst ws) d = some (.lst ws) := upd_same
    generalize upd H d (.lst ws) = H1 at eb hd'
    have fin : ∀ u : Int, -1000000000000000000 < u → u < 1000000000000000000 → tRet (tIf (tAnd (tTest (tOp rEq (tVar 1) (tC (.int 0)))) (tTest (tOp rEq (tVar 2) (tC (.int 0))))) (tTup (tCons (tC (.int 1)) (tCons (tC (.int 0)) tNil))) (tTup (tCons (tVar 1) (tCons (tVar 2) tNil))))
        { nx := fun _ H' => Q .non H', rt := Q } [some (.ref d), some (.int x), some (.int u)] H1 := by
      intro u u1 u2
      refine ⟨_, rfl, rfl, _, rfl, ?_⟩
      have alt : ¬ (x = 0 ∧ u = 0) → tTup (tCons (tVar 1) (tCons (tVar 2) tNil)) [some (.ref d), some (.int x), some (.int u)] H1 Q := fun nz =>
        ⟨_, rfl, _, rfl, show 2 ≤ sizeLine by decide, fun t ht => k t _ ws (x, u) (eb.trans (Eb.of (Ex.new ht))) (Ex.new ht _ _ hd') hw upd_same ⟨bd18 a1 a2, bd18 u1 u2⟩ nz⟩
      by_cases c1 : x = 0
      · refine if_so (eqi_t c1) ⟨_, rfl, rfl, _, rfl, ?_⟩
        by_cases c2 : u = 0
        · exact if_so (eqi_t c2) ⟨show 2 ≤ sizeLine by decide, fun t ht => k t _ ws (1, 0) (eb.trans (Eb.of (Ex.new ht))) (Ex.new ht _ _ hd') hw upd_same ⟨Bd.lit (by decide), Bd.lit (by decide)⟩ (by simp)⟩
        · exact if_no (eqi_f c2) (alt fun z => c2 z.2)
      · exact if_no (eqi_f c1) (if_no rfl (alt fun z => c1 z.1))
    refine ite2 (fun _ => ?_) (fun _ => ?_)
    · exact ⟨_, rfl, fin x a1 a2⟩
    · exact fin y b1 b2
theorem ok_law_places (T : Txt P K mg CN fI CA FE) (D : Df K mg "_law_places" s_law_places) (D_law_next : DefOk P w K mg base CX0 1 "_law_next" ["_law_dice_here", "_law_many"] spNext) (D_law_steps : DefOk P w K mg base CX0 4 "_law_steps" ["_law_dice_here"] spSteps)
    (D_law_whole : DefOk P w K mg base CX0 3 "_law_whole" ["_law_dice_here"] (spDraw 1000000000000000000)) : DefOk P w K mg base CX0 5 "_law_places" ["_law_dice_here"] spPlaces := by
  refine D.ok sc_law_places (fun _ _ _ _ _ _ us hl => match us, hl with | [_], _ => rfl) (fun vs H Q E h => ?_) (fun f cdv A outer s H vs Q E hr h => ?_)
  · obtain ⟨_, _, rfl, _⟩ := h
    rfl
  · obtain ⟨d, xs, rfl, hd, hx, k⟩ := h
    refine ⟨_, (pss_cons (ps_if (pt_cmpR op_eq (pe_callD D_law_next (hr.mono (by decide)) pass0 (pa_cons (pv 0) (pa_cons pe_int pa_nil))) pe_int (nomark _))
 (pss_cons (ps_par (by rfl) sc_law_places.nd (i := 1) (j := 2) rfl rfl (by decide) rfl rfl (pa_cons (pe_op op_sub (pe_callD D_law_next (hr.mono (by decide)) pass0 (pa_cons (pv 0) (pa_cons pe_int pa_nil))) pe_int) (pa_cons (pe_op op_sub (pe_callD D_law_next (hr.mono (by decide)) pass0 (pa_cons (pv 0) (pa_cons pe_int pa_nil))) pe_int) pa_nil)) (by rfl))
 (pss_cons (ps_set (i := 1) sc_law_places.nd rfl (Or.inl rfl) (pe_ifExp (PW.pt (pw_and (pt_cmpR op_eq (pv 1) pe_int (nomark _)) (pw_and1 (pt_cmpR op_eq (pv 2) pe_int (nomark _))))) pe_int (pv 1)))
 (pss_one (ps_ret (pe_tup (pa_cons (pe_tup (pa_cons (pv 1) (pa_cons (pe_op op_sub (pe_callD D_law_next (hr.mono (by decide)) pass0 (pa_cons (pv 0) (pa_cons pe_int pa_nil))) pe_int) pa_nil))) (pa_cons (pe_tup (pa_cons (pv 2) (pa_cons (pe_op op_sub (pe_callD D_law_next (hr.mono (by decide)) pass0 (pa_cons (pv 0) (pa_cons pe_int pa_nil))) pe_int) pa_nil))) pa_nil)))))))
 pss_nil)
 (pss_cons (ps_set (i := 3) sc_law_places.nd rfl (Or.inl rfl) (pe_callD D_law_steps (hr.mono (by decide)) pass0 (pa_cons (pv 0) pa_nil)))
 (pss_one (ps_ret (pe_tup (pa_cons (pe_tup (pa_cons (pe_ix ix_tup (pv 3) pe_int (fun _ _ => rfl)) (pa_cons (pe_callD D_law_whole (hr.mono (by decide)) pass0 (pa_cons (pv 0) pa_nil)) pa_nil))) (pa_cons (pe_tup (pa_cons (pe_ix ix_tup (pv 3) pe_int (fun _ _ => rfl)) (pa_cons (pe_callD D_law_whole (hr.mono (by decide)) pass0 (pa_cons (pv 0) pa_nil)) pa_nil))) pa_nil))))))), ?_⟩
    refine ⟨_, rfl, d, _, xs, rfl, hd, hx, by decide, by decide, fun r ys r0 r1 hy => ?_⟩
    refine ⟨rfl, _, rfl, ?_⟩
    have eb : Eb d H (upd H d (.lst ys)) := Eb.upd
    have hd1 : upd H d (.lst ys) d = some (.lst ys) := upd_same
    generalize upd H d (.lst ys) = H1 at eb hd1
    refine ite2 (fun _ => ?_) (fun _ => ?_)
    · refine ⟨_, rfl, d, _, ys, rfl, hd1, hy, by decide, by decide, fun x zs x0 x1 hz => ⟨_, _, rfl, rfl, ?_⟩⟩
      refine ⟨_, rfl, d, _, zs, rfl, upd_same, hz, by decide, by decide, fun y ws y0 y1 hw => ⟨_, _, rfl, rfl, _, _, rfl, ?_⟩⟩
      rw [upd_upd]
      have eb2 : Eb d H (upd H1 d (.lst ws)) := eb.trans Eb.upd
      have hd2 : upd H1 d (.lst ws) d = some (.lst ws) := upd_same
      generalize upd H1 d (.lst ws) = H2 at eb2 hd2
      have fin : ∀ u : Int, -1000 < u → u < 1000 → ¬ (u = 0 ∧ y - 4 = 0) → tRet (tTup (tCons (tTup (tCons (tVar 1) (tCons (tOp (rI0 fun i j => .int (i - j)) (tCallD spNext E0 (tCons (tVar 0) (tCons (tC (.int 25)) tNil))) (tC (.int 12))) tNil))) (tCons (tTup (tCons (tVar 2) (tCons (tOp (rI0 fun i j => .int (i - j)) (tCallD spNext E0 (tCons (tVar 0) (tCons (tC (.int 25)) tNil))) (tC (.int 12))) tNil))) tNil)))
          { nx := fun _ H' => Q .non H', rt := Q } [some (.ref d), some (.int u), some (.int (y - 4)), none] H2 := by
        intro u u1 u2 nz
        refine ⟨_, rfl, _, rfl, d, _, ws, rfl, hd2, hw, by decide, by decide, fun a as a0 a1 ha => ⟨_, _, rfl, rfl, show 2 ≤ sizeLine by decide, fun t1 ht1 => ?_⟩⟩
        have w1 := Ex.new (o := tup2 (u, a - 12)) ht1
        refine ⟨_, rfl, _, rfl, d, _, as, rfl, w1 _ _ upd_same, ha, by decide, by decide, fun c cs c0 c1 hc => ⟨_, _, rfl, rfl, show 2 ≤ sizeLine by decide, fun t2 ht2 => ?_⟩⟩
        refine ⟨show 2 ≤ sizeLine by decide, fun t3 ht3 => ?_⟩
        have w2 := Ex.new (o := tup2 (y - 4, c - 12)) ht2
        have w3 := Ex.new (o := HO.tup [.ref t1, .ref t2]) ht3
        have n1 : t1 ≠ d := fun z => by rw [z, upd_same] at ht1; cases ht1
        refine k t3 _ cs t1 t2 (u, a - 12) (y - 4, c - 12) ((((eb2.trans Eb.upd).trans (Eb.of w1)).trans Eb.upd).trans (Eb.of (w2.trans w3))) (w3 _ _ (w2 _ _ upd_same)) hc upd_same (w3 _ _ (w2 _ _ ?_)) (w3 _ _ upd_same) ⟨bd_small u1 u2, bd_small (by omega) (by omega)⟩ ⟨bd_small (by omega) (by omega), bd_small (by omega) (by omega)⟩ nz
        rw [upd_ne n1]
        exact upd_same
      refine ⟨_, rfl, rfl, _, rfl, ?_⟩
      by_cases c1 : x - 4 = 0
      · refine if_so (eqi_t c1) ⟨_, rfl, rfl, _, rfl, ?_⟩
        by_cases c2 : y - 4 = 0
        · exact if_so (eqi_t c2) (fin 1 (by decide) (by decide) (by omega))
        · exact if_no (eqi_f c2) ⟨_, rfl, fin (x - 4) (by omega) (by omega) (fun z => c2 z.2)⟩
      · exact if_no (eqi_f c1) (if_no rfl ⟨_, rfl, fin (x - 4) (by omega) (by omega) (fun z => c1 z.1)⟩)
    · refine ⟨_, rfl, d, ys, rfl, hd1, hy, fun sa H2 zs st eb2 hd2 hz hs bs nz => ?_⟩
      refine ⟨_, rfl, _, _, _, _, rfl, rfl, SqT.of hs, rfl, _, rfl, d, zs, rfl, hd2, hz, fun x as x0 x1 ha => ⟨show 2 ≤ sizeLine by decide, fun t1 ht1 => ?_⟩⟩
      have ns : sa ≠ d := fun z => by rw [z, hd2] at hs; cases hs
      have w1 := Ex.new (o := tup2 (st.1, x)) ht1
      have hs2 : upd (upd H2 d (.lst as)) t1 (tup2 (st.1, x)) sa = some (tup2 st) := w1 _ _ (by rw [upd_ne ns]; exact hs)
      refine ⟨_, rfl, _, _, _, _, rfl, rfl, SqT.of hs2, rfl, _, rfl, d, as, rfl, w1 _ _ upd_same, ha, fun y cs y0 y1 hc => ⟨show 2 ≤ sizeLine by decide, fun t2 ht2 => ?_⟩⟩
      refine ⟨show 2 ≤ sizeLine by decide, fun t3 ht3 => ?_⟩
      have w2 := Ex.new (o := tup2 (st.2, y)) ht2
      have w3 := Ex.new (o := HO.tup [.ref t1, .ref t2]) ht3
      have n1 : t1 ≠ d := fun z => by rw [z, upd_same] at ht1; cases ht1
      refine k t3 _ cs t1 t2 (st.1, x) (st.2, y) (((((eb.trans eb2).trans Eb.upd).trans (Eb.of w1)).trans Eb.upd).trans (Eb.of (w2.trans w3))) (w3 _ _ (w2 _ _ upd_same)) hc upd_same (w3 _ _ (w2 _ _ ?_)) (w3 _ _ upd_same) ⟨bs.1, bd18 x0 x1⟩ ⟨bs.2, bd18 y0 y1⟩ nz
      rw [upd_ne n1]
      exact upd_same
theorem ok_law_bounds (T : Txt P K mg CN fI CA FE) (D : Df K mg "_law_bounds" s_law_bounds) (D_law_next : DefOk P w K mg base CX0 1 "_law_next" ["_law_dice_here", "_law_many"] spNext) : DefOk P w K mg base CX0 2 "_law_bounds" ["_law_dice_here", "_law_most"] spBounds := by
  refine D.ok sc_law_bounds (fun _ _ _ _ _ _ us hl => match us, hl with | [_, _], _ => rfl) (fun vs H Q E h => ?_) (fun f cdv A outer s H vs Q E hr h => ?_)
  · obtain ⟨_, _, rfl, _⟩ := h
    rfl
  · obtain ⟨d, xs, rfl, hd, hx, k⟩ := h
    refine ⟨_, (pss_cons (ps_set (i := 2) sc_law_bounds.nd rfl (Or.inl rfl) (pe_callD D_law_next (hr.mono (by decide)) pass0 (pa_cons (pv 0) (pa_cons (pv 1) pa_nil))))
 (pss_cons (ps_set (i := 3) sc_law_bounds.nd rfl (Or.inl rfl) (pe_ifExp (pt_cmpR op_eq (pe_callD D_law_next (hr.mono (by decide)) pass0 (pa_cons (pv 0) (pa_cons pe_int pa_nil))) pe_int (nomark _)) (pe_op op_add (pe_op op_sub (pv 2) pe_int) (pe_callD D_law_next (hr.mono (by decide)) pass0 (pa_cons (pv 0) (pa_cons (pv 1) pa_nil)))) pe_non))
 (pss_cons (ps_set (i := 4) sc_law_bounds.nd rfl (Or.inl rfl) (pe_ifExp (pt_cmpR op_eq (pe_callD D_law_next (hr.mono (by decide)) pass0 (pa_cons (pv 0) (pa_cons pe_int pa_nil))) pe_int (nomark _)) (pe_callD D_law_next (hr.mono (by decide)) pass0 (pa_cons (pv 0) (pa_cons (pv 1) pa_nil))) pe_int))
 (pss_one (ps_ret (pe_tup (pa_cons (pv 2) (pa_cons (pv 3) (pa_cons (pv 4) (pa_cons (pe_ifExp (pt_cmpR op_eq (pe_callD D_law_next (hr.mono (by decide)) pass0 (pa_cons (pv 0) (pa_cons pe_int pa_nil))) pe_int (nomark _)) (pe_callD D_law_next (hr.mono (by decide)) pass0 (pa_cons (pv 0) (pa_cons (pe_op op_mulW pe_int (pv 1)) pa_nil))) pe_non) pa_nil)))))))))), ?_⟩
    have f3 : ∀ (lo : Int) (hi : Option Int) (fi : Int) (H3 : Hp) (ws : List V), 0 ≤ lo → lo < 9 → (∀ h, hi = some h → -2 ≤ h ∧ h < 20) → 0 ≤ fi → fi < 9 → Eb d H H3 → H3 d = some (.lst ws) → DiceL ws →
        tRet (tTup (tCons (tVar 2) (tCons (tVar 3) (tCons (tVar 4) (tCons (tIf (tTest (tOp rEq (tCallD spNext E0 (tCons (tVar 0) (tCons (tC (.int 2)) tNil))) (tC (.int 1)))) (tCallD spNext E0 (tCons (tVar 0) (tCons (tOp (rI CMulW fun i j => .int (i * j)) (tC (.int 3)) (tVar 1)) tNil))) (tC .non)) tNil)))))
          { nx := fun _ H' => Q .non H', rt := Q } [some (.ref d), some (.int 9), some (.int lo), some (oV hi), some (.int fi)] H3 := by
      intro lo hi fi H3 ws l0 l1 h1 f0 f1 eb hd3 hw
      refine ⟨_, rfl, _, rfl, _, rfl, _, rfl, d, _, ws, rfl, hd3, hw, by decide, by decide, fun r as r0 r1 ha => ?_⟩
      refine ⟨rfl, _, rfl, ?_⟩
      refine ite2 (fun _ => ?_) (fun _ => ?_)
      · refine ⟨_, rfl, _, rfl, _, _, rfl, rfl, (by unfold CMulW; decide +kernel), ?_⟩
        refine ⟨d, _, as, rfl, upd_same, ha, by decide, by decide, fun n cs n0 n1 hc => ⟨show 4 ≤ sizeLine by decide, fun t ht => ?_⟩⟩
        exact k t _ cs ⟨lo, hi, fi, some n⟩ (((eb.trans Eb.upd).trans Eb.upd).trans (Eb.of (Ex.new ht))) (Ex.new ht _ _ upd_same) hc upd_same ⟨⟨l0, l1⟩, h1, ⟨f0, f1⟩, fun m hm => by cases hm; exact ⟨n0, n1⟩⟩
      · refine ⟨show 4 ≤ sizeLine by decide, fun t ht => ?_⟩
        exact k t _ as ⟨lo, hi, fi, none⟩ ((eb.trans Eb.upd).trans (Eb.of (Ex.new ht))) (Ex.new ht _ _ upd_same) ha upd_same ⟨⟨l0, l1⟩, h1, ⟨f0, f1⟩, fun m hm => by cases hm⟩
    have f2 : ∀ (lo : Int) (hi : Option Int) (H3 : Hp) (ws : List V), 0 ≤ lo → lo < 9 → (∀ h, hi = some h → -2 ≤ h ∧ h < 20) → Eb d H H3 → H3 d = some (.lst ws) → DiceL ws →
        tSeq (tAsg (tIf (tTest (tOp rEq (tCallD spNext E0 (tCons (tVar 0) (tCons (tC (.int 2)) tNil))) (tC (.int 1)))) (tCallD spNext E0 (tCons (tVar 0) (tCons (tVar 1) tNil))) (tC (.int 0))) (gName 4))
          (tRet (tTup (tCons (tVar 2) (tCons (tVar 3) (tCons (tVar 4) (tCons (tIf (tTest (tOp rEq (tCallD spNext E0 (tCons (tVar 0) (tCons (tC (.int 2)) tNil))) (tC (.int 1)))) (tCallD spNext E0 (tCons (tVar 0) (tCons (tOp (rI CMulW fun i j => .int (i * j)) (tC (.int 3)) (tVar 1)) tNil))) (tC .non)) tNil))))))
          { nx := fun _ H' => Q .non H', rt := Q } [some (.ref d), some (.int 9), some (.int lo), some (oV hi), none] H3 := by
      intro lo hi H3 ws l0 l1 h1 eb hd3 hw
      refine ⟨_, rfl, d, _, ws, rfl, hd3, hw, by decide, by decide, fun r as r0 r1 ha => ?_⟩
      refine ⟨rfl, _, rfl, ?_⟩
      refine ite2 (fun _ => ?_) (fun _ => ?_)
      · refine ⟨_, rfl, _, rfl, d, _, as, rfl, upd_same, ha, by decide, by decide, fun n cs n0 n1 hc => ?_⟩
        exact f3 lo hi n _ cs l0 l1 h1 n0 n1 ((eb.trans Eb.upd).trans Eb.upd) upd_same hc
      · exact f3 lo hi 0 _ as l0 l1 h1 (by decide) (by decide) (eb.trans Eb.upd) upd_same ha
    refine ⟨_, rfl, _, rfl, d, _, xs, rfl, hd, hx, by decide, by decide, fun lo ys l0 l1 hy => ?_⟩
    refine ⟨_, rfl, d, _, ys, rfl, upd_same, hy, by decide, by decide, fun r as r0 r1 ha => ?_⟩
    refine ⟨rfl, _, rfl, ?_⟩
    refine ite2 (fun _ => ?_) (fun _ => ?_)
    · refine ⟨_, rfl, _, _, rfl, rfl, ?_⟩
      refine ⟨_, rfl, _, rfl, d, _, as, rfl, upd_same, ha, by decide, by decide, fun n cs n0 n1 hc => ⟨_, _, rfl, rfl, ?_⟩⟩
      exact f2 lo (some (lo - 2 + n)) _ cs l0 l1 (fun h hh => by cases hh; omega) ((Eb.upd.trans Eb.upd).trans Eb.upd) upd_same hc
    · exact f2 lo none _ as l0 l1 (fun h hh => by cases hh) (Eb.upd.trans Eb.upd) upd_same ha
end
end My
set_option maxHeartbeats 4000000
namespace My
open PySem L2 Lf Evl StX
def kwd : List (Str × V) := [("low", .int 0), ("high", .non), ("first", .int 0), ("rounds", .non)]
abbrev FunI (K : PySem.W.Frag) (f : Addr) (fd : FuncData) : Prop := FunD K "__init__" "Meetings.__init__" (defArgs s_Meetings___init__) (defBody s_Meetings___init__) (defScope s_Meetings___init__) [] kwd f fd
abbrev psI : List Str := ["self", "place", "other", "low", "high", "first", "rounds"]
section
variable {K : PySem.W.Frag} {f : Addr} {fd : FuncData}
theorem bind0 (F : FunI K f fd) : ∃ ds, Vals [V.int 0, .non, .int 0, .non] ds ∧ Binds K fd psI ds :=
  F.binds0 3 (by intro z; cases z) rfl fun D doc pm an cdv ct us ks l1 l2 => match us, l1, ks, l2 with
    | [a, b, c], _, [k1, k2, k3, k4], _ => ⟨_, _, _, _, _, _, rfl, rfl, _, _, _, _, _, _, rfl, rfl, _, _, _, _, _, _, rfl, rfl, _, _, _, _, _, _, rfl, rfl, rfl⟩
theorem bindB (F : FunI K f fd) : ∃ mv : List Value, KBn K fd psI 3 ["low"] (fun us ws => us ++ (ws ++ mv)) (fun vs zs => vs ++ (zs ++ [.non, .int 0, .non])) :=
  F.kbinds0 3 ["low"] [("high", .non), ("first", .int 0), ("rounds", .non)] (fun us mv ws => us ++ (ws ++ mv)) (by intro z; cases z) (by unfold kwd; simp) (fun h1 h2 h3 => h1.append (h3.append h2)) fun D doc pm an cdv ct us mv ws l1 l2 l3 => match us, l1, mv, l2, ws, l3 with
    | [a, b, c], _, [k1, k2, k3], _, [w1], _ => ⟨_, _, _, _, _, _, rfl, rfl, _, _, _, _, _, _, rfl, rfl, _, _, _, _, _, _, rfl, rfl, rfl⟩
theorem bindC (F : FunI K f fd) : ∃ mv : List Value, KBn K fd psI 3 ["first", "low"] (fun us ws => us ++ (ws.drop 1 ++ (mv.take 1 ++ (ws.take 1 ++ mv.drop 1)))) (fun vs zs => vs ++ (zs.drop 1 ++ ([V.non].take 1 ++ (zs.take 1 ++ [V.non, V.non].drop 1)))) :=
  F.kbinds0 3 ["first", "low"] [("high", .non), ("rounds", .non)] (fun us mv ws => us ++ (ws.drop 1 ++ (mv.take 1 ++ (ws.take 1 ++ mv.drop 1)))) (by intro z; cases z) (by unfold kwd; simp) (fun h1 h2 h3 => h1.append ((h3.drop 1).append ((h2.take 1).append ((h3.take 1).append (h2.drop 1))))) fun D doc pm an cdv ct us mv ws l1 l2 l3 => match us, l1, mv, l2, ws, l3 with
    | [a, b, c], _, [k1, k2], _, [w1, w2], _ => ⟨_, _, _, _, _, _, rfl, rfl, _, _, _, _, _, _, rfl, rfl, rfl⟩
theorem bindD (F : FunI K f fd) : ∃ mv : List Value, KBn K fd psI 3 ["low", "high", "first", "rounds"] (fun us ws => us ++ (ws ++ mv)) (fun vs zs => vs ++ (zs ++ [])) :=
  F.kbinds0 3 ["low", "high", "first", "rounds"] [] (fun us mv ws => us ++ (ws ++ mv)) (by intro z; cases z) (by simp) (fun h1 h2 h3 => h1.append (h3.append h2)) fun D doc pm an cdv ct us mv ws l1 l2 l3 => match us, l1, mv, l2, ws, l3 with
    | [a, b, c], _, [], _, [w1, w2, w3, w4], _ => rfl
end
abbrev s_law_made : Stmt := top 37
theorem sc_law_made : FnScope ["_law_place", "_law_other", "_law_bounds_here", "_law_low", "_law_high", "_law_first", "_law_rounds"] ["_law_place", "_law_other", "_law_bounds_here"] (defScope s_law_made) := ⟨rfl, rfl, rfl, by decide +kernel, rfl, by decide +kernel, by decide +kernel⟩
def InitOk (P : Program) (w : World) (K : PySem.W.Frag) (mg : Str → Option Value) (base : Heap) (FE : Addr) : Prop := ∃ f fd, Mk K FE f ∧ FunI K f fd ∧ FnOk P w K mg base (L2.CX P w) 5 f fd psI (spInit FE)
def spMade (C : Addr) : Sp := fun vs H Q _ => ∃ (pa oa ba : Addr) (p o : Int × Int) (b : Mt.Bnd), vs = [.ref pa, .ref oa, .ref ba] ∧ H pa = some (tup2 p) ∧ H oa = some (tup2 o) ∧ H ba = some (bndT b) ∧ Bd2 64 p ∧ Bd2 64 o ∧ ¬ (p.1 = 0 ∧ o.1 = 0) ∧ LBnd b ∧
  ∀ m H' has q0 st e, Ex H H' → MetAt C H' m p o b has q0 st e → Q (.ref m) H'
theorem great_small {i : Int} (h1 : -1000 < i) (h2 : i < 1000) : Great i := bd_great (bd_small h1 h2) (by decide)
theorem LBnd.ok {b : Mt.Bnd} (h : LBnd b) : BndOk b := by
  obtain ⟨⟨l0, l1⟩, h1, ⟨f0, f1⟩, r1⟩ := h
  exact ⟨⟨great_small (by omega) (by omega), l0⟩, fun x e => great_small (by have := h1 x e; omega) (by have := h1 x e; omega), ⟨great_small (by omega) (by omega), f0⟩, fun x e => ⟨great_small (by have := r1 x e; omega) (by have := r1 x e; omega), (r1 x e).1⟩⟩
theorem made {C : Addr} {H : Hp} {pa oa : Addr} {p o : Int × Int} {b : Mt.Bnd} {Q : VK} {E : XK} (hp : H pa = some (tup2 p)) (ho : H oa = some (tup2 o)) (bp : Bd2 64 p) (bo : Bd2 64 o) (nz : ¬ (p.1 = 0 ∧ o.1 = 0)) (B : LBnd b)
    (k : ∀ m H' has q0 st e, Ex H H' → MetAt C H' m p o b has q0 st e → Q (.ref m) H') (x dx : Addr) (hx : H x = none) (hdx : H dx = none) (ne : dx ≠ x) :
    spInit C [.ref x, .ref pa, .ref oa, .int b.low, oV b.high, .int b.first, oV b.rounds] (upd (upd H dx (.own x)) x (.ins C dx [])) (fun v H3 => v = .non ∧ Q (.ref x) H3) E := by
  have e1 := Ex.new (o := HO.own x) hdx
  have g : ∀ {i : Int}, Bd 64 i → Great i := fun h => bd_great h (by decide)
  refine ⟨x, dx, pa, oa, p, o, b, upd H dx (.own x), rfl, rfl, by rw [upd_ne ne.symm]; exact hx, e1 _ _ hp, e1 _ _ ho, g bp.1, g bp.2, g bo.1, g bo.2, nz, B.ok, fun H' has q0 st e eb M => ⟨rfl, ?_⟩⟩
  exact k x H' has q0 st e (fun a ob ha => eb a ob (ne_of_none ha hx) (e1 _ _ ha)) M
section
variable {P : Program} {w : World} {K : PySem.W.Frag} {mg : Str → Option Value} {base : Heap} {CN fI CA FE : Addr}
theorem ok_law_made (T : Txt P K mg CN fI CA FE) (D : Df K mg "_law_made" s_law_made) (I : InitOk P w K mg base FE) : DefOk P w K mg base CX0 7 "_law_made" ["_law_place", "_law_other", "_law_bounds_here"] (spMade FE) := by
  obtain ⟨fi0, fd0, M, F0, F⟩ := I
  obtain ⟨d0, v0, b0⟩ := bind0 F0
  obtain ⟨mB, bB⟩ := bindB F0
  obtain ⟨mC, bC⟩ := bindC F0
  obtain ⟨mD, bD⟩ := bindD F0
  refine D.ok sc_law_made (fun _ _ _ _ _ _ us hl => match us, hl with | [_, _, _], _ => rfl) (fun vs H Q E h => ?_) (fun f cdv A outer s H vs Q E hr h => ?_)
  · obtain ⟨_, _, _, _, _, _, rfl, _⟩ := h
    rfl
  · obtain ⟨pa, oa, ba, p, o, b, rfl, hp, ho, hb, bp, bo, nz, B, k⟩ := h
    refine ⟨_, (pss_cons (ps_asg (pv 2) (pg_tup (by rfl) (pgs_cons (pg_name (i := 3) sc_law_made.nd rfl (Or.inl rfl)) (pgs_cons (pg_name (i := 4) sc_law_made.nd rfl (Or.inl rfl)) (pgs_cons (pg_name (i := 5) sc_law_made.nd rfl (Or.inl rfl)) (pgs_cons (pg_name (i := 6) sc_law_made.nd rfl (Or.inl rfl)) pgs_nil))))))
      (pss_cons (ps_if (PW.pt (pw_and (pt_cmpR op_isN (pv 4) pe_non (nomark _)) (pw_and (pt_cmpR op_isN (pv 6) pe_non (nomark _)) (pw_and1 (pt_cmpR op_eq (pv 5) pe_int (nomark _))))))
        (pss_one (ps_ret (pe_ifExp (pt_cmpR op_eq (pv 3) pe_int (nomark _)) (pe_make M F (hr.mono (by decide)) (by rfl) T.g_Meetings b0 v0 passL (pa_cons (pv 0) (pa_cons (pv 1) pa_nil))) (pe_makeK (n := 2) M F (hr.mono (by decide)) (by rfl) T.g_Meetings bB passL (pa_cons (pv 0) (pa_cons (pv 1) pa_nil)) (pk_cons (pv 3) pk_nil)))))
        pss_nil)
      (pss_cons (ps_if (PW.pt (pw_and (pt_cmpR op_isN (pv 4) pe_non (nomark _)) (pw_and1 (pt_cmpR op_isN (pv 6) pe_non (nomark _)))))
        (pss_one (ps_ret (pe_makeK (n := 2) M F (hr.mono (by decide)) (by rfl) T.g_Meetings bC passL (pa_cons (pv 0) (pa_cons (pv 1) pa_nil)) (pk_cons (pv 5) (pk_cons (pv 3) pk_nil)))))
        pss_nil)
      (pss_one (ps_ret (pe_makeK (n := 2) M F (hr.mono (by decide)) (by rfl) T.g_Meetings bD passL (pa_cons (pv 0) (pa_cons (pv 1) pa_nil)) (pk_cons (pv 3) (pk_cons (pv 4) (pk_cons (pv 5) (pk_cons (pv 6) pk_nil)))))))))), ?_⟩
    obtain ⟨lo, hi, fi, ro⟩ := b
    refine ⟨_, rfl, ba, _, rfl, SqT.of hb, rfl, _, _, rfl, _, _, rfl, _, _, rfl, _, _, rfl, rfl, ?_⟩
    have mkD : ∀ {hi : Option Int} {ro : Option Int} {E : XK}, LBnd ⟨lo, hi, fi, ro⟩ → (∀ m H' has q0 st e, Ex H H' → MetAt FE H' m p o ⟨lo, hi, fi, ro⟩ has q0 st e → Q (.ref m) H') →
        ∀ x dx, H x = none → H dx = none → dx ≠ x → spInit FE [.ref x, .ref pa, .ref oa, .int lo, oV hi, .int fi, oV ro] (upd (upd H dx (.own x)) x (.ins FE dx [])) (fun v H3 => v = .non ∧ Q (.ref x) H3) E := fun B k x dx a b c => made hp ho bp bo nz B k x dx a b c
    refine ⟨_, rfl, rfl, _, rfl, ?_⟩
    cases hi with
    | some h =>
      refine if_no rfl (if_no rfl ?_)
      refine ⟨_, rfl, rfl, _, rfl, if_no rfl (if_no rfl ?_)⟩
      exact ⟨_, rfl, _, rfl, _, rfl, _, rfl, _, rfl, _, rfl, rfl, rfl, mkD B k⟩
    | none =>
      refine if_so rfl ⟨_, rfl, rfl, _, rfl, ?_⟩
      cases ro with
      | some n =>
        refine if_no rfl (if_no rfl ?_)
        refine ⟨_, rfl, rfl, _, rfl, if_so rfl ⟨_, rfl, rfl, _, rfl, if_no rfl ?_⟩⟩
        exact ⟨_, rfl, _, rfl, _, rfl, _, rfl, _, rfl, _, rfl, rfl, rfl, mkD B k⟩
      | none =>
        refine if_so rfl ⟨_, rfl, rfl, _, rfl, ?_⟩
        by_cases c1 : fi = 0
        · refine if_so (eqi_t c1) ⟨_, rfl, rfl, _, rfl, ?_⟩
          subst c1
          by_cases c2 : lo = 0
          · subst c2
            exact if_so (eqi_t rfl) ⟨_, rfl, _, rfl, mkD B k⟩
          · exact if_no (eqi_f c2) ⟨_, rfl, _, rfl, _, rfl, rfl, rfl, mkD B k⟩
        · refine if_no (eqi_f c1) ?_
          refine ⟨_, rfl, rfl, _, rfl, if_so rfl ⟨_, rfl, rfl, _, rfl, if_so rfl ?_⟩⟩
          exact ⟨_, rfl, _, rfl, _, rfl, _, rfl, rfl, rfl, mkD B k⟩
end
end My
set_option maxHeartbeats 4000000
namespace My
open PySem L2 Lf Evl StX
abbrev s_law_pairs : Stmt := top 47
theorem sc_law_pairs : FnScope ["_law_place", "_law_other", "_law_paper", "_law_dice_here", "_law_pair", "_law_step_here", "_law_found", "_law_turn", "_law_many"] ["_law_place", "_law_other", "_law_paper", "_law_dice_here"] (defScope s_law_pairs) := ⟨rfl, rfl, rfl, by decide +kernel, rfl, by decide +kernel, by decide +kernel⟩
abbrev s_law_values : Stmt := top 48
theorem sc_law_values : FnScope ["_law_place", "_law_other", "_law_paper", "_law_dice_here", "_law_pairs_here", "_law_found", "_law_pair", "_law_shared", "_law_number"] ["_law_place", "_law_other", "_law_paper", "_law_dice_here"] (defScope s_law_values) := ⟨rfl, rfl, rfl, by decide +kernel, rfl, by decide +kernel, by decide +kernel⟩
/-- what evaluates to something of which P holds, the heap growing -/
def EvP (te : TE) (σ : L2.St) (H : Hp) (P : V → Hp → Prop) : Prop := ∀ H1, Ex H H1 → ∀ Q : VK, (∀ v H2, Ex H1 H2 → P v H2 → Q v H2) → te σ H1 Q
def EvPs (ta : TA) (σ : L2.St) (H : Hp) (P : V → Hp → Prop) (n : Nat) : Prop := ∀ H1, Ex H H1 → ∀ Q : List V → Hp → Prop, (∀ vs H2, Ex H1 H2 → (∀ v ∈ vs, P v H2) → vs.length = n → Q vs H2) → ta σ H1 Q
def EvLP (te : TE) (σ : L2.St) (H : Hp) (P : V → Hp → Prop) (n : Nat) : Prop := ∀ H1, Ex H H1 → ∀ Q : VK, (∀ l us H2, H1 l = none → Ex H1 H2 → H2 l = some (.lst us) → (∀ u ∈ us, P u H2) → us.length = n → Q (.ref l) H2) → te σ H1 Q
structure Stab (P : V → Hp → Prop) : Prop where
  mono : ∀ v H H', Ex H H' → P v H → P v H'
  chg : ∀ v H l xs ys, H l = some (.lst xs) → P v H → P v (upd H l (.lst ys))
section
variable {K : PySem.W.Frag} {σ : L2.St} {H : Hp} {P P1 : V → Hp → Prop} {te to tl : TE} {ta tr : TA} {n i j : Nat} {vs : List Nat} {D : Ends} {tz : TS}
theorem eps_nil : EvPs tNil σ H P 0 := fun H1 _ Q q => q [] H1 (Ex.refl H1) (fun v h => by cases h) rfl
theorem eps_cons (m : Stab P) (h : EvP te σ H P) (hr : EvPs tr σ H P n) : EvPs (tCons te tr) σ H P (n + 1) := fun H1 e Q q =>
  h H1 e _ fun v H2 e2 p => hr H2 (e.trans e2) _ fun vs H3 e3 ps hl => q (v :: vs) H3 (e2.trans e3) (fun u hu => by
    rcases List.mem_cons.mp hu with rfl | hu
    · exact m.mono _ _ _ e3 p
    · exact ps u hu) (by rw [List.length_cons, hl])
theorem elp_lst (h : EvPs ta σ H P n) (m : Stab P) (hn : n ≤ 1000) : EvLP (tLst ta) σ H P n := fun H1 e Q q => h H1 e _ fun xs H2 e2 ps hl =>
  ⟨Nat.le_trans (by rw [hl]; exact hn) (show 1000 ≤ sizeLine by decide), fun l hl1 => q l xs _ (fresh_back e2 hl1) (e2.trans (Ex.new hl1)) upd_same (fun v hv => m.mono _ _ _ (Ex.new hl1) (ps v hv)) hl⟩
/-- [e for i in range(n)] -/
theorem elp_rng (m : Stab P) (h : EvA ta σ H [.int (n : Int)]) (hn : n ≤ 1000) (hw : ∀ x, wipe ((wipe σ vs).set j (some x)) vs = wipe σ vs) (he : ∀ i : Nat, i < n → EvP te ((wipe σ vs).set j (some (.int (i : Int)))) H P) :
    EvLP (tLc (iRng1 ta) (gName j) tYes te vs) σ H P n := fun H0 e0 Q q => h H0 e0 _ fun H1 e1 =>
  ⟨(n : Int), rfl, by omega, by omega, fun D hD => lc_range (lo := 0) (n := (n : Int).toNat) (fun i H' => Ex H1 H' ∧ ∃ us, H' D = some (.lst us) ∧ (∀ u ∈ us, P u H') ∧ us.length = i) ⟨Ex.new hD, [], upd_same, fun u hu => (by cases hu), rfl⟩
    (fun i H' hi ⟨e2, us, hL, ps, hl⟩ => by
      have e0' : (0 : Int) + (i : Int) = (i : Int) := Int.zero_add _
      show wipe ((wipe σ vs).set j (some (.int ((0 : Int) + (i : Int))))) vs = wipe σ vs ∧ _
      rw [e0']
      refine ⟨hw _, ?_⟩
      dsimp only [tYes]
      rw [if_pos rfl]
      have hi' : i < n := by rw [Int.toNat_natCast] at hi; exact hi
      refine he i hi' H' (e0.trans (e1.trans e2)) _ fun v H5 e5 pv => ⟨us, e5 _ _ hL, ?_, Ex.mut (e2.trans e5) hD, us ++ [v], upd_same, fun u hu => ?_, by rw [List.length_append, hl]; rfl⟩
      · rw [hl]
        exact Nat.lt_of_lt_of_le (Nat.lt_of_lt_of_le hi' hn) (show 1000 ≤ sizeLine by decide)
      · refine m.chg _ _ _ _ _ (e5 _ _ hL) ?_
        rcases List.mem_append.mp hu with hu | hu
        · exact m.mono _ _ _ e5 (ps u hu)
        · rw [List.mem_singleton.mp hu]; exact pv)
    (fun H' ⟨e2, us, hL, ps, hl⟩ => q D us H' (fresh_back e1 hD) (e1.trans e2) hL ps (by rw [hl, Int.toNat_natCast]))⟩
/-- [e for x in l] -/
theorem elp_map {a : Addr} {xs : List V} (m : Stab P) (h : Ev tl σ H (.ref a)) (hx : H a = some (.lst xs)) (hz : xs.length ≤ 1000) (hw : ∀ x, wipe ((wipe σ vs).set j (some x)) vs = wipe σ vs) (he : ∀ x ∈ xs, EvP te ((wipe σ vs).set j (some x)) H P) :
    EvLP (tLc (iList K tl) (gName j) tYes te vs) σ H P xs.length := fun H0 e0 Q q => h H0 e0 _ fun H1 e1 =>
  ⟨a, rfl, ⟨xs, SqL.of (e1 _ _ (e0 _ _ hx))⟩, fun D hD => lc_list (K := K) (a := a) (xs := xs) (fun i H' => Ex H1 H' ∧ ∃ us, H' D = some (.lst us) ∧ (∀ u ∈ us, P u H') ∧ us.length = i) ⟨Ex.new hD, [], upd_same, fun u hu => (by cases hu), rfl⟩ (fun i H' _ ⟨e2, _⟩ => SqL.of (e2 _ _ (e1 _ _ (e0 _ _ hx))))
    (fun i x H' hi ⟨e2, us, hL, ps, hl⟩ => by
      refine ⟨hw _, ?_⟩
      dsimp only [tYes]
      rw [if_pos rfl]
      refine he x (List.mem_of_getElem? hi) H' (e0.trans (e1.trans e2)) _ fun v H5 e5 pv => ⟨us, e5 _ _ hL, ?_, Ex.mut (e2.trans e5) hD, us ++ [v], upd_same, fun u hu => ?_, by rw [List.length_append, hl]; rfl⟩
      · rw [hl]
        exact Nat.lt_of_lt_of_le (Nat.lt_of_lt_of_le (List.getElem?_eq_some_iff.mp hi).1 hz) (show 1000 ≤ sizeLine by decide)
      · refine m.chg _ _ _ _ _ (e5 _ _ hL) ?_
        rcases List.mem_append.mp hu with hu | hu
        · exact m.mono _ _ _ e5 (ps u hu)
        · rw [List.mem_singleton.mp hu]; exact pv)
    (fun H' ⟨e2, us, hL, ps, hl⟩ => q D us H' (fresh_back e1 hD) (e1.trans e2) hL ps hl)⟩
/-- x = a new list -/
theorem q_asgP (h : EvLP te σ H P n) (k : ∀ l us H1, H l = none → Ex H H1 → H1 l = some (.lst us) → (∀ u ∈ us, P u H1) → us.length = n → tz D (σ.set i (some (.ref l))) H1) : tSeq (tAsg te (gName i)) tz D σ H :=
  h H (Ex.refl H) _ fun l us H1 hl e1 hL ps hn => k l us H1 hl e1 hL ps hn
/-- x.extend(a new list) -/
theorem q_extP {l : Addr} {xs : List V} (m : Stab P) (ho : Ev to σ H (.ref l)) (hL : H l = some (.lst xs)) (hp : ∀ x ∈ xs, P x H) (hx : xs.length + n ≤ 1000) (h : EvLP te σ H P n)
    (k : ∀ us H1, Ex H H1 → (∀ u ∈ us, P u (upd H1 l (.lst us))) → us.length = xs.length + n → tz D σ (upd H1 l (.lst us))) : tSeq (tDrop (tBM K "list" rExtend to (tCons te tNil))) tz D σ H :=
  ho H (Ex.refl H) _ fun H1 e1 => ⟨.inl ⟨rfl, _, SqL.of (e1 _ _ hL)⟩, h H1 e1 _ fun b ys H2 hb e2 hB ps hl =>
    ⟨l, b, xs, ys, rfl, rfl, e2 _ _ (e1 _ _ hL), hB, Nat.le_trans (by rw [hl]; exact hx) (show 1000 ≤ sizeLine by decide), k (xs ++ ys) H2 (e1.trans e2) (fun u hu => by
      refine m.chg _ _ _ _ _ (e2 _ _ (e1 _ _ hL)) ?_
      rcases List.mem_append.mp hu with hu | hu
      · exact m.mono _ _ _ (e1.trans e2) (hp u hu)
      · exact ps u hu) (by rw [List.length_append, hl])⟩⟩
end
def PairP : V → Hp → Prop := fun u H => ∃ a r, u = .ref a ∧ H a = some (tup2 r) ∧ Bd2 3000 r
def ValP : V → Hp → Prop := fun u H => ∃ ov, PV H u ov
theorem pair_stab : Stab PairP := ⟨fun v H H' e ⟨a, r, h1, h2, h3⟩ => ⟨a, r, h1, e _ _ h2, h3⟩, fun v H l xs ys hl ⟨a, r, h1, h2, h3⟩ => ⟨a, r, h1, by rw [upd_ne (fun z => by rw [z, hl] at h2; cases h2)]; exact h2, h3⟩⟩
theorem kd_chg {H : Hp} {v : V} {t : String} {l : Addr} {xs ys : List V} (h : H l = some (.lst xs)) (k : Kd H v t) : Kd (upd H l (.lst ys)) v t := by
  cases k with
  | non => exact .non
  | bl b => exact .bl b
  | int i => exact .int i
  | str x => exact .str x
  | @lst a zs e =>
    by_cases z : a = l
    · subst z
      exact .lst upd_same
    · exact .lst (by rw [upd_ne z]; exact e)
  | tup e => exact .tup (by rw [upd_ne (fun z => by rw [z, h] at e; cases e)]; exact e)
  | dic e => exact .dic (by rw [upd_ne (fun z => by rw [z, h] at e; cases e)]; exact e)
theorem val_stab : Stab ValP := by
  refine ⟨fun v H H' e ⟨ov, h⟩ => ⟨ov, h.mono e⟩, fun v H l xs ys hl ⟨ov, h⟩ => ⟨ov, ?_⟩⟩
  cases ov with
  | none =>
    obtain ⟨t, k, n⟩ := h
    exact ⟨t, kd_chg hl k, n⟩
  | some zs =>
    obtain ⟨a, h1, h2, h3⟩ := h
    exact ⟨a, h1, by rw [upd_ne (fun z => by rw [z, hl] at h2; cases h2)]; exact h2, h3⟩
section
variable {σ : L2.St} {H : Hp} {te : TE} {ta : TA} {v : V} {vs : List V} {t : String}
theorem vp_tup (h : EvA ta σ H vs) (hf : ∀ x ∈ vs, FlB x) (hl : vs.length ≤ 4) : EvP (tTup ta) σ H ValP := fun H1 e Q q => h H1 e _ fun H2 e2 =>
  ⟨Nat.le_trans hl (show 4 ≤ sizeLine by decide), fun p hp => q (.ref p) _ (e2.trans (Ex.new hp)) ⟨some vs, p, rfl, upd_same, hf, hl⟩⟩
theorem vp_lst (h : EvA ta σ H vs) (hl : vs.length ≤ 4) : EvP (tLst ta) σ H ValP := fun H1 e Q q => h H1 e _ fun H2 e2 =>
  ⟨Nat.le_trans hl (show 4 ≤ sizeLine by decide), fun p hp => q (.ref p) _ (e2.trans (Ex.new hp)) ⟨none, _, .lst upd_same, rfl⟩⟩
theorem vp_val (h : Ev te σ H v) (k : Kd H v t) (ht : (t == "tuple") = false) : EvP te σ H ValP := fun H1 e Q q => h H1 e _ fun H2 e2 => q v H2 e2 ⟨none, t, k.same (e.trans e2), ht⟩
theorem pp_tup {x y : Int} (h : EvA ta σ H [.int x, .int y]) (b : Bd2 3000 (x, y)) : EvP (tTup ta) σ H PairP := fun H1 e Q q => h H1 e _ fun H2 e2 =>
  ⟨show 2 ≤ sizeLine by decide, fun p hp => q (.ref p) _ (e2.trans (Ex.new hp)) ⟨p, (x, y), rfl, upd_same, b⟩⟩
end
end My
set_option maxHeartbeats 4000000
namespace My
open PySem L2 Lf Evl StX
def PapL (xs : List V) : Prop := (∃ s x y, xs = [.str s, .int x, .int y] ∧ Bd2 2000 (x, y)) ∨ ∃ s n, xs = [.str s, .int n]
def spPairs : Sp := fun vs H Q _ => ∃ (pa oa ra d : Addr) (p o : Int × Int) (xs ws : List V), vs = [.ref pa, .ref oa, .ref ra, .ref d] ∧ H pa = some (tup2 p) ∧ H oa = some (tup2 o) ∧ H ra = some (.tup xs) ∧ PapL xs ∧ H d = some (.lst ws) ∧ DiceL ws ∧ Bd2 64 p ∧ Bd2 64 o ∧ ¬ (p.1 = 0 ∧ o.1 = 0) ∧
  ∀ l us H' ys, Eb d H H' → H' d = some (.lst ys) → DiceL ys → H' l = some (.lst us) → H l = none → (∀ u ∈ us, PairP u H') → us.length = 10 → Q (.ref l) H'
theorem Eb.fresh {d : Addr} {H H' : Hp} {l : Addr} (e : Eb d H H') {o : HO} (hd : H' d = some o) (h : H' l = none) : H l = none := by
  cases z : H l with
  | none => rfl
  | some u =>
    have n : l ≠ d := fun q => by rw [q, hd] at h; cases h
    rw [e l u n z] at h
    cases h
section
variable {P : Program} {w : World} {K : PySem.W.Frag} {mg : Str → Option Value} {base : Heap} {CN fI CA FE : Addr}
theorem pp_moved {σ : L2.St} {H : Hp} {ta : TA} {qa sa : Addr} {q st : Int × Int} {n : Int} (h : EvA ta σ H [.ref qa, .ref sa, .int n]) (hq : H qa = some (tup2 q)) (hs : H sa = some (tup2 st)) (bq : Bd2 2000 q) (bs : Bd2 64 st) (bn : Bd 64 n) :
    EvP (tCallD spMoved E0 ta) σ H PairP := fun H1 e Q k => h H1 e _ fun H2 e2 =>
  ⟨qa, sa, q, st, n, rfl, e2 _ _ (e _ _ hq), e2 _ _ (e _ _ hs), bs.mono (by decide), bn, fun r H3 e3 hr => k (.ref r) H3 (e2.trans e3) ⟨r, _, rfl, hr, (after_bd bq bs bn (by decide)).mono (by decide)⟩⟩
theorem ok_law_pairs (T : Txt P K mg CN fI CA FE) (D : Df K mg "_law_pairs" s_law_pairs) (D_law_whole : DefOk P w K mg base CX0 3 "_law_whole" ["_law_dice_here"] (spDraw 1000000000000000000)) (D_law_next : DefOk P w K mg base CX0 1 "_law_next" ["_law_dice_here", "_law_many"] spNext)
    (D_law_step : DefOk P w K mg base CX0 2 "_law_step" ["_law_place", "_law_other"] spStep) (D_law_moved : DefOk P w K mg base CX0 1 "_law_moved" ["_law_pair", "_law_step_here", "_law_many"] spMoved) :
    DefOk P w K mg base CX0 4 "_law_pairs" ["_law_place", "_law_other", "_law_paper", "_law_dice_here"] spPairs := by
  refine D.ok sc_law_pairs (fun _ _ _ _ _ _ us hl => match us, hl with | [_, _, _, _], _ => rfl) (fun vs H Q E h => ?_) (fun f cdv A outer s H vs Q E hr h => ?_)
  · obtain ⟨_, _, _, _, _, _, _, _, rfl, _⟩ := h
    rfl
  · obtain ⟨pa, oa, ra, d, p, o, xs, ws, rfl, hp, ho, hra, px, hd, hw, bp, bo, nz, k⟩ := h
    refine ⟨_, (pss_cons (ps_set (i := 4) sc_law_pairs.nd rfl (Or.inr rfl) (pe_ifExp (pt_cmpR op_eq (pe_callB call_len_seq (by rfl) T.n_len (by decide +kernel) (pa_cons (pv 2) pa_nil)) pe_int (nomark _)) (pe_slice sl_tup (pv 2) (po_some pe_int) po_none) (pe_tup (pa_cons (pe_callD D_law_whole (hr.mono (by decide)) pass0 (pa_cons (pv 3) pa_nil)) (pa_cons (pe_callD D_law_whole (hr.mono (by decide)) pass0 (pa_cons (pv 3) pa_nil)) pa_nil)))))
 (pss_cons (ps_set (i := 5) sc_law_pairs.nd rfl (Or.inr rfl) (pe_callD D_law_step (hr.mono (by decide)) pass0 (pa_cons (pv 0) (pa_cons (pv 1) pa_nil))))
 (pss_cons (ps_setLc (i := 6) (own := [("_law_turn", 7)]) (by rfl) sc_law_pairs.nd rfl rfl (sw_true rfl rfl rfl (by decide +kernel)) (pi_range1 (by rfl) T.n_range (pa_cons pe_int pa_nil)) (blkOk_by (own := [("_law_turn", 7)]) (N := ["_law_place", "_law_other", "_law_paper", "_law_dice_here", "_law_pair", "_law_step_here", "_law_found", "_law_turn", "_law_many"]) (sc := defScope s_law_pairs) (by decide +kernel)) (fun _ _ _ _ _ => (pg_name (i := 7) sc_law_pairs.nd rfl (Or.inl rfl))) (fun _ _ _ _ _ => pts_nil) (fun _ _ _ _ _ => (pe_callD D_law_moved (hr.mono (by decide)) pass0 (pa_cons (pv 4) (pa_cons (pv 5) (pa_cons (pe_op op_sub (pv 7) pe_int) pa_nil))))))
 (pss_cons (ps_set (i := 8) sc_law_pairs.nd rfl (Or.inl rfl) (pe_callD D_law_next (hr.mono (by decide)) pass0 (pa_cons (pv 3) (pa_cons pe_int pa_nil))))
 (pss_cons (ps_expr (pe_bm PySem.F.plainAttrs_list PySem.F.slot_list_extend PySem.F.type_list_extend mt_extend (pv 6) (pa_cons (pe_lst (pa_cons (pe_callD D_law_moved (hr.mono (by decide)) pass0 (pa_cons (pv 4) (pa_cons (pv 5) (pa_cons (pv 8) pa_nil)))) (pa_cons (pe_callD D_law_moved (hr.mono (by decide)) pass0 (pa_cons (pv 4) (pa_cons (pv 5) (pa_cons (pe_un un_neg (pv 8)) pa_nil)))) pa_nil))) pa_nil)))
 (pss_cons (ps_expr (pe_bm PySem.F.plainAttrs_list PySem.F.slot_list_extend PySem.F.type_list_extend mt_extend (pv 6) (pa_cons (pe_lst (pa_cons (pe_tup (pa_cons (pe_op op_add (pe_ix ix_tup (pv 4) pe_int (fun _ _ => rfl)) pe_int) (pa_cons (pe_ix ix_tup (pv 4) pe_int (fun _ _ => rfl)) pa_nil))) (pa_cons (pe_tup (pa_cons (pe_ix ix_tup (pv 4) pe_int (fun _ _ => rfl)) (pa_cons (pe_op op_sub (pe_ix ix_tup (pv 4) pe_int (fun _ _ => rfl)) pe_int) pa_nil))) (pa_cons (pe_tup (pa_cons (pe_ix ix_tup (pv 4) pe_int (fun _ _ => rfl)) (pa_cons (pe_ix ix_tup (pv 4) pe_int (fun _ _ => rfl)) pa_nil))) pa_nil)))) pa_nil)))
 (pss_one (ps_ret (pv 6))))))))), ?_⟩
    have np : pa ≠ d := fun z => by rw [z, hd] at hp; cases hp
    have no : oa ≠ d := fun z => by rw [z, hd] at ho; cases ho
    have first : ∀ K1 : VK, (∀ qa q H1 ys, Eb d H H1 → H1 d = some (.lst ys) → DiceL ys → H1 qa = some (tup2 q) → Bd2 2000 q → K1 (.ref qa) H1) →
        tIf (tTest (tOp rEq (tCB (fun xs H Q => ∃ p ys, xs = [.ref p] ∧ (SqL K H p ys ∨ SqT K H p ys) ∧ Q (.int ys.length) H) (tCons (tVar 2) tNil)) (tC (.int 3)))) (tSl (rSlT K) (tVar 2) (tPart (tC (.int 1))) tNoPart) (tTup (tCons (tCallD (spDraw 1000000000000000000) E0 (tCons (tVar 3) tNil)) (tCons (tCallD (spDraw 1000000000000000000) E0 (tCons (tVar 3) tNil)) tNil)))
          [some (.ref pa), some (.ref oa), some (.ref ra), some (.ref d), none, none, none, none, none] H K1 := by
      intro K1 k1
      rcases px with ⟨sx, x, y, rfl, bx⟩ | ⟨sx, n, rfl⟩
      · refine ⟨_, rfl, _, _, rfl, .inr (SqT.of hra), rfl, _, rfl, if_so rfl ?_⟩
        refine ⟨_, rfl, _, rfl, ra, _, rfl, SqT.of hra, cut1n _ _ _, fun t ht => ?_⟩
        rw [cut1]
        exact k1 t (x, y) _ ws (Eb.of (Ex.new ht)) (Ex.new ht _ _ hd) hw upd_same bx
      · refine ⟨_, rfl, _, _, rfl, .inr (SqT.of hra), rfl, _, rfl, if_no rfl ?_⟩
        refine ⟨_, rfl, d, ws, rfl, hd, hw, fun x ys x0 x1 hy => ⟨_, rfl, d, ys, rfl, upd_same, hy, fun y zs y0 y1 hz => ⟨show 2 ≤ sizeLine by decide, fun t ht => ?_⟩⟩⟩
        exact k1 t (x, y) _ zs ((Eb.upd.trans Eb.upd).trans (Eb.of (Ex.new ht))) (Ex.new ht _ _ upd_same) hz upd_same ⟨(bd18 x0 x1).mono (by decide), (bd18 y0 y1).mono (by decide)⟩
    refine first _ fun qa q H1 ys eb1 hd1 hy hq bq => ?_
    refine ⟨_, rfl, _, rfl, pa, oa, p, o, rfl, eb1 _ _ np hp, eb1 _ _ no ho, bp.mono (by decide), bo.mono (by decide), nz, fun sa H2 e2 hs => ?_⟩
    have bs : Bd2 64 (stepOf p o) := step_bd bp bo
    generalize stepOf p o = st at hs bs
    have hq2 := e2 _ _ hq
    have hd2 := e2 _ _ hd1
    dsimp only
    refine q_asgP (P := PairP) (n := 5) (elp_rng pair_stab (ea_cons ev_c ea_nil) (by decide) (fun _ => rfl) (fun i hi => pp_moved (n := (i : Int) - 2) (ea_cons (ev_var rfl) (ea_cons (ev_var rfl) (ea_cons (ev_op (ev_var rfl) ev_c rv_I0) ea_nil))) hq2 hs bq bs (bd_small (by omega) (by omega)))) fun l us H3 hl e3 hL ps hn => ?_
    refine ⟨_, rfl, d, _, ys, rfl, e3 _ _ hd2, hy, by decide, by decide, fun m zs m0 m1 hz => ?_⟩
    have hd3 := e3 _ _ hd2
    have nl : l ≠ d := fun z => by rw [z, hd2] at hl; cases hl
    have nq : qa ≠ d := fun z => by rw [z, hd1] at hq; cases hq
    have ns : sa ≠ d := fun z => by rw [z, hd2] at hs; cases hs
    have nql : qa ≠ l := fun z => by rw [z] at hq2; rw [hl] at hq2; cases hq2
    have nsl : sa ≠ l := fun z => by rw [z] at hs; rw [hl] at hs; cases hs
    have ps4 : ∀ u ∈ us, PairP u (upd H3 d (.lst zs)) := fun u hu => pair_stab.chg _ _ _ _ _ hd3 (ps u hu)
    have hL4 : upd H3 d (.lst zs) l = some (.lst us) := by rw [upd_ne nl]; exact hL
    have hq4 : upd H3 d (.lst zs) qa = some (tup2 q) := by rw [upd_ne nq]; exact e3 _ _ hq2
    have hs4 : upd H3 d (.lst zs) sa = some (tup2 st) := by rw [upd_ne ns]; exact e3 _ _ hs
    have hd4 : upd H3 d (.lst zs) d = some (.lst zs) := upd_same
    have eb4 : Eb d H (upd H3 d (.lst zs)) := (eb1.trans (Eb.of (e2.trans e3))).trans Eb.upd
    generalize upd H3 d (.lst zs) = H4 at ps4 hL4 hq4 hs4 hd4 eb4
    have hlH : H l = none := eb1.fresh hd1 (fresh_back e2 hl)
    dsimp only
    refine q_extP (P := PairP) (n := 2) pair_stab (ev_var rfl) hL4 ps4 (by rw [hn]; decide) (elp_lst (eps_cons pair_stab (pp_moved (n := m) (ea_cons (ev_var rfl) (ea_cons (ev_var rfl) (ea_cons (ev_var rfl) ea_nil))) hq4 hs4 bq bs (bd_small (by omega) (by omega)))
      (eps_cons pair_stab (pp_moved (n := -m) (ea_cons (ev_var rfl) (ea_cons (ev_var rfl) (ea_cons (ev_un (ev_var rfl) ru_neg) ea_nil))) hq4 hs4 bq bs (bd_small (by omega) (by omega))) eps_nil)) pair_stab (by decide)) fun us5 H5 e5 ps5 hn5 => ?_
    have hq5 : upd H5 l (.lst us5) qa = some (tup2 q) := by rw [upd_ne nql]; exact e5 _ _ hq4
    have hd5 : upd H5 l (.lst us5) d = some (.lst zs) := by rw [upd_ne nl.symm]; exact e5 _ _ hd4
    have hL5 : upd H5 l (.lst us5) l = some (.lst us5) := upd_same
    have eb5 : Eb d H (upd H5 l (.lst us5)) := fun a ob n ha => by
      rw [upd_ne (ne_of_none ha hlH)]
      exact e5 _ _ (eb4 a ob n ha)
    generalize upd H5 l (.lst us5) = H6 at ps5 hq5 hd5 hL5 eb5
    have vq : ∀ {σ : L2.St} (h : σ[4]? = some (some (.ref qa))), Ev (tOp (rIxT K) (tVar 4) (tC (.int 0))) σ H6 (.int q.1) ∧ Ev (tOp (rIxT K) (tVar 4) (tC (.int 1))) σ H6 (.int q.2) := fun h =>
      ⟨ev_op (ev_var h) ev_c (rv_ixT (SqT.of hq5) rfl), ev_op (ev_var h) ev_c (rv_ixT (SqT.of hq5) rfl)⟩
    have b1 : Bd 3000 (q.1 + 1) := (bq.1.add ((Bd.lit (n := 1) (by decide)).mono (by decide)) (Nat.le_refl _)).mono (by decide)
    have b2 : Bd 3000 (q.2 - 1) := (bq.2.sub ((Bd.lit (n := 1) (by decide)).mono (by decide)) (Nat.le_refl _)).mono (by decide)
    have b3 := bq.mono (m := 3000) (by decide)
    refine q_extP (P := PairP) (n := 3) pair_stab (ev_var rfl) hL5 ps5 (by rw [hn5, hn]; decide) (elp_lst (eps_cons pair_stab (pp_tup (ea_cons (ev_op (vq rfl).1 ev_c rv_I0) (ea_cons (vq rfl).2 ea_nil)) ⟨b1, b3.2⟩) (eps_cons pair_stab (pp_tup (ea_cons (vq rfl).1 (ea_cons (ev_op (vq rfl).2 ev_c rv_I0) ea_nil)) ⟨b3.1, b2⟩)
      (eps_cons pair_stab (pp_tup (ea_cons (vq rfl).2 (ea_cons (vq rfl).1 ea_nil)) ⟨b3.2, b3.1⟩) eps_nil))) pair_stab (by decide)) fun us7 H7 e7 ps7 hn7 => ?_
    refine ⟨_, rfl, k l us7 _ zs (fun a ob n ha => ?_) ?_ hz upd_same hlH ps7 (by rw [hn7, hn5, hn])⟩
    · rw [upd_ne (ne_of_none ha hlH)]
      exact e7 _ _ (eb5 a ob n ha)
    · rw [upd_ne nl.symm]
      exact e7 _ _ hd5
def spValues : Sp := fun vs H Q _ => ∃ (pa oa ra d : Addr) (p o : Int × Int) (xs ws : List V), vs = [.ref pa, .ref oa, .ref ra, .ref d] ∧ H pa = some (tup2 p) ∧ H oa = some (tup2 o) ∧ H ra = some (.tup xs) ∧ PapL xs ∧ H d = some (.lst ws) ∧ DiceL ws ∧ Bd2 64 p ∧ Bd2 64 o ∧ ¬ (p.1 = 0 ∧ o.1 = 0) ∧
  ∀ l us H', Eb d H H' → H' l = some (.lst us) → H l = none → (∀ u ∈ us, ValP u H') → Q (.ref l) H'
theorem Bd.fl {i : Int} {n : Nat} (h : Bd n i) (hn : n ≤ 9000) : FlB (.int i) := Bd.mono h hn
theorem fl3 {s : Str} {r : Int × Int} (b : Bd2 3000 r) : ∀ x ∈ [V.str s, .int r.1, .int r.2], FlB x := by
  intro x hx
  simp only [List.mem_cons, List.not_mem_nil, or_false] at hx
  rcases hx with rfl | rfl | rfl
  · trivial
  · exact Bd.fl b.1 (by decide)
  · exact Bd.fl b.2 (by decide)
theorem ok_law_values (T : Txt P K mg CN fI CA FE) (D : Df K mg "_law_values" s_law_values) (D_law_next : DefOk P w K mg base CX0 1 "_law_next" ["_law_dice_here", "_law_many"] spNext)
    (D_law_divisor : DefOk P w K mg base CX0 1 "_law_divisor" ["_law_one_here", "_law_other"] spDiv) (D_law_pairs : DefOk P w K mg base CX0 4 "_law_pairs" ["_law_place", "_law_other", "_law_paper", "_law_dice_here"] spPairs) :
    DefOk P w K mg base CX0 5 "_law_values" ["_law_place", "_law_other", "_law_paper", "_law_dice_here"] spValues := by
  refine D.ok sc_law_values (fun _ _ _ _ _ _ us hl => match us, hl with | [_, _, _, _], _ => rfl) (fun vs H Q E h => ?_) (fun f cdv A outer s H vs Q E hr h => ?_)
  · obtain ⟨_, _, _, _, _, _, _, _, rfl, _⟩ := h
    rfl
  · obtain ⟨pa, oa, ra, d, p, o, xs, ws, rfl, hp, ho, hra, px, hd, hw, bp, bo, nz, k⟩ := h
    refine ⟨_, (pss_cons (ps_set (i := 4) sc_law_values.nd rfl (Or.inl rfl) (pe_callD D_law_pairs (hr.mono (by decide)) pass0 (pa_cons (pv 0) (pa_cons (pv 1) (pa_cons (pv 2) (pa_cons (pv 3) pa_nil))))))
 (pss_cons (ps_setLc (i := 5) (own := [("_law_pair", 6)]) (by rfl) sc_law_values.nd rfl rfl (sw_true rfl rfl rfl (by decide +kernel)) (pi_list (pv 4)) (blkOk_by (own := [("_law_pair", 6)]) (N := ["_law_place", "_law_other", "_law_paper", "_law_dice_here", "_law_pairs_here", "_law_found", "_law_pair", "_law_shared", "_law_number"]) (sc := defScope s_law_values) (by decide +kernel)) (fun _ _ _ _ _ => (pg_name (i := 6) sc_law_values.nd rfl (Or.inl rfl))) (fun _ _ _ _ _ => pts_nil) (fun _ _ _ _ _ => (pe_tup (pa_cons pe_str (pa_cons (pe_ix (r := rIxT K) ix_tup (pv 6) pe_int (fun _ _ => rfl)) (pa_cons (pe_ix (r := rIxT K) ix_tup (pv 6) pe_int (fun _ _ => rfl)) pa_nil))))))
 (pss_cons (ps_expr (pe_bm PySem.F.plainAttrs_list PySem.F.slot_list_extend PySem.F.type_list_extend mt_extend (pv 5) (pa_cons (pe_lc (own := [("_law_pair", 6)]) (by rfl) sc_law_values.nd (pi_list (pv 4)) (blkOk_by (own := [("_law_pair", 6)]) (N := ["_law_place", "_law_other", "_law_paper", "_law_dice_here", "_law_pairs_here", "_law_found", "_law_pair", "_law_shared", "_law_number"]) (sc := defScope s_law_values) (by decide +kernel)) (fun _ _ _ _ _ => (pg_name (i := 6) sc_law_values.nd rfl (Or.inl rfl))) (fun _ _ _ _ _ => pts_nil) (fun _ _ _ _ _ => (pe_tup (pa_cons pe_str (pa_cons (pe_ix (r := rIxT K) ix_tup (pv 6) pe_int (fun _ _ => rfl)) (pa_cons (pe_ix (r := rIxT K) ix_tup (pv 6) pe_int (fun _ _ => rfl)) pa_nil)))))) pa_nil)))
 (pss_cons (ps_set (i := 7) sc_law_values.nd rfl (Or.inl rfl) (pe_callD D_law_divisor (hr.mono (by decide)) pass0 (pa_cons (pe_ix ix_tup (pv 0) pe_int (fun _ _ => rfl)) (pa_cons (pe_ix ix_tup (pv 1) pe_int (fun _ _ => rfl)) pa_nil))))
 (pss_cons (ps_for PassesOwn.never rfl (pi_tup (pe_tup (pa_cons (pv 7) (pa_cons (pe_op op_mulW pe_int (pv 7)) (pa_cons (pe_op op_sub (pv 7) pe_int) (pa_cons pe_int (pa_cons pe_int (pa_cons (pe_un un_neg (pv 7)) (pa_cons pe_int (pa_cons pe_int (pa_cons (pe_op op_add pe_int (pe_callD D_law_next (hr.mono (by decide)) pass0 (pa_cons (pv 3) (pa_cons pe_int pa_nil)))) pa_nil))))))))))) (pg_name (i := 8) sc_law_values.nd rfl (Or.inl rfl))
 (pss_one (ps_expr (pe_bm PySem.F.plainAttrs_list PySem.F.slot_list_append PySem.F.type_list_append mt_append (pv 5) (pa_cons (pe_tup (pa_cons pe_str (pa_cons (pv 8) pa_nil))) pa_nil)))))
 (pss_cons (ps_set (i := 6) sc_law_values.nd rfl (Or.inl rfl) (pe_ix ix_list (pv 4) pe_int (fun _ _ => rfl)))
 (pss_cons (ps_expr (pe_bm PySem.F.plainAttrs_list PySem.F.slot_list_extend PySem.F.type_list_extend mt_extend (pv 5) (pa_cons (pe_lst (pa_cons (pe_tup (pa_cons pe_str (pa_cons (pe_ix ix_tup (pv 6) pe_int (fun _ _ => rfl)) (pa_cons (pe_ix ix_tup (pv 6) pe_int (fun _ _ => rfl)) pa_nil)))) (pa_cons (pe_tup (pa_cons pe_str (pa_cons (pe_ix ix_tup (pv 6) pe_int (fun _ _ => rfl)) pa_nil))) (pa_cons (pe_tup (pa_cons pe_str (pa_cons (pe_ix ix_tup (pv 6) pe_int (fun _ _ => rfl)) (pa_cons (pe_ix ix_tup (pv 6) pe_int (fun _ _ => rfl)) (pa_cons pe_int pa_nil))))) (pa_cons (pe_tup (pa_cons pe_str (pa_cons pe_bl pa_nil))) pa_nil))))) pa_nil)))
 (pss_cons (ps_expr (pe_bm PySem.F.plainAttrs_list PySem.F.slot_list_extend PySem.F.type_list_extend mt_extend (pv 5) (pa_cons (pe_lst (pa_cons (pe_lst (pa_cons pe_str (pa_cons (pe_ix ix_tup (pv 6) pe_int (fun _ _ => rfl)) (pa_cons (pe_ix ix_tup (pv 6) pe_int (fun _ _ => rfl)) pa_nil)))) (pa_cons (pe_tup pa_nil) (pa_cons pe_non (pa_cons pe_int (pa_cons pe_str (pa_cons (pe_tup (pa_cons pe_str (pa_cons pe_non pa_nil))) (pa_cons (pe_tup (pa_cons pe_int (pa_cons (pe_ix ix_tup (pv 6) pe_int (fun _ _ => rfl)) (pa_cons (pe_ix ix_tup (pv 6) pe_int (fun _ _ => rfl)) pa_nil)))) pa_nil)))))))) pa_nil)))
 (pss_one (ps_ret (pv 5))))))))))), ?_⟩
    have np : pa ≠ d := fun z => by rw [z, hd] at hp; cases hp
    have no : oa ≠ d := fun z => by rw [z, hd] at ho; cases ho
    refine ⟨_, rfl, _, rfl, _, rfl, _, rfl, pa, oa, ra, d, p, o, xs, ws, rfl, hp, ho, hra, px, hd, hw, bp, bo, nz, fun lp ups H1 ys eb1 hd1 hy hlp hlp0 pps hnp => ?_⟩
    have nlp : lp ≠ d := ne_of_none hd hlp0 |>.symm
    dsimp only
    have one : ∀ (s : Str) (σ : L2.St) (H2 : Hp), Ex H1 H2 → ∀ x ∈ ups, σ[6]? = some (some x) → EvP (tTup (tCons (tC (.str s)) (tCons (tOp (rIxT K) (tVar 6) (tC (.int 0))) (tCons (tOp (rIxT K) (tVar 6) (tC (.int 1))) tNil)))) σ H2 ValP := by
      intro s σ H2 e2 x hx hσ
      obtain ⟨a, r, rfl, ha, b⟩ := pps x hx
      exact vp_tup (ea_cons ev_c (ea_cons (ev_op (ev_var hσ) ev_c (rv_ixT (SqT.of (e2 _ _ ha)) rfl)) (ea_cons (ev_op (ev_var hσ) ev_c (rv_ixT (SqT.of (e2 _ _ ha)) rfl)) ea_nil))) (fl3 b) (by simp)
    refine q_asgP (P := ValP) (n := ups.length) (elp_map val_stab (ev_var rfl) hlp (by rw [hnp]; decide) (fun _ => rfl) (fun x hx => one _ _ H1 (Ex.refl _) x hx rfl)) fun l us H2 hl e2 hL ps hn => ?_
    have hlH : H l = none := eb1.fresh hd1 hl
    refine q_extP (P := ValP) (n := ups.length) val_stab (ev_var rfl) hL ps (by rw [hn, hnp]; decide) (elp_map val_stab (ev_var rfl) (e2 _ _ hlp) (by rw [hnp]; decide) (fun _ => rfl) (fun x hx => one _ _ H2 e2 x hx rfl)) fun us3 H3 e3 ps3 hn3 => ?_
    have nl : l ≠ d := fun z => by rw [z, hd1] at hl; cases hl
    have nlpl : lp ≠ l := fun z => by rw [z, hl] at hlp; cases hlp
    have x3 : ∀ a ob, a ≠ l → H1 a = some ob → upd H3 l (.lst us3) a = some ob := fun a ob n ha => by rw [upd_ne n]; exact e3 _ _ (e2 _ _ ha)
    have hp1 := eb1 _ _ np hp
    have ho1 := eb1 _ _ no ho
    have hp3 := x3 _ _ (fun z => by rw [z, hl] at hp1; cases hp1) hp1
    have ho3 := x3 _ _ (fun z => by rw [z, hl] at ho1; cases ho1) ho1
    have hd3 := x3 _ _ nl.symm hd1
    have hlp3 := x3 _ _ nlpl hlp
    have hL3 : upd H3 l (.lst us3) l = some (.lst us3) := upd_same
    have pp3 : ∀ u ∈ ups, PairP u (upd H3 l (.lst us3)) := fun u hu => by
      obtain ⟨a, r, e, ha, b⟩ := pps u hu
      exact ⟨a, r, e, x3 _ _ (fun z => by rw [z, hl] at ha; cases ha) ha, b⟩
    have eb3 : Eb d H (upd H3 l (.lst us3)) := fun a ob n ha => x3 _ _ (ne_of_none ha hlH) (eb1 a ob n ha)
    generalize upd H3 l (.lst us3) = H4 at hp3 ho3 hd3 hlp3 hL3 pp3 eb3 ps3
    refine ⟨_, rfl, _, _, _, _, rfl, rfl, SqT.of hp3, rfl, _, rfl, _, _, _, _, rfl, rfl, SqT.of ho3, rfl, _, _, rfl, bp.1.mono (by decide), bo.1.mono (by decide), ?_⟩
    obtain ⟨bg, g0⟩ := gcd_bd bp.1 bo.1 nz
    generalize (Int.gcd p.1 o.1 : Int) = g at bg g0
    refine ⟨_, rfl, _, rfl, _, _, rfl, rfl, (Bd.lit (n := 2) (i := 2) (by decide)).ok bg (by decide) (by decide) (by decide), _, rfl, _, _, rfl, rfl, _, rfl, _, rfl, ?_⟩
    refine ⟨_, rfl, d, _, ys, rfl, hd3, hy, by decide, by decide, fun r zs r0 r1 hz => ⟨_, _, rfl, rfl, show 9 ≤ sizeLine by decide, fun tt htt => ?_⟩⟩
    have xt := Ex.new (o := HO.tup [.int g, .int (2 * g), .int (g - 1), .int 1, .int 0, .int (-g), .int 2, .int 3, .int (2 + r)]) htt
    have hT : upd (upd H4 d (.lst zs)) tt (HO.tup [.int g, .int (2 * g), .int (g - 1), .int 1, .int 0, .int (-g), .int 2, .int 3, .int (2 + r)]) tt = some (HO.tup [.int g, .int (2 * g), .int (g - 1), .int 1, .int 0, .int (-g), .int 2, .int 3, .int (2 + r)]) := upd_same
    have x5 : ∀ a ob, a ≠ d → H4 a = some ob → upd (upd H4 d (.lst zs)) tt (HO.tup [.int g, .int (2 * g), .int (g - 1), .int 1, .int 0, .int (-g), .int 2, .int 3, .int (2 + r)]) a = some ob := fun a ob n ha => xt _ _ (by rw [upd_ne n]; exact ha)
    have ps5 : ∀ u ∈ us3, ValP u (upd (upd H4 d (.lst zs)) tt (HO.tup [.int g, .int (2 * g), .int (g - 1), .int 1, .int 0, .int (-g), .int 2, .int 3, .int (2 + r)])) := fun u hu => val_stab.mono _ _ _ xt (val_stab.chg _ _ _ _ _ hd3 (ps3 u hu))
    have hlp5 := x5 _ _ nlp hlp3
    have hL5 := x5 _ _ nl hL3
    have pp5 : ∀ u ∈ ups, PairP u (upd (upd H4 d (.lst zs)) tt (HO.tup [.int g, .int (2 * g), .int (g - 1), .int 1, .int 0, .int (-g), .int 2, .int 3, .int (2 + r)])) := fun u hu => pair_stab.mono _ _ _ xt (pair_stab.chg _ _ _ _ _ hd3 (pp3 u hu))
    have eb5 : Eb d H (upd (upd H4 d (.lst zs)) tt (HO.tup [.int g, .int (2 * g), .int (g - 1), .int 1, .int 0, .int (-g), .int 2, .int 3, .int (2 + r)])) := fun a ob n ha => x5 _ _ n (eb3 a ob n ha)
    generalize upd (upd H4 d (.lst zs)) tt (HO.tup [.int g, .int (2 * g), .int (g - 1), .int 1, .int 0, .int (-g), .int 2, .int 3, .int (2 + r)]) = H5 at hT ps5 hlp5 hL5 pp5 eb5
    have fls : ∀ x ∈ [V.int g, .int (2 * g), .int (g - 1), .int 1, .int 0, .int (-g), .int 2, .int 3, .int (2 + r)], FlB x := by
      intro x hx
      have b0 : Bd 90 g := bg.mono (by decide)
      have sm : ∀ {i : Int}, -1000 < i → i < 1000 → FlB (.int i) := fun h1 h2 => Bd.fl (bd_small h1 h2) (by decide)
      simp only [List.mem_cons, List.not_mem_nil, or_false] at hx
      rcases hx with rfl | rfl | rfl | rfl | rfl | rfl | rfl | rfl | rfl
      · exact Bd.fl b0 (by decide)
      · exact Bd.fl ((Bd.lit (n := 2) (i := 2) (by decide)).mul b0 (Nat.le_refl _)) (by decide)
      · exact Bd.fl (b0.sub ((Bd.lit (n := 1) (i := 1) (by decide)).mono (by decide)) (Nat.le_refl _)) (by decide)
      · exact sm (by decide) (by decide)
      · exact sm (by decide) (by decide)
      · exact Bd.fl b0.neg (by decide)
      · exact sm (by decide) (by decide)
      · exact sm (by decide) (by decide)
      · exact sm (by omega) (by omega)
    generalize hnums : [V.int g, .int (2 * g), .int (g - 1), .int 1, .int 0, .int (-g), .int 2, .int 3, .int (2 + r)] = nums at hT fls
    have hnl : nums.length = 9 := by rw [← hnums]; rfl
    clear hnums
    refine ⟨tt, rfl, ⟨_, SqT.of hT⟩, for_tup (K := K) (a := tt) (xs := nums) (fun i σ H' => ∃ (v : Option V) (us : List V), σ = [some (.ref pa), some (.ref oa), some (.ref ra), some (.ref d), some (.ref lp), some (.ref l), none, some (.int g), v] ∧ Eb l H5 H' ∧ H' l = some (.lst us) ∧ (∀ u ∈ us, ValP u H') ∧ us.length = 20 + i)
      ⟨none, us3, rfl, fun a ob _ ha => ha, hL5, ps5, by rw [hn3, hn, hnp]⟩ ?_ ?_ ?_⟩
    · rintro i σ H' hi ⟨v, us, rfl, eb, _⟩
      exact SqT.of (eb _ _ (fun z => by rw [z, hL5] at hT; cases hT) hT)
    · rintro i x σ H' hx ⟨v, us, rfl, eb, hLL, pus, hlen⟩
      have hi : i < 9 := by rw [← hnl]; exact (List.getElem?_eq_some_iff.mp hx).1
      have fx := fls x (List.mem_of_getElem? hx)
      refine ⟨_, rfl, .inl ⟨rfl, _, SqL.of hLL⟩, _, rfl, show 2 ≤ sizeLine by decide, fun t ht => ?_⟩
      have xt2 := Ex.new (o := HO.tup [.str "modulus", x]) ht
      refine ⟨l, _, _, rfl, rfl, xt2 _ _ hLL, Nat.lt_of_lt_of_le (by rw [hlen]; omega : us.length < 100) (show 100 ≤ sizeLine by decide), _, us ++ [.ref t], rfl, fun a ob n ha => ?_, upd_same, fun u hu => ?_, by rw [List.length_append, hlen]; rfl⟩
      · rw [upd_ne n]
        exact xt2 _ _ (eb a ob n ha)
      · refine val_stab.chg _ _ _ _ _ (xt2 _ _ hLL) ?_
        rcases List.mem_append.mp hu with hu | hu
        · exact val_stab.mono _ _ _ xt2 (pus u hu)
        · rw [List.mem_singleton.mp hu]
          refine ⟨some [.str "modulus", x], t, rfl, upd_same, fun y hy => ?_, by simp⟩
          simp only [List.mem_cons, List.not_mem_nil, or_false] at hy
          rcases hy with rfl | rfl
          · trivial
          · exact fx
    · rintro σ H6 ⟨v, us, rfl, eb, hLL, pus, hlen⟩
      have hlp6 := eb _ _ nlpl hlp5
      have ⟨u2, hu2⟩ : ∃ u2, ups[2]? = some u2 := ⟨_, List.getElem?_eq_getElem (by rw [hnp]; decide)⟩
      obtain ⟨qa, q, rfl, hq, bq⟩ := pp5 u2 (List.mem_of_getElem? hu2)
      have hq6 : H6 qa = some (tup2 q) := eb _ _ (fun z => by rw [z, hL5] at hq; cases hq) hq
      have hat : atI ups 2 = some (.ref qa) := by
        unfold atI ixN
        rw [if_pos (by decide), if_pos (by rw [hnp]; decide)]
        exact hu2
      refine ⟨_, rfl, _, _, _, _, rfl, rfl, SqL.of hlp6, hat, ?_⟩
      have vq : ∀ {σ : L2.St} {H7 : Hp}, σ[6]? = some (some (.ref qa)) → H7 qa = some (tup2 q) → Ev (tOp (rIxT K) (tVar 6) (tC (.int 0))) σ H7 (.int q.1) ∧ Ev (tOp (rIxT K) (tVar 6) (tC (.int 1))) σ H7 (.int q.2) := fun h h7 =>
        ⟨ev_op (ev_var h) ev_c (rv_ixT (SqT.of h7) rfl), ev_op (ev_var h) ev_c (rv_ixT (SqT.of h7) rfl)⟩
      have f1 : FlB (.int q.1) := Bd.fl bq.1 (by decide)
      have f2 : FlB (.int q.2) := Bd.fl bq.2 (by decide)
      dsimp only
      refine q_extP (P := ValP) (n := 4) val_stab (ev_var rfl) hLL pus (by rw [hlen, hnl]; decide) (elp_lst (eps_cons val_stab (vp_tup (ea_cons ev_c (ea_cons (vq rfl hq6).1 (ea_cons (vq rfl hq6).2 ea_nil))) (fl3 bq) (by simp))
        (eps_cons val_stab (vp_tup (vs := [.str "nearest", .int q.1]) (ea_cons ev_c (ea_cons (vq rfl hq6).1 ea_nil)) (by simp [FlB, f1]; exact f1) (by simp))
        (eps_cons val_stab (vp_tup (vs := [.str "gap", .int q.1, .int q.2, .int 0]) (ea_cons ev_c (ea_cons (vq rfl hq6).1 (ea_cons (vq rfl hq6).2 (ea_cons ev_c ea_nil)))) (by
          intro x hx
          simp only [List.mem_cons, List.not_mem_nil, or_false] at hx
          rcases hx with rfl | rfl | rfl | rfl
          · trivial
          · exact f1
          · exact f2
          · exact Bd.fl (bd_small (i := 0) (by decide) (by decide)) (by decide)) (by simp))
        (eps_cons val_stab (vp_tup (vs := [.str "modulus", .bl true]) (ea_cons ev_c (ea_cons ev_c ea_nil)) (by
          intro x hx
          simp only [List.mem_cons, List.not_mem_nil, or_false] at hx
          rcases hx with rfl | rfl <;> trivial) (by simp)) eps_nil)))) val_stab (by decide)) fun us8 H8 e8 ps8 hn8 => ?_
      have nql : qa ≠ l := fun z => by rw [z, hL5] at hq; cases hq
      have hq8 : upd H8 l (.lst us8) qa = some (tup2 q) := by rw [upd_ne nql]; exact e8 _ _ hq6
      have hL8 : upd H8 l (.lst us8) l = some (.lst us8) := upd_same
      have eb8 : Eb d H (upd H8 l (.lst us8)) := fun a ob n ha => by
        have na := ne_of_none ha hlH
        rw [upd_ne na]
        exact e8 _ _ (eb _ _ na (eb5 a ob n ha))
      generalize upd H8 l (.lst us8) = H9 at ps8 hq8 hL8 eb8
      refine q_extP (P := ValP) (n := 7) val_stab (ev_var rfl) hL8 ps8 (by rw [hn8, hlen, hnl]; decide) (elp_lst (eps_cons val_stab (vp_lst (vs := [.str "nearest", .int q.1, .int q.2]) (ea_cons ev_c (ea_cons (vq rfl hq8).1 (ea_cons (vq rfl hq8).2 ea_nil))) (by simp))
        (eps_cons val_stab (vp_tup (vs := []) ea_nil (by simp) (by simp)) (eps_cons val_stab (vp_val ev_c .non rfl) (eps_cons val_stab (vp_val ev_c (.int 7) rfl) (eps_cons val_stab (vp_val ev_c (.str _) rfl)
        (eps_cons val_stab (vp_tup (vs := [.str "modulus", .non]) (ea_cons ev_c (ea_cons ev_c ea_nil)) (by
          intro x hx
          simp only [List.mem_cons, List.not_mem_nil, or_false] at hx
          rcases hx with rfl | rfl <;> trivial) (by simp))
        (eps_cons val_stab (vp_tup (vs := [.int 1, .int q.1, .int q.2]) (ea_cons ev_c (ea_cons (vq rfl hq8).1 (ea_cons (vq rfl hq8).2 ea_nil))) (by
          intro x hx
          simp only [List.mem_cons, List.not_mem_nil, or_false] at hx
          rcases hx with rfl | rfl | rfl
          · exact Bd.fl (bd_small (i := 1) (by decide) (by decide)) (by decide)
          · exact f1
          · exact f2) (by simp)) eps_nil))))))) val_stab (by decide)) fun usA HA eA psA hnA => ?_
      refine ⟨_, rfl, k l usA _ (fun a ob n ha => ?_) upd_same hlH psA⟩
      rw [upd_ne (ne_of_none ha hlH)]
      exact eA _ _ (eb8 a ob n ha)
end
end My
set_option maxHeartbeats 4000000
namespace My
open PySem L2 Lf Evl StX
abbrev s_Meetings___bool__ : Stmt := inClass (top 22) 18
theorem sc_Meetings___bool__ : FnScope ["self"] ["self"] (defScope s_Meetings___bool__) := ⟨rfl, rfl, rfl, by decide +kernel, rfl, by decide +kernel, by decide +kernel⟩
abbrev s_law_is_refused : Stmt := top 49
theorem sc_law_is_refused : FnScope ["_law_value", "_law_paper"] ["_law_value", "_law_paper"] (defScope s_law_is_refused) := ⟨rfl, rfl, rfl, by decide +kernel, rfl, by decide +kernel, by decide +kernel⟩
abbrev s_law_one : Stmt := top 50
theorem sc_law_one : FnScope ["_law_cell", "_law_dice_here", "_law_place", "_law_other", "_law_bounds_here", "_law_met", "_law_paper", "_law_value"] ["_law_cell"] (defScope s_law_one) := ⟨rfl, rfl, rfl, by decide +kernel, rfl, by decide +kernel, by decide +kernel⟩
abbrev s_law : Stmt := top 51
theorem sc_law : FnScope ["_law_script", "_law_cell", "_law_value"] ["_law_script"] (defScope s_law) := ⟨rfl, rfl, rfl, by decide +kernel, rfl, by decide +kernel, by decide +kernel⟩
def spBool (C : Addr) : Sp := fun vs H Q _ => ∃ m p o b has q0 st e, vs = [.ref m] ∧ MetAt C H m p o b has q0 st e ∧ Q (.bl (!Mt.isEmpty has e)) H
def spRefused : Sp := fun vs H Q _ => ∃ mv v t, vs = [mv, v] ∧ Kd H mv t ∧ t ∈ ["NoneType", "int", "str", "list", "tuple"] ∧ Q (.bl true) H
def spOne : Sp := fun vs H Q _ => ∃ c : Int, vs = [.int c] ∧ ∀ H', Ex H H' → Q (.bl true) H'
theorem shp3 {s : Str} {x y : Int} (h : PyData.canLay0 (.str s) = true) : SeqAt.shaped (.tuple [.str s, .int x, .int y]) = true := by
  show ((PyData.canLay0 (.str s) && _) && _) = true
  rw [h]
  rfl
theorem shp2 {s : Str} {x : Int} (h : PyData.canLay0 (.str s) = true) : SeqAt.shaped (.tuple [.str s, .int x]) = true := by
  show ((PyData.canLay0 (.str s) && _) && _) = true
  rw [h]
  rfl
theorem MetAt.eb {C : Addr} {H H' : Hp} {m : Addr} {p o : Int × Int} {b : Mt.Bnd} {has : Bool} {q0 st : Int × Int} {e : Mt.Ends} {d : Addr} {xs : List V} (M : MetAt C H m p o b has q0 st e) (x : Eb d H H') (hd : H d = some (.lst xs)) : MetAt C H' m p o b has q0 st e := by
  obtain ⟨dx, pa, oa, la, qa, sa, ea, h1, h2, h3, h4, h5, h6, h7⟩ := M.at_
  have nt : ∀ {a : Addr} {ys : List V}, H a = some (.tup ys) → a ≠ d := fun h z => by rw [z, hd] at h; cases h
  have ni : m ≠ d := fun z => by rw [z, hd] at h1; cases h1
  exact { M with at_ := ⟨dx, pa, oa, la, qa, sa, ea, x _ _ ni h1, x _ _ (nt h2) h2, x _ _ (nt h3) h3, x _ _ (nt h4) h4, x _ _ (nt h5) h5, x _ _ (nt h6) h6, x _ _ (nt h7) h7⟩ }
section
variable {C : Addr} {H : Hp} {m : Addr} {p o : Int × Int} {b : Mt.Bnd} {has : Bool} {q0 st : Int × Int} {e : Mt.Ends}
theorem line_bd (M : MetAt C H m p o b has q0 st e) {t : Int} (ht : Bd 1404 t) : Bd2 2000 (Mt.after q0 st t) := by
  have h := after_bd (n := 1804) (M.bq.1.mono (by decide)) M.bq.2 ht (by decide)
  exact h.mono (by decide)
theorem near_bd (M : MetAt C H m p o b has q0 st e) {q : Int × Int} (h : Mt.nearest has q0 st e = some q) : Bd2 2000 q := by
  unfold Mt.nearest at h
  split at h
  · cases h
  · unfold Mt.endBy at h
    obtain ⟨fe, le, be⟩ := e
    split at h
    · cases fe with
      | none => cases h
      | some t =>
        cases h
        exact line_bd M ((M.be.1 t rfl).mono (by decide))
    · cases le with
      | none => cases h
      | some t =>
        cases h
        exact line_bd M ((M.be.2 t rfl).mono (by decide))
theorem gap_bd (M : MetAt C H m p o b has q0 st e) : Bd2 2000 (Mt.after q0 st (Mt.gapAt e)) := by
  refine line_bd M ?_
  unfold Mt.gapAt
  split
  · exact (Bd.lit (n := 1) (i := 0) (by decide)).mono (by decide)
  · obtain ⟨fe, le, be⟩ := e
    cases fe with
    | none =>
      show Bd 1404 (0 - 1)
      exact (Bd.lit (n := 2) (i := 0 - 1) (by decide)).mono (by decide)
    | some t =>
      show Bd 1404 (t - 1)
      exact (M.be.1 t rfl).sub ((Bd.lit (n := 1) (i := 1) (by decide)).mono (by decide)) (Nat.le_refl _)
theorem mod_ok (M : MetAt C H m p o b has q0 st e) (hh : has = false) : modB p o (Int.gcd p.1 o.1 : Int) = true := by
  have hno := M.no hh
  have nz := M.nz
  have g0 : Int.gcd p.1 o.1 ≠ 0 := fun h => nz (Int.gcd_eq_zero_iff.mp h)
  have g1 : Int.gcd p.1 o.1 ≠ 1 := fun h => hno (by rw [h]; exact Int.emod_one _)
  unfold modB
  rw [decide_eq_true (by omega : (2 : Int) ≤ (Int.gcd p.1 o.1 : Int)), decide_eq_true (Int.emod_eq_zero_of_dvd (Int.gcd_dvd_left ..)), decide_eq_true (Int.emod_eq_zero_of_dvd (Int.gcd_dvd_right ..)), decide_eq_false hno]
  rfl
/-- the paper's three forms -/
theorem paper_form (M : MetAt C H m p o b has q0 st e) :
    (∃ q, paperV p o has q0 st e = [.str "nearest", .int q.1, .int q.2] ∧ Bd2 2000 q ∧ Mt.nearest has q0 st e = some q ∧ Mt.isEmpty has e = false) ∨
    (∃ q, paperV p o has q0 st e = [.str "gap", .int q.1, .int q.2] ∧ Bd2 2000 q ∧ Mt.isEmpty has e = true ∧ gapB p o b (stepOf p o) q = true) ∨
    (∃ n, paperV p o has q0 st e = [.str "modulus", .int n] ∧ Bd 400 n ∧ Mt.isEmpty has e = true ∧ modB p o n = true) := by
  cases hem : Mt.isEmpty has e with
  | false =>
    obtain ⟨t, ht, _⟩ := Mt.near_end M.ok hem
    refine .inl ⟨_, ?_, near_bd M ht, ht, rfl⟩
    unfold paperV
    rw [ht]
  | true =>
    have hn : Mt.nearest has q0 st e = none := by
      unfold Mt.nearest
      rw [hem, if_pos rfl]
    cases hh : has with
    | true =>
      refine .inr (.inl ⟨Mt.after q0 st (Mt.gapAt e), ?_, gap_bd M, rfl, ?_⟩)
      · rw [hh] at hn
        unfold paperV
        rw [hn, if_pos rfl]
      · obtain ⟨_, hm, g1, g2⟩ := Mt.gap_ok M.ok hem hh
        rw [← M.yes hh]
        have hm' : p.1 * (Mt.after q0 st (Mt.gapAt e)).1 + p.2 = o.1 * (Mt.after q0 st (Mt.gapAt e)).2 + o.2 := hm
        unfold gapB onLine
        rw [decide_eq_true hm', Bool.true_and, Bool.and_eq_true, List.any_eq_true, List.any_eq_true]
        obtain ⟨r, hr, a1, a2⟩ := g1
        obtain ⟨u, hu, b1, b2⟩ := g2
        exact ⟨⟨r, hr, by rw [decide_eq_true a1, decide_eq_true a2]; rfl⟩, ⟨u, hu, by rw [decide_eq_true b1, decide_eq_true b2]; rfl⟩⟩
    | false =>
      refine .inr (.inr ⟨(Int.gcd p.1 o.1 : Int), ?_, (gcd_bd M.bp.1.1 M.bp.2.1 M.nz).1, rfl, mod_ok M hh⟩)
      rw [hh] at hn
      unfold paperV
      rw [hn, if_neg Bool.false_ne_true]
theorem paper_papl (M : MetAt C H m p o b has q0 st e) : PapL (paperV p o has q0 st e) := by
  rcases paper_form M with ⟨q, h, bq, _⟩ | ⟨q, h, bq, _⟩ | ⟨n, h, _⟩
  · exact .inl ⟨_, _, _, h, bq⟩
  · exact .inl ⟨_, _, _, h, bq⟩
  · exact .inr ⟨_, _, h⟩
theorem paper_pv (M : MetAt C H m p o b has q0 st e) {H' : Hp} {r : Addr} (hr : H' r = some (.tup (paperV p o has q0 st e))) : PV H' (.ref r) (some (paperV p o has q0 st e)) := by
  refine ⟨r, rfl, hr, ?_⟩
  rcases paper_form M with ⟨q, h, bq, _⟩ | ⟨q, h, bq, _⟩ | ⟨n, h, bn, _⟩
  · rw [h]; exact ⟨fl3 (bq.mono (by decide)), by simp⟩
  · rw [h]; exact ⟨fl3 (bq.mono (by decide)), by simp⟩
  · rw [h]
    refine ⟨fun x hx => ?_, by simp⟩
    simp only [List.mem_cons, List.not_mem_nil, or_false] at hx
    rcases hx with rfl | rfl
    · trivial
    · exact Bd.fl bn (by decide)
theorem paper_law (M : MetAt C H m p o b has q0 st e) : ljudgeO p o b (stepOf p o) (some (paperV p o has q0 st e)) = true := by
  rcases paper_form M with ⟨q, h, bq, hq, _⟩ | ⟨q, h, bq, _, hg⟩ | ⟨n, h, bn, _, hm⟩
  · rw [h, lj3, if_pos rfl]
    exact near_bool.mpr ((Mt.near_iff M.ok (fun z => (M.yes z).symm)).mp hq)
  · rw [h, lj3, if_neg (by decide), decide_eq_true rfl, Bool.true_and]
    exact hg
  · rw [h]
    show (decide (("modulus" : Str) = ("modulus" : Str)) && modB p o n) = true
    rw [decide_eq_true rfl, Bool.true_and]
    exact hm
end
section
variable {P : Program} {w : World} {K : PySem.W.Frag} {mg : Str → Option Value} {base : Heap} {CN fI CA FE : Addr}
theorem ok_bool (T : Txt P K mg CN fI CA FE) (D : Dm K FE "__bool__" "Meetings.__bool__" s_Meetings___bool__) (D_Met_is_empty : MethOk P w K mg base CX0 1 FE "is_empty" ["self"] (spEmpty FE)) : MethOk P w K mg base CX0 2 FE "__bool__" ["self"] (spBool FE) := by
  refine D.ok sc_Meetings___bool__ (fun _ _ _ _ _ _ us hl => match us, hl with | [_], _ => rfl) (fun vs H Q E h => ?_) (fun f cdv A outer s H vs Q E hr h => ?_)
  · obtain ⟨_, _, _, _, _, _, _, _, rfl, _⟩ := h
    rfl
  · obtain ⟨m, p, o, b, has, q0, st, e, rfl, M, k⟩ := h
    obtain ⟨dx, pa, oa, la, qa, sa, ea, h1, h2, h3, h4, h5, h6, h7⟩ := M.at_
    refine ⟨_, (pss_one (ps_ret (pe_not (pe_methD0 (pv 0) T.c_Met D_Met_is_empty (hr.mono (by decide)) pass0)))), ?_⟩
    exact ⟨_, rfl, m, dx, _, rfl, h1, rfl, m, p, o, b, has, q0, st, e, rfl, M, _, rfl, k⟩
theorem ok_law_is_refused (T : Txt P K mg CN fI CA FE) (aa : PySem.W.exmOne K (.ref CA) (.ref CA) = some true) (D : Df K mg "_law_is_refused" s_law_is_refused) (D_is_meetings_paper : DefOk P w K mg base (L2.CX P w) 5 "is_meetings_paper" ["meetings", "value"] (spJudge FE CA)) :
    DefOk P w K mg base CX0 6 "_law_is_refused" ["_law_value", "_law_paper"] spRefused := by
  refine D.ok sc_law_is_refused (fun _ _ _ _ _ _ us hl => match us, hl with | [_, _], _ => rfl) (fun vs H Q E h => ?_) (fun f cdv A outer s H vs Q E hr h => ?_)
  · obtain ⟨_, _, _, rfl, _⟩ := h
    rfl
  · obtain ⟨mv, v, t, rfl, kd, ht, k⟩ := h
    refine ⟨_, pss_cons (ps_try_only (tb := fun W => tDrop (tCallS (spJudge FE CA) (WE W) (tCons (tVar 0) (tCons (tVar 1) tNil)))) (ts := fun _ _ _ => tRet (tC (.bl true))) (c := .ref CA) (Wout := fun _ _ _ _ => False) rfl rfl ⟨rfl, by decide, .inl T.gA⟩ takes0
        (fun W pn xe tk _ => pss_one (ps_expr (pe_callDS D_is_meetings_paper (hr.mono (by decide)) (fun σ => passAt tk σ) (pa_cons (pv 0) (pa_cons (pv 1) pa_nil)))))
        (fun a oe cls d pn _ _ => pss_one (ps_ret pe_bl))) (pss_one (ps_ret pe_bl)), ?_⟩
    refine ⟨_, rfl, _, rfl, .inr ⟨mv, v, t, rfl, kd, ht, ?_⟩⟩
    exact ⟨true, aa, fun _ a ha => k, fun z => (by cases z)⟩
theorem ok_law_one (T : Txt P K mg CN fI CA FE) (D : Df K mg "_law_one" s_law_one) (D_law_dice : DefOk P w K mg base CX0 1 "_law_dice" ["_law_cell"] spDice) (D_law_places : DefOk P w K mg base CX0 5 "_law_places" ["_law_dice_here"] spPlaces) (D_law_bounds : DefOk P w K mg base CX0 2 "_law_bounds" ["_law_dice_here", "_law_most"] spBounds)
    (D_law_made : DefOk P w K mg base CX0 7 "_law_made" ["_law_place", "_law_other", "_law_bounds_here"] (spMade FE)) (D_Met_paper : PropOk P w K mg base CX0 5 FE "paper" ["self"] (spPaper FE)) (D_law_is_paper : DefOk P w K mg base CX0 5 "_law_is_paper" ["_law_place", "_law_other", "_law_bounds_here", "_law_value"] spPaperL)
    (D_is_meetings_paper : DefOk P w K mg base (L2.CX P w) 5 "is_meetings_paper" ["meetings", "value"] (spJudge FE CA)) (D_law_is_truth : DefOk P w K mg base CX0 1 "_law_is_truth" ["_law_value", "_law_due"] spTruth) (D_Met_bool : MethOk P w K mg base CX0 2 FE "__bool__" ["self"] (spBool FE))
    (D_law_values : DefOk P w K mg base CX0 5 "_law_values" ["_law_place", "_law_other", "_law_paper", "_law_dice_here"] spValues) : DefOk P w K mg base CX0 8 "_law_one" ["_law_cell"] spOne := by
  refine D.ok sc_law_one (fun _ _ _ _ _ _ us hl => match us, hl with | [_], _ => rfl) (fun vs H Q E h => ?_) (fun f cdv A outer s H vs Q E hr h => ?_)
  · obtain ⟨_, rfl, _⟩ := h
    rfl
  · obtain ⟨c, rfl, k⟩ := h
    refine ⟨_, (pss_cons (ps_set (i := 1) sc_law_one.nd rfl (Or.inl rfl) (pe_callD D_law_dice (hr.mono (by decide)) pass0 (pa_cons (pv 0) pa_nil)))
 (pss_cons (ps_asg (pe_callD D_law_places (hr.mono (by decide)) pass0 (pa_cons (pv 1) pa_nil)) (pg_tup (by rfl) (pgs_cons (pg_name (i := 2) sc_law_one.nd rfl (Or.inl rfl)) (pgs_cons (pg_name (i := 3) sc_law_one.nd rfl (Or.inl rfl)) pgs_nil))))
 (pss_cons (ps_set (i := 4) sc_law_one.nd rfl (Or.inl rfl) (pe_callD D_law_bounds (hr.mono (by decide)) pass0 (pa_cons (pv 1) (pa_cons pe_int pa_nil))))
 (pss_cons (ps_set (i := 5) sc_law_one.nd rfl (Or.inl rfl) (pe_callD D_law_made (hr.mono (by decide)) pass0 (pa_cons (pv 2) (pa_cons (pv 3) (pa_cons (pv 4) pa_nil)))))
 (pss_cons (ps_set (i := 6) sc_law_one.nd rfl (Or.inl rfl) (pe_propD (pv 5) T.c_Met D_Met_paper (hr.mono (by decide)) pass0))
 (pss_cons (ps_if (PW.pt (pw_or (pt_not (pt_val (pe_callD D_law_is_paper (hr.mono (by decide)) pass0 (pa_cons (pv 2) (pa_cons (pv 3) (pa_cons (pv 4) (pa_cons (pv 6) pa_nil))))))) (pw_or1 (pt_cmpR op_notBl (pe_callD D_is_meetings_paper (hr.mono (by decide)) passL (pa_cons (pv 5) (pa_cons (pv 6) pa_nil))) pe_bl (nomark _)))))
 (pss_one (ps_ret pe_bl))
 pss_nil)
 (pss_cons (ps_if (pt_not (pt_val (pe_callD D_law_is_truth (hr.mono (by decide)) pass0 (pa_cons (pe_callTy (call_boolOwn D_Met_bool (hr.mono (by decide)) pass0) (by rfl) T.n_bool (by decide +kernel) (pa_cons (pv 5) pa_nil)) (pa_cons (pe_cmpR op_eq (pe_ix ix_tup (pv 6) pe_int (fun _ _ => rfl)) pe_str (nomark _)) pa_nil)))))
 (pss_one (ps_ret pe_bl))
 pss_nil)
 (pss_cons (ps_for PassesOwn.never rfl (pi_list (pe_callD D_law_values (hr.mono (by decide)) pass0 (pa_cons (pv 2) (pa_cons (pv 3) (pa_cons (pv 6) (pa_cons (pv 1) pa_nil)))))) (pg_name (i := 7) sc_law_one.nd rfl (Or.inl rfl))
 (pss_one (ps_if (pt_not (pt_val (pe_callD D_law_is_truth (hr.mono (by decide)) pass0 (pa_cons (pe_callD D_is_meetings_paper (hr.mono (by decide)) passL (pa_cons (pv 5) (pa_cons (pv 7) pa_nil))) (pa_cons (pe_callD D_law_is_paper (hr.mono (by decide)) pass0 (pa_cons (pv 2) (pa_cons (pv 3) (pa_cons (pv 4) (pa_cons (pv 7) pa_nil))))) pa_nil)))))
 (pss_one (ps_ret pe_bl))
 pss_nil)))
 (pss_one (ps_ret (pe_and (pe_cmpR (op_eqD hr.units) (pe_propD (pv 5) T.c_Met D_Met_paper (hr.mono (by decide)) pass0) (pv 6) (nomark _)) (pe_one (pe_cmpR op_isBl (pe_callD D_is_meetings_paper (hr.mono (by decide)) passL (pa_cons (pe_callD D_law_made (hr.mono (by decide)) pass0 (pa_cons (pv 2) (pa_cons (pv 3) (pa_cons (pv 4) pa_nil)))) (pa_cons (pv 6) pa_nil))) pe_bl (nomark _)))))))))))))), ?_⟩
    refine ⟨_, rfl, c, rfl, fun d xs hd0 hx => ?_⟩
    refine ⟨_, rfl, d, xs, rfl, upd_same, hx, fun tp H1 ys pa oa p o eb1 hd1 hy htp hp ho bp bo nz => ?_⟩
    refine ⟨tp, _, rfl, SqT.of htp, rfl, _, _, rfl, _, _, rfl, rfl, ?_⟩
    have nd : ∀ {H : Hp} {a : Addr} {us vs : List V}, H d = some (.lst us) → H a = some (.tup vs) → a ≠ d := fun h1 h2 z => by rw [z, h1] at h2; cases h2
    refine ⟨_, rfl, d, ys, rfl, hd1, hy, fun ba H2 zs b eb2 hd2 hz hb lb => ?_⟩
    have hp2 := eb2 _ _ (nd hd1 hp) hp
    have ho2 := eb2 _ _ (nd hd1 ho) ho
    refine ⟨_, rfl, _, rfl, _, rfl, pa, oa, ba, p, o, b, rfl, hp2, ho2, hb, bp, bo, nz, lb, fun m H3 has q0 st e e3 M3 => ?_⟩
    have hm3 := M3.at_
    obtain ⟨dx, _, _, _, _, _, _, hm3, _⟩ := hm3
    refine ⟨_, rfl, m, dx, _, rfl, hm3, m, p, o, b, has, q0, st, e, rfl, M3, fun r H4 e4 hr4 => ?_⟩
    have M4 := M3.mono e4
    have e24 := e3.trans e4
    have bp9 : Bd2 90 p := bp.mono (by decide)
    have bo9 : Bd2 90 o := bo.mono (by decide)
    refine ⟨_, rfl, _, rfl, _, rfl, _, rfl, pa, oa, ba, .ref r, some (paperV p o has q0 st e), p, o, b, rfl, e24 _ _ hp2, e24 _ _ ho2, e24 _ _ hb, paper_pv M4 hr4, bp9, bo9, nz, fun H5 e5 => ⟨_, rfl, ?_⟩⟩
    rw [paper_law M4]
    refine if_no rfl ?_
    have M5 := M4.mono e5
    have hr5 := e5 _ _ hr4
    refine ⟨_, rfl, _, rfl, .inl ⟨m, p, o, b, has, q0, st, e, .ref r, _, rfl, M5, paper_pv M5 hr5, fun H6 e6 => ?_⟩⟩
    rw [judge_same M5.ok M5.yes, paper_law M5]
    refine ⟨_, _, rfl, rfl, _, rfl, if_no rfl ?_⟩
    have M6 := M5.mono e6
    have hr6 := e6 _ _ hr5
    obtain ⟨dx, _, _, _, _, _, _, hm6, _⟩ := M6.at_
    have e26 := e24.trans (e5.trans e6)
    refine ⟨_, rfl, m, dx, _, rfl, hm6, m, p, o, b, has, q0, st, e, rfl, M6, _, rfl, ?_⟩
    have key : ∃ s rest, paperV p o has q0 st e = .str s :: rest ∧ decide (V.str s = V.str "nearest") = !Mt.isEmpty has e := by
      rcases paper_form M6 with ⟨q, h, bq, hq, he⟩ | ⟨q, h, bq, he, hg⟩ | ⟨n, h, bn, he, hm⟩
      · exact ⟨_, _, h, by rw [he]; decide⟩
      · exact ⟨_, _, h, by rw [he]; decide⟩
      · exact ⟨_, _, h, by rw [he]; decide⟩
    obtain ⟨ps, prest, hpv, hdec⟩ := key
    refine ⟨_, rfl, _, _, _, _, rfl, rfl, SqT.of hr6, (by rw [hpv]; exact at0 ..), rfl, _, _, rfl, _, rfl, ?_⟩
    rw [hdec, beq_self_eq_true]
    refine if_no rfl ?_
    have hd6 := e26 _ _ hd2
    have hp6 := e26 _ _ hp2
    have ho6 := e26 _ _ ho2
    have hb6 := e26 _ _ hb
    refine ⟨_, rfl, _, rfl, _, rfl, _, rfl, pa, oa, r, d, p, o, _, zs, rfl, hp6, ho6, hr6, paper_papl M6, hd6, hz, bp, bo, nz, fun l us H7 eb7 hL hl0 pus => ?_⟩
    have M7 := M6.eb eb7 hd6
    have hp7 := eb7 _ _ (nd hd6 hp6) hp6
    have ho7 := eb7 _ _ (nd hd6 ho6) ho6
    have hb7 := eb7 _ _ (nd hd6 hb6) hb6
    have hr7 := eb7 _ _ (nd hd6 hr6) hr6
    have eH : Ex H H7 := fun a ob ha => by
      have na : a ≠ d := ne_of_none ha hd0
      exact eb7 _ _ na (e26 _ _ (eb2 _ _ na (eb1 _ _ na (by rw [upd_ne na]; exact ha))))
    refine ⟨l, rfl, ⟨_, SqL.of hL⟩, for_list (K := K) (a := l) (xs := us) (fun i σ H' => ∃ v : Option V, σ = [some (.int c), some (.ref d), some (.ref pa), some (.ref oa), some (.ref ba), some (.ref m), some (.ref r), v] ∧ Ex H7 H') ⟨none, rfl, Ex.refl _⟩ ?_ ?_ ?_⟩
    · rintro i σ H' hi ⟨v, rfl, e'⟩
      exact SqL.of (e' _ _ hL)
    · rintro i x σ H' hi ⟨v, rfl, e'⟩
      obtain ⟨ov, pv⟩ := pus x (List.mem_of_getElem? hi)
      have M8 := M7.mono e'
      refine ⟨_, rfl, _, rfl, .inl ⟨m, p, o, b, has, q0, st, e, x, ov, rfl, M8, pv.mono e', fun H8 e8 => ?_⟩⟩
      have e78 := e'.trans e8
      refine ⟨_, rfl, _, rfl, _, rfl, _, rfl, pa, oa, ba, x, ov, p, o, b, rfl, e78 _ _ hp7, e78 _ _ ho7, e78 _ _ hb7, pv.mono e78, bp9, bo9, nz, fun H9 e9 => ?_⟩
      rw [judge_same M8.ok M8.yes]
      refine ⟨_, _, rfl, _, rfl, ?_⟩
      rw [beq_self_eq_true]
      exact if_no rfl ⟨_, rfl, e78.trans e9⟩
    · rintro σ H8 ⟨v, rfl, e8⟩
      have M8 := M7.mono e8
      obtain ⟨dx8, _, _, _, _, _, _, hm8, _⟩ := M8.at_
      refine ⟨_, rfl, m, dx8, _, rfl, hm8, m, p, o, b, has, q0, st, e, rfl, M8, fun r2 H9 e9 hr9 => ?_⟩
      have hr8 := e9 _ _ (e8 _ _ hr7)
      have dp : ∃ dd, Dp K H9 (.ref r2) dd ∧ Dp K H9 (.ref r) dd ∧ SeqAt.shaped dd = true ∧ PyData.eqv dd dd = true := by
        rcases paper_form M8 with ⟨q, h, bq, hq, he⟩ | ⟨q, h, bq, he, hg⟩ | ⟨n, h, bn, he, hm⟩
        · rw [h] at hr9 hr8
          refine ⟨.tuple [.str "nearest", .int q.1, .int q.2], .tup (SqT.of hr9) (.cons (.str _) (.cons (.int _) (.cons (.int _) .nil))), .tup (SqT.of hr8) (.cons (.str _) (.cons (.int _) (.cons (.int _) .nil))), shp3 (by decide +kernel), ?_⟩
          exact SeqAt.eqv_refl _ (SeqAt.canLay_of_shaped (shp3 (by decide +kernel)))
        · rw [h] at hr9 hr8
          refine ⟨.tuple [.str "gap", .int q.1, .int q.2], .tup (SqT.of hr9) (.cons (.str _) (.cons (.int _) (.cons (.int _) .nil))), .tup (SqT.of hr8) (.cons (.str _) (.cons (.int _) (.cons (.int _) .nil))), shp3 (by decide +kernel), ?_⟩
          exact SeqAt.eqv_refl _ (SeqAt.canLay_of_shaped (shp3 (by decide +kernel)))
        · rw [h] at hr9 hr8
          refine ⟨.tuple [.str "modulus", .int n], .tup (SqT.of hr9) (.cons (.str _) (.cons (.int _) .nil)), .tup (SqT.of hr8) (.cons (.str _) (.cons (.int _) .nil)), shp2 (by decide +kernel), ?_⟩
          exact SeqAt.eqv_refl _ (SeqAt.canLay_of_shaped (shp2 (by decide +kernel)))
      obtain ⟨dd, d1, d2, d3, d4⟩ := dp
      refine ⟨_, rfl, dd, dd, d1, d2, d3, d3, _, rfl, ?_⟩
      rw [d4]
      refine if_so rfl ?_
      have e89 := e8.trans e9
      refine ⟨_, rfl, _, rfl, _, rfl, pa, oa, ba, p, o, b, rfl, e89 _ _ hp7, e89 _ _ ho7, e89 _ _ hb7, bp, bo, nz, lb, fun m2 HA has2 q2 st2 en2 eA MA => ?_⟩
      have hrA := eA _ _ hr8
      refine ⟨_, rfl, .inl ⟨m2, p, o, b, has2, q2, st2, en2, .ref r, _, rfl, MA, paper_pv M8 hrA, fun HB eB => ?_⟩⟩
      rw [judge_same MA.ok MA.yes, paper_law M8]
      exact ⟨_, _, rfl, rfl, k HB (eH.trans ((e89.trans eA).trans eB))⟩
def spLaw (K : PySem.W.Frag) : Sp := fun vs H Q _ => ∃ (a : Addr) (ns : List Int), vs = [.ref a] ∧ SqL K H a (ns.map V.int) ∧ ∀ H', Q (.bl true) H'
theorem ok_law {f : Addr} {fd : FuncData} (T : Txt P K mg CN fI CA FE) (D : Fun K "law" "law" s_law f fd) (D_law_cells : DefOk P w K mg base CX0 1 "_law_cells" ["_law_script", "_law_most"] (spCells K)) (D_law_one : DefOk P w K mg base CX0 8 "_law_one" ["_law_cell"] spOne)
    (D_law_is_refused : DefOk P w K mg base CX0 6 "_law_is_refused" ["_law_value", "_law_paper"] spRefused) : FnOk P w K mg base CX0 9 f fd ["_law_script"] (spLaw K) := by
  refine D.ok sc_law (fun vs H Q E h => ?_) (fun cdv A outer s H vs Q E hr h => ?_)
  · obtain ⟨_, _, rfl, _⟩ := h
    rfl
  · obtain ⟨a, ns, rfl, hS, k⟩ := h
    refine ⟨_, (pss_cons (ps_for PassesOwn.never rfl (pi_list (pe_callD D_law_cells (hr.mono (by decide)) pass0 (pa_cons (pv 0) (pa_cons pe_int pa_nil)))) (pg_name (i := 1) sc_law.nd rfl (Or.inl rfl))
 (pss_one (ps_if (pt_not (pt_val (pe_callD D_law_one (hr.mono (by decide)) pass0 (pa_cons (pv 1) pa_nil))))
 (pss_one (ps_ret pe_bl))
 pss_nil)))
 (pss_cons (ps_for PassesOwn.never rfl (pi_tup (pe_tup (pa_cons pe_non (pa_cons pe_int (pa_cons (pe_tup (pa_cons pe_int (pa_cons pe_int pa_nil))) (pa_cons pe_str (pa_cons (pe_lst (pa_cons (pe_tup (pa_cons pe_int (pa_cons pe_int pa_nil))) (pa_cons (pe_tup (pa_cons pe_int (pa_cons pe_int pa_nil))) pa_nil))) pa_nil))))))) (pg_name (i := 2) sc_law.nd rfl (Or.inl rfl))
 (pss_one (ps_if (pt_not (pt_val (pe_callD D_law_is_refused (hr.mono (by decide)) pass0 (pa_cons (pv 2) (pa_cons (pe_tup (pa_cons pe_str (pa_cons pe_int pa_nil))) pa_nil)))))
 (pss_one (ps_ret pe_bl))
 pss_nil)))
 (pss_one (ps_ret pe_bl)))), ?_⟩
    refine ⟨_, rfl, a, ns, rfl, hS, fun l cs H1 e1 hL => ?_⟩
    refine ⟨l, rfl, ⟨_, SqL.of hL⟩, for_list (K := K) (a := l) (xs := cs.map V.int) (fun i σ H' => ∃ v : Option V, σ = [some (.ref a), v, none] ∧ Ex H1 H') ⟨none, rfl, Ex.refl _⟩ ?_ ?_ ?_⟩
    · rintro i σ H' hi ⟨v, rfl, e'⟩
      exact SqL.of (e' _ _ hL)
    · rintro i x σ H' hi ⟨v, rfl, e'⟩
      obtain ⟨n, _, rfl⟩ := map_int_at hi
      exact ⟨_, rfl, n, rfl, fun H2 e2 => ⟨_, rfl, if_no rfl ⟨_, rfl, e'.trans e2⟩⟩⟩
    · rintro σ H2 ⟨v, rfl, e2⟩
      refine ⟨show 2 ≤ sizeLine by decide, fun t1 ht1 => ?_⟩
      refine ⟨show 2 ≤ sizeLine by decide, fun t2 ht2 => ⟨show 2 ≤ sizeLine by decide, fun t3 ht3 => ⟨show 2 ≤ sizeLine by decide, fun l4 hl4 => ?_⟩⟩⟩
      refine ⟨show 5 ≤ sizeLine by decide, fun tt htt => ?_⟩
      have x1 := Ex.new (o := HO.tup [.int 1, .int 2]) ht1
      have x2 := Ex.new (o := HO.tup [.int 0, .int 1]) ht2
      have x3 := Ex.new (o := HO.tup [.int 1, .int 0]) ht3
      have x4 := Ex.new (o := HO.lst [.ref t2, .ref t3]) hl4
      have x5 := Ex.new (o := HO.tup [.non, .int 5, .ref t1, .str "met", .ref l4]) htt
      have kds : ∀ x ∈ [V.non, .int 5, .ref t1, .str "met", .ref l4], ∃ t, Kd (upd (upd (upd (upd (upd H2 t1 (HO.tup [.int 1, .int 2])) t2 (HO.tup [.int 0, .int 1])) t3 (HO.tup [.int 1, .int 0])) l4 (HO.lst [.ref t2, .ref t3])) tt (HO.tup [.non, .int 5, .ref t1, .str "met", .ref l4])) x t ∧ t ∈ ["NoneType", "int", "str", "list", "tuple"] := by
        intro x hx
        simp only [List.mem_cons, List.not_mem_nil, or_false] at hx
        rcases hx with rfl | rfl | rfl | rfl | rfl
        · exact ⟨_, .non, by simp⟩
        · exact ⟨_, .int 5, by simp⟩
        · exact ⟨_, .tup (x5 _ _ (x4 _ _ (x3 _ _ (x2 _ _ upd_same)))), by simp⟩
        · exact ⟨_, .str _, by simp⟩
        · exact ⟨_, .lst (x5 _ _ upd_same), by simp⟩
      have hT : upd (upd (upd (upd (upd H2 t1 (HO.tup [.int 1, .int 2])) t2 (HO.tup [.int 0, .int 1])) t3 (HO.tup [.int 1, .int 0])) l4 (HO.lst [.ref t2, .ref t3])) tt (HO.tup [.non, .int 5, .ref t1, .str "met", .ref l4]) tt = some (HO.tup [.non, .int 5, .ref t1, .str "met", .ref l4]) := upd_same
      generalize upd (upd (upd (upd (upd H2 t1 (HO.tup [.int 1, .int 2])) t2 (HO.tup [.int 0, .int 1])) t3 (HO.tup [.int 1, .int 0])) l4 (HO.lst [.ref t2, .ref t3])) tt (HO.tup [.non, .int 5, .ref t1, .str "met", .ref l4]) = H3 at kds hT
      generalize [V.non, .int 5, .ref t1, .str "met", .ref l4] = xs at kds hT
      refine ⟨tt, rfl, ⟨_, SqT.of hT⟩, for_tup (K := K) (a := tt) (xs := xs) (fun i σ H' => ∃ v2 : Option V, σ = [some (.ref a), v, v2] ∧ Ex H3 H') ⟨none, rfl, Ex.refl _⟩ ?_ ?_ ?_⟩
      · rintro i σ H' hi ⟨v2, rfl, e'⟩
        exact SqT.of (e' _ _ hT)
      · rintro i x σ H' hi ⟨v2, rfl, e'⟩
        obtain ⟨t, kd, ht⟩ := kds x (List.mem_of_getElem? hi)
        refine ⟨_, rfl, show 2 ≤ sizeLine by decide, fun tm htm => ?_⟩
        have xm := Ex.new (o := HO.tup [.str "modulus", .int 2]) htm
        exact ⟨_, _, t, rfl, kd.same (e'.trans xm), ht, _, rfl, if_no rfl ⟨_, rfl, e'.trans xm⟩⟩
      · rintro σ H4 ⟨v2, rfl, e4⟩
        exact k H4
end
end My
set_option maxHeartbeats 8000000
namespace My
open PySem L2 Lf Evl
abbrev s_num : Stmt := inClass (top 4) 0
theorem fld_value : PySem.LfX.FldOk "value" := ⟨by decide +kernel, by decide +kernel, by decide +kernel, by decide +kernel, fun _ _ _ _ _ _ _ _ _ _ _ _ _ => .of_eq rfl⟩
theorem all_mk {P : Program} {w : World} {K : PySem.W.Frag} {h : Heap} {mg : Str → Option Value} {fa CN fI CA FE : Addr} (X : K.In h) (G : h.Ns mainGlobals mg) (hfa : mg "law" = some (.ref fa))
    {f0 : Addr} {od0 an0 : Option Addr} {sl0 : Array (Option Value)} {oc0 kV0 dc0 pm0 cd0 ct0 : Value}
    (a0 : PySem.W.nsIn K mainGlobals "is_number" = some (some (.ref f0))) (l0 : K.lookup f0 = some ⟨oc0, od0, .func (PySem.W.fnOf "is_number" "is_number" (defArgs s_is_number) (defBody s_is_number) (defScope s_is_number) .none kV0 dc0 pm0 an0 cd0 ct0), sl0⟩) (c0 : PySem.W.codeIn K cd0 "is_number" = true) (k0 : PySem.W.keepIn K (.ref f0) = true)
    {f1 : Addr} {od1 an1 : Option Addr} {sl1 : Array (Option Value)} {oc1 kV1 dc1 pm1 cd1 ct1 : Value}
    (a1 : PySem.W.nsIn K mainGlobals "combination" = some (some (.ref f1))) (l1 : K.lookup f1 = some ⟨oc1, od1, .func (PySem.W.fnOf "combination" "combination" (defArgs s_combination) (defBody s_combination) (defScope s_combination) .none kV1 dc1 pm1 an1 cd1 ct1), sl1⟩) (c1 : PySem.W.codeIn K cd1 "combination" = true) (k1 : PySem.W.keepIn K (.ref f1) = true)
    {f2 : Addr} {od2 an2 : Option Addr} {sl2 : Array (Option Value)} {oc2 kV2 dc2 pm2 cd2 ct2 : Value}
    (a2 : PySem.W.nsIn K mainGlobals "line_of" = some (some (.ref f2))) (l2 : K.lookup f2 = some ⟨oc2, od2, .func (PySem.W.fnOf "line_of" "line_of" (defArgs s_line_of) (defBody s_line_of) (defScope s_line_of) .none kV2 dc2 pm2 an2 cd2 ct2), sl2⟩) (c2 : PySem.W.codeIn K cd2 "line_of" = true) (k2 : PySem.W.keepIn K (.ref f2) = true)
    {f3 : Addr} {od3 an3 : Option Addr} {sl3 : Array (Option Value)} {oc3 kV3 dc3 pm3 cd3 ct3 : Value}
    (a3 : PySem.W.nsIn K mainGlobals "pair_after" = some (some (.ref f3))) (l3 : K.lookup f3 = some ⟨oc3, od3, .func (PySem.W.fnOf "pair_after" "pair_after" (defArgs s_pair_after) (defBody s_pair_after) (defScope s_pair_after) .none kV3 dc3 pm3 an3 cd3 ct3), sl3⟩) (c3 : PySem.W.codeIn K cd3 "pair_after" = true) (k3 : PySem.W.keepIn K (.ref f3) = true)
    {f4 : Addr} {od4 an4 : Option Addr} {sl4 : Array (Option Value)} {oc4 kV4 dc4 pm4 cd4 ct4 : Value}
    (a4 : PySem.W.nsIn K mainGlobals "ends_of" = some (some (.ref f4))) (l4 : K.lookup f4 = some ⟨oc4, od4, .func (PySem.W.fnOf "ends_of" "ends_of" (defArgs s_ends_of) (defBody s_ends_of) (defScope s_ends_of) .none kV4 dc4 pm4 an4 cd4 ct4), sl4⟩) (c4 : PySem.W.codeIn K cd4 "ends_of" = true) (k4 : PySem.W.keepIn K (.ref f4) = true)
    {f5 : Addr} {od5 an5 : Option Addr} {sl5 : Array (Option Value)} {oc5 kV5 dc5 pm5 cd5 ct5 : Value}
    (a5 : PySem.W.nsIn K mainGlobals "is_great" = some (some (.ref f5))) (l5 : K.lookup f5 = some ⟨oc5, od5, .func (PySem.W.fnOf "is_great" "is_great" (defArgs s_is_great) (defBody s_is_great) (defScope s_is_great) .none kV5 dc5 pm5 an5 cd5 ct5), sl5⟩) (c5 : PySem.W.codeIn K cd5 "is_great" = true) (k5 : PySem.W.keepIn K (.ref f5) = true)
    {f6 : Addr} {od6 an6 : Option Addr} {sl6 : Array (Option Value)} {oc6 kV6 dc6 pm6 cd6 ct6 : Value}
    (a6 : PySem.W.nsIn K mainGlobals "is_count" = some (some (.ref f6))) (l6 : K.lookup f6 = some ⟨oc6, od6, .func (PySem.W.fnOf "is_count" "is_count" (defArgs s_is_count) (defBody s_is_count) (defScope s_is_count) .none kV6 dc6 pm6 an6 cd6 ct6), sl6⟩) (c6 : PySem.W.codeIn K cd6 "is_count" = true) (k6 : PySem.W.keepIn K (.ref f6) = true)
    {f7 : Addr} {od7 an7 : Option Addr} {sl7 : Array (Option Value)} {oc7 kV7 dc7 pm7 cd7 ct7 : Value}
    (a7 : PySem.W.nsIn K mainGlobals "is_pair" = some (some (.ref f7))) (l7 : K.lookup f7 = some ⟨oc7, od7, .func (PySem.W.fnOf "is_pair" "is_pair" (defArgs s_is_pair) (defBody s_is_pair) (defScope s_is_pair) .none kV7 dc7 pm7 an7 cd7 ct7), sl7⟩) (c7 : PySem.W.codeIn K cd7 "is_pair" = true) (k7 : PySem.W.keepIn K (.ref f7) = true)
    {f8 : Addr} {od8 an8 : Option Addr} {sl8 : Array (Option Value)} {oc8 kV8 dc8 pm8 cd8 ct8 : Value}
    (a8 : PySem.W.nsIn K mainGlobals "require_great_place" = some (some (.ref f8))) (l8 : K.lookup f8 = some ⟨oc8, od8, .func (PySem.W.fnOf "require_great_place" "require_great_place" (defArgs s_require_great_place) (defBody s_require_great_place) (defScope s_require_great_place) .none kV8 dc8 pm8 an8 cd8 ct8), sl8⟩) (c8 : PySem.W.codeIn K cd8 "require_great_place" = true) (k8 : PySem.W.keepIn K (.ref f8) = true)
    {f9 : Addr} {od9 an9 : Option Addr} {sl9 : Array (Option Value)} {oc9 kV9 dc9 pm9 cd9 ct9 : Value}
    (a9 : PySem.W.nsIn K mainGlobals "require_count" = some (some (.ref f9))) (l9 : K.lookup f9 = some ⟨oc9, od9, .func (PySem.W.fnOf "require_count" "require_count" (defArgs s_require_count) (defBody s_require_count) (defScope s_require_count) .none kV9 dc9 pm9 an9 cd9 ct9), sl9⟩) (c9 : PySem.W.codeIn K cd9 "require_count" = true) (k9 : PySem.W.keepIn K (.ref f9) = true)
    {f10 : Addr} {od10 an10 : Option Addr} {sl10 : Array (Option Value)} {oc10 kV10 dc10 pm10 cd10 ct10 : Value}
    (a10 : PySem.W.nsIn K mainGlobals "is_gap" = some (some (.ref f10))) (l10 : K.lookup f10 = some ⟨oc10, od10, .func (PySem.W.fnOf "is_gap" "is_gap" (defArgs s_is_gap) (defBody s_is_gap) (defScope s_is_gap) .none kV10 dc10 pm10 an10 cd10 ct10), sl10⟩) (c10 : PySem.W.codeIn K cd10 "is_gap" = true) (k10 : PySem.W.keepIn K (.ref f10) = true)
    {f11 : Addr} {od11 an11 : Option Addr} {sl11 : Array (Option Value)} {oc11 kV11 dc11 pm11 cd11 ct11 : Value}
    (a11 : PySem.W.nsIn K mainGlobals "is_modulus" = some (some (.ref f11))) (l11 : K.lookup f11 = some ⟨oc11, od11, .func (PySem.W.fnOf "is_modulus" "is_modulus" (defArgs s_is_modulus) (defBody s_is_modulus) (defScope s_is_modulus) .none kV11 dc11 pm11 an11 cd11 ct11), sl11⟩) (c11 : PySem.W.codeIn K cd11 "is_modulus" = true) (k11 : PySem.W.keepIn K (.ref f11) = true)
    {f12 : Addr} {od12 an12 : Option Addr} {sl12 : Array (Option Value)} {oc12 kV12 dc12 pm12 cd12 ct12 : Value}
    (a12 : PySem.W.nsIn K mainGlobals "is_meetings_paper" = some (some (.ref f12))) (l12 : K.lookup f12 = some ⟨oc12, od12, .func (PySem.W.fnOf "is_meetings_paper" "is_meetings_paper" (defArgs s_is_meetings_paper) (defBody s_is_meetings_paper) (defScope s_is_meetings_paper) .none kV12 dc12 pm12 an12 cd12 ct12), sl12⟩) (c12 : PySem.W.codeIn K cd12 "is_meetings_paper" = true) (k12 : PySem.W.keepIn K (.ref f12) = true)
    {f13 : Addr} {od13 an13 : Option Addr} {sl13 : Array (Option Value)} {oc13 kV13 dc13 pm13 cd13 ct13 : Value}
    (a13 : PySem.W.nsIn K mainGlobals "_law_dice" = some (some (.ref f13))) (l13 : K.lookup f13 = some ⟨oc13, od13, .func (PySem.W.fnOf "_law_dice" "_law_dice" (defArgs s_law_dice) (defBody s_law_dice) (defScope s_law_dice) .none kV13 dc13 pm13 an13 cd13 ct13), sl13⟩) (c13 : PySem.W.codeIn K cd13 "_law_dice" = true) (k13 : PySem.W.keepIn K (.ref f13) = true)
    {f14 : Addr} {od14 an14 : Option Addr} {sl14 : Array (Option Value)} {oc14 kV14 dc14 pm14 cd14 ct14 : Value}
    (a14 : PySem.W.nsIn K mainGlobals "_law_next" = some (some (.ref f14))) (l14 : K.lookup f14 = some ⟨oc14, od14, .func (PySem.W.fnOf "_law_next" "_law_next" (defArgs s_law_next) (defBody s_law_next) (defScope s_law_next) .none kV14 dc14 pm14 an14 cd14 ct14), sl14⟩) (c14 : PySem.W.codeIn K cd14 "_law_next" = true) (k14 : PySem.W.keepIn K (.ref f14) = true)
    {f15 : Addr} {od15 an15 : Option Addr} {sl15 : Array (Option Value)} {oc15 kV15 dc15 pm15 cd15 ct15 : Value}
    (a15 : PySem.W.nsIn K mainGlobals "_law_cells" = some (some (.ref f15))) (l15 : K.lookup f15 = some ⟨oc15, od15, .func (PySem.W.fnOf "_law_cells" "_law_cells" (defArgs s_law_cells) (defBody s_law_cells) (defScope s_law_cells) .none kV15 dc15 pm15 an15 cd15 ct15), sl15⟩) (c15 : PySem.W.codeIn K cd15 "_law_cells" = true) (k15 : PySem.W.keepIn K (.ref f15) = true)
    {f16 : Addr} {od16 an16 : Option Addr} {sl16 : Array (Option Value)} {oc16 kV16 dc16 pm16 cd16 ct16 : Value}
    (a16 : PySem.W.nsIn K mainGlobals "_law_great" = some (some (.ref f16))) (l16 : K.lookup f16 = some ⟨oc16, od16, .func (PySem.W.fnOf "_law_great" "_law_great" (defArgs s_law_great) (defBody s_law_great) (defScope s_law_great) .none kV16 dc16 pm16 an16 cd16 ct16), sl16⟩) (c16 : PySem.W.codeIn K cd16 "_law_great" = true) (k16 : PySem.W.keepIn K (.ref f16) = true)
    {f17 : Addr} {od17 an17 : Option Addr} {sl17 : Array (Option Value)} {oc17 kV17 dc17 pm17 cd17 ct17 : Value}
    (a17 : PySem.W.nsIn K mainGlobals "_law_whole" = some (some (.ref f17))) (l17 : K.lookup f17 = some ⟨oc17, od17, .func (PySem.W.fnOf "_law_whole" "_law_whole" (defArgs s_law_whole) (defBody s_law_whole) (defScope s_law_whole) .none kV17 dc17 pm17 an17 cd17 ct17), sl17⟩) (c17 : PySem.W.codeIn K cd17 "_law_whole" = true) (k17 : PySem.W.keepIn K (.ref f17) = true)
    {f18 : Addr} {od18 an18 : Option Addr} {sl18 : Array (Option Value)} {oc18 kV18 dc18 pm18 cd18 ct18 : Value}
    (a18 : PySem.W.nsIn K mainGlobals "_law_is_count" = some (some (.ref f18))) (l18 : K.lookup f18 = some ⟨oc18, od18, .func (PySem.W.fnOf "_law_is_count" "_law_is_count" (defArgs s_law_is_count) (defBody s_law_is_count) (defScope s_law_is_count) .none kV18 dc18 pm18 an18 cd18 ct18), sl18⟩) (c18 : PySem.W.codeIn K cd18 "_law_is_count" = true) (k18 : PySem.W.keepIn K (.ref f18) = true)
    {f19 : Addr} {od19 an19 : Option Addr} {sl19 : Array (Option Value)} {oc19 kV19 dc19 pm19 cd19 ct19 : Value}
    (a19 : PySem.W.nsIn K mainGlobals "_law_steps" = some (some (.ref f19))) (l19 : K.lookup f19 = some ⟨oc19, od19, .func (PySem.W.fnOf "_law_steps" "_law_steps" (defArgs s_law_steps) (defBody s_law_steps) (defScope s_law_steps) .none kV19 dc19 pm19 an19 cd19 ct19), sl19⟩) (c19 : PySem.W.codeIn K cd19 "_law_steps" = true) (k19 : PySem.W.keepIn K (.ref f19) = true)
    {f20 : Addr} {od20 an20 : Option Addr} {sl20 : Array (Option Value)} {oc20 kV20 dc20 pm20 cd20 ct20 : Value}
    (a20 : PySem.W.nsIn K mainGlobals "_law_divisor" = some (some (.ref f20))) (l20 : K.lookup f20 = some ⟨oc20, od20, .func (PySem.W.fnOf "_law_divisor" "_law_divisor" (defArgs s_law_divisor) (defBody s_law_divisor) (defScope s_law_divisor) .none kV20 dc20 pm20 an20 cd20 ct20), sl20⟩) (c20 : PySem.W.codeIn K cd20 "_law_divisor" = true) (k20 : PySem.W.keepIn K (.ref f20) = true)
    {f21 : Addr} {od21 an21 : Option Addr} {sl21 : Array (Option Value)} {oc21 kV21 dc21 pm21 cd21 ct21 : Value}
    (a21 : PySem.W.nsIn K mainGlobals "_law_step" = some (some (.ref f21))) (l21 : K.lookup f21 = some ⟨oc21, od21, .func (PySem.W.fnOf "_law_step" "_law_step" (defArgs s_law_step) (defBody s_law_step) (defScope s_law_step) .none kV21 dc21 pm21 an21 cd21 ct21), sl21⟩) (c21 : PySem.W.codeIn K cd21 "_law_step" = true) (k21 : PySem.W.keepIn K (.ref f21) = true)
    {f22 : Addr} {od22 an22 : Option Addr} {sl22 : Array (Option Value)} {oc22 kV22 dc22 pm22 cd22 ct22 : Value}
    (a22 : PySem.W.nsIn K mainGlobals "_law_meets" = some (some (.ref f22))) (l22 : K.lookup f22 = some ⟨oc22, od22, .func (PySem.W.fnOf "_law_meets" "_law_meets" (defArgs s_law_meets) (defBody s_law_meets) (defScope s_law_meets) .none kV22 dc22 pm22 an22 cd22 ct22), sl22⟩) (c22 : PySem.W.codeIn K cd22 "_law_meets" = true) (k22 : PySem.W.keepIn K (.ref f22) = true)
    {f23 : Addr} {od23 an23 : Option Addr} {sl23 : Array (Option Value)} {oc23 kV23 dc23 pm23 cd23 ct23 : Value}
    (a23 : PySem.W.nsIn K mainGlobals "_law_is_good" = some (some (.ref f23))) (l23 : K.lookup f23 = some ⟨oc23, od23, .func (PySem.W.fnOf "_law_is_good" "_law_is_good" (defArgs s_law_is_good) (defBody s_law_is_good) (defScope s_law_is_good) .none kV23 dc23 pm23 an23 cd23 ct23), sl23⟩) (c23 : PySem.W.codeIn K cd23 "_law_is_good" = true) (k23 : PySem.W.keepIn K (.ref f23) = true)
    {f24 : Addr} {od24 an24 : Option Addr} {sl24 : Array (Option Value)} {oc24 kV24 dc24 pm24 cd24 ct24 : Value}
    (a24 : PySem.W.nsIn K mainGlobals "_law_made" = some (some (.ref f24))) (l24 : K.lookup f24 = some ⟨oc24, od24, .func (PySem.W.fnOf "_law_made" "_law_made" (defArgs s_law_made) (defBody s_law_made) (defScope s_law_made) .none kV24 dc24 pm24 an24 cd24 ct24), sl24⟩) (c24 : PySem.W.codeIn K cd24 "_law_made" = true) (k24 : PySem.W.keepIn K (.ref f24) = true)
    {f25 : Addr} {od25 an25 : Option Addr} {sl25 : Array (Option Value)} {oc25 kV25 dc25 pm25 cd25 ct25 : Value}
    (a25 : PySem.W.nsIn K mainGlobals "_law_is_truth" = some (some (.ref f25))) (l25 : K.lookup f25 = some ⟨oc25, od25, .func (PySem.W.fnOf "_law_is_truth" "_law_is_truth" (defArgs s_law_is_truth) (defBody s_law_is_truth) (defScope s_law_is_truth) .none kV25 dc25 pm25 an25 cd25 ct25), sl25⟩) (c25 : PySem.W.codeIn K cd25 "_law_is_truth" = true) (k25 : PySem.W.keepIn K (.ref f25) = true)
    {f26 : Addr} {od26 an26 : Option Addr} {sl26 : Array (Option Value)} {oc26 kV26 dc26 pm26 cd26 ct26 : Value}
    (a26 : PySem.W.nsIn K mainGlobals "_law_moved" = some (some (.ref f26))) (l26 : K.lookup f26 = some ⟨oc26, od26, .func (PySem.W.fnOf "_law_moved" "_law_moved" (defArgs s_law_moved) (defBody s_law_moved) (defScope s_law_moved) .none kV26 dc26 pm26 an26 cd26 ct26), sl26⟩) (c26 : PySem.W.codeIn K cd26 "_law_moved" = true) (k26 : PySem.W.keepIn K (.ref f26) = true)
    {f27 : Addr} {od27 an27 : Option Addr} {sl27 : Array (Option Value)} {oc27 kV27 dc27 pm27 cd27 ct27 : Value}
    (a27 : PySem.W.nsIn K mainGlobals "_law_is_nearest" = some (some (.ref f27))) (l27 : K.lookup f27 = some ⟨oc27, od27, .func (PySem.W.fnOf "_law_is_nearest" "_law_is_nearest" (defArgs s_law_is_nearest) (defBody s_law_is_nearest) (defScope s_law_is_nearest) .none kV27 dc27 pm27 an27 cd27 ct27), sl27⟩) (c27 : PySem.W.codeIn K cd27 "_law_is_nearest" = true) (k27 : PySem.W.keepIn K (.ref f27) = true)
    {f28 : Addr} {od28 an28 : Option Addr} {sl28 : Array (Option Value)} {oc28 kV28 dc28 pm28 cd28 ct28 : Value}
    (a28 : PySem.W.nsIn K mainGlobals "_law_bounds" = some (some (.ref f28))) (l28 : K.lookup f28 = some ⟨oc28, od28, .func (PySem.W.fnOf "_law_bounds" "_law_bounds" (defArgs s_law_bounds) (defBody s_law_bounds) (defScope s_law_bounds) .none kV28 dc28 pm28 an28 cd28 ct28), sl28⟩) (c28 : PySem.W.codeIn K cd28 "_law_bounds" = true) (k28 : PySem.W.keepIn K (.ref f28) = true)
    {f29 : Addr} {od29 an29 : Option Addr} {sl29 : Array (Option Value)} {oc29 kV29 dc29 pm29 cd29 ct29 : Value}
    (a29 : PySem.W.nsIn K mainGlobals "_law_spares" = some (some (.ref f29))) (l29 : K.lookup f29 = some ⟨oc29, od29, .func (PySem.W.fnOf "_law_spares" "_law_spares" (defArgs s_law_spares) (defBody s_law_spares) (defScope s_law_spares) .none kV29 dc29 pm29 an29 cd29 ct29), sl29⟩) (c29 : PySem.W.codeIn K cd29 "_law_spares" = true) (k29 : PySem.W.keepIn K (.ref f29) = true)
    {f30 : Addr} {od30 an30 : Option Addr} {sl30 : Array (Option Value)} {oc30 kV30 dc30 pm30 cd30 ct30 : Value}
    (a30 : PySem.W.nsIn K mainGlobals "_law_is_gap" = some (some (.ref f30))) (l30 : K.lookup f30 = some ⟨oc30, od30, .func (PySem.W.fnOf "_law_is_gap" "_law_is_gap" (defArgs s_law_is_gap) (defBody s_law_is_gap) (defScope s_law_is_gap) .none kV30 dc30 pm30 an30 cd30 ct30), sl30⟩) (c30 : PySem.W.codeIn K cd30 "_law_is_gap" = true) (k30 : PySem.W.keepIn K (.ref f30) = true)
    {f31 : Addr} {od31 an31 : Option Addr} {sl31 : Array (Option Value)} {oc31 kV31 dc31 pm31 cd31 ct31 : Value}
    (a31 : PySem.W.nsIn K mainGlobals "_law_is_paper" = some (some (.ref f31))) (l31 : K.lookup f31 = some ⟨oc31, od31, .func (PySem.W.fnOf "_law_is_paper" "_law_is_paper" (defArgs s_law_is_paper) (defBody s_law_is_paper) (defScope s_law_is_paper) .none kV31 dc31 pm31 an31 cd31 ct31), sl31⟩) (c31 : PySem.W.codeIn K cd31 "_law_is_paper" = true) (k31 : PySem.W.keepIn K (.ref f31) = true)
    {f32 : Addr} {od32 an32 : Option Addr} {sl32 : Array (Option Value)} {oc32 kV32 dc32 pm32 cd32 ct32 : Value}
    (a32 : PySem.W.nsIn K mainGlobals "_law_places" = some (some (.ref f32))) (l32 : K.lookup f32 = some ⟨oc32, od32, .func (PySem.W.fnOf "_law_places" "_law_places" (defArgs s_law_places) (defBody s_law_places) (defScope s_law_places) .none kV32 dc32 pm32 an32 cd32 ct32), sl32⟩) (c32 : PySem.W.codeIn K cd32 "_law_places" = true) (k32 : PySem.W.keepIn K (.ref f32) = true)
    {f33 : Addr} {od33 an33 : Option Addr} {sl33 : Array (Option Value)} {oc33 kV33 dc33 pm33 cd33 ct33 : Value}
    (a33 : PySem.W.nsIn K mainGlobals "_law_pairs" = some (some (.ref f33))) (l33 : K.lookup f33 = some ⟨oc33, od33, .func (PySem.W.fnOf "_law_pairs" "_law_pairs" (defArgs s_law_pairs) (defBody s_law_pairs) (defScope s_law_pairs) .none kV33 dc33 pm33 an33 cd33 ct33), sl33⟩) (c33 : PySem.W.codeIn K cd33 "_law_pairs" = true) (k33 : PySem.W.keepIn K (.ref f33) = true)
    {f34 : Addr} {od34 an34 : Option Addr} {sl34 : Array (Option Value)} {oc34 kV34 dc34 pm34 cd34 ct34 : Value}
    (a34 : PySem.W.nsIn K mainGlobals "_law_values" = some (some (.ref f34))) (l34 : K.lookup f34 = some ⟨oc34, od34, .func (PySem.W.fnOf "_law_values" "_law_values" (defArgs s_law_values) (defBody s_law_values) (defScope s_law_values) .none kV34 dc34 pm34 an34 cd34 ct34), sl34⟩) (c34 : PySem.W.codeIn K cd34 "_law_values" = true) (k34 : PySem.W.keepIn K (.ref f34) = true)
    {f35 : Addr} {od35 an35 : Option Addr} {sl35 : Array (Option Value)} {oc35 kV35 dc35 pm35 cd35 ct35 : Value}
    (a35 : PySem.W.nsIn K mainGlobals "_law_is_refused" = some (some (.ref f35))) (l35 : K.lookup f35 = some ⟨oc35, od35, .func (PySem.W.fnOf "_law_is_refused" "_law_is_refused" (defArgs s_law_is_refused) (defBody s_law_is_refused) (defScope s_law_is_refused) .none kV35 dc35 pm35 an35 cd35 ct35), sl35⟩) (c35 : PySem.W.codeIn K cd35 "_law_is_refused" = true) (k35 : PySem.W.keepIn K (.ref f35) = true)
    {f36 : Addr} {od36 an36 : Option Addr} {sl36 : Array (Option Value)} {oc36 kV36 dc36 pm36 cd36 ct36 : Value}
    (a36 : PySem.W.nsIn K mainGlobals "_law_one" = some (some (.ref f36))) (l36 : K.lookup f36 = some ⟨oc36, od36, .func (PySem.W.fnOf "_law_one" "_law_one" (defArgs s_law_one) (defBody s_law_one) (defScope s_law_one) .none kV36 dc36 pm36 an36 cd36 ct36), sl36⟩) (c36 : PySem.W.codeIn K cd36 "_law_one" = true) (k36 : PySem.W.keepIn K (.ref f36) = true)
    {f37 : Addr} {od37 an37 : Option Addr} {sl37 : Array (Option Value)} {oc37 kV37 dc37 pm37 cd37 ct37 : Value}
    (a37 : PySem.W.nsIn K mainGlobals "law" = some (some (.ref f37))) (l37 : K.lookup f37 = some ⟨oc37, od37, .func (PySem.W.fnOf "law" "law" (defArgs s_law) (defBody s_law) (defScope s_law) .none kV37 dc37 pm37 an37 cd37 ct37), sl37⟩) (c37 : PySem.W.codeIn K cd37 "law" = true) (k37 : PySem.W.keepIn K (.ref f37) = true)
    {gM0 : Addr} {gdM0 gnM0 : Option Addr} {gsM0 : Array (Option Value)} {goM0 gvM0 gcM0 gpM0 geM0 gtM0 : Value} (mlM0 : K.lookup gM0 = some ⟨goM0, gdM0, .func (PySem.W.fnOf "spares_at" "Meetings.spares_at" (defArgs s_Meetings_spares_at) (defBody s_Meetings_spares_at) (defScope s_Meetings_spares_at) .none gvM0 gcM0 gpM0 gnM0 geM0 gtM0), gsM0⟩) (mcM0 : PySem.W.codeIn K geM0 "Meetings.spares_at" = true) (mkM0 : PySem.W.keepIn K (.ref gM0) = true)
    (maM0 : PySem.W.findIn K (.ref FE) "spares_at" = some (some (.ref gM0))) (mfM0 : PySem.W.isFn K (.ref gM0) = true)
    {gM1 : Addr} {gdM1 gnM1 : Option Addr} {gsM1 : Array (Option Value)} {goM1 gvM1 gcM1 gpM1 geM1 gtM1 : Value} (mlM1 : K.lookup gM1 = some ⟨goM1, gdM1, .func (PySem.W.fnOf "slopes" "Meetings.slopes" (defArgs s_Meetings_slopes) (defBody s_Meetings_slopes) (defScope s_Meetings_slopes) .none gvM1 gcM1 gpM1 gnM1 geM1 gtM1), gsM1⟩) (mcM1 : PySem.W.codeIn K geM1 "Meetings.slopes" = true) (mkM1 : PySem.W.keepIn K (.ref gM1) = true)
    (maM1 : PySem.W.findIn K (.ref FE) "slopes" = some (some (.ref gM1))) (mfM1 : PySem.W.isFn K (.ref gM1) = true)
    {gM2 : Addr} {gdM2 gnM2 : Option Addr} {gsM2 : Array (Option Value)} {goM2 gvM2 gcM2 gpM2 geM2 gtM2 : Value} (mlM2 : K.lookup gM2 = some ⟨goM2, gdM2, .func (PySem.W.fnOf "is_empty" "Meetings.is_empty" (defArgs s_Meetings_is_empty) (defBody s_Meetings_is_empty) (defScope s_Meetings_is_empty) .none gvM2 gcM2 gpM2 gnM2 geM2 gtM2), gsM2⟩) (mcM2 : PySem.W.codeIn K geM2 "Meetings.is_empty" = true) (mkM2 : PySem.W.keepIn K (.ref gM2) = true)
    (maM2 : PySem.W.findIn K (.ref FE) "is_empty" = some (some (.ref gM2))) (mfM2 : PySem.W.isFn K (.ref gM2) = true)
    {gM3 : Addr} {gdM3 gnM3 : Option Addr} {gsM3 : Array (Option Value)} {goM3 gvM3 gcM3 gpM3 geM3 gtM3 : Value} (mlM3 : K.lookup gM3 = some ⟨goM3, gdM3, .func (PySem.W.fnOf "end_by" "Meetings.end_by" (defArgs s_Meetings_end_by) (defBody s_Meetings_end_by) (defScope s_Meetings_end_by) .none gvM3 gcM3 gpM3 gnM3 geM3 gtM3), gsM3⟩) (mcM3 : PySem.W.codeIn K geM3 "Meetings.end_by" = true) (mkM3 : PySem.W.keepIn K (.ref gM3) = true)
    (maM3 : PySem.W.findIn K (.ref FE) "end_by" = some (some (.ref gM3))) (mfM3 : PySem.W.isFn K (.ref gM3) = true)
    {gM4 : Addr} {gdM4 gnM4 : Option Addr} {gsM4 : Array (Option Value)} {goM4 gvM4 gcM4 gpM4 geM4 gtM4 : Value} (mlM4 : K.lookup gM4 = some ⟨goM4, gdM4, .func (PySem.W.fnOf "growth" "Meetings.growth" (defArgs s_Meetings_growth) (defBody s_Meetings_growth) (defScope s_Meetings_growth) .none gvM4 gcM4 gpM4 gnM4 geM4 gtM4), gsM4⟩) (mcM4 : PySem.W.codeIn K geM4 "Meetings.growth" = true) (mkM4 : PySem.W.keepIn K (.ref gM4) = true)
    (maM4 : PySem.W.findIn K (.ref FE) "growth" = some (some (.ref gM4))) (mfM4 : PySem.W.isFn K (.ref gM4) = true)
    {gM5 : Addr} {gdM5 gnM5 : Option Addr} {gsM5 : Array (Option Value)} {goM5 gvM5 gcM5 gpM5 geM5 gtM5 : Value} (mlM5 : K.lookup gM5 = some ⟨goM5, gdM5, .func (PySem.W.fnOf "divisor" "Meetings.divisor" (defArgs s_Meetings_divisor) (defBody s_Meetings_divisor) (defScope s_Meetings_divisor) .none gvM5 gcM5 gpM5 gnM5 geM5 gtM5), gsM5⟩) (mcM5 : PySem.W.codeIn K geM5 "Meetings.divisor" = true) (mkM5 : PySem.W.keepIn K (.ref gM5) = true)
    (maM5 : PySem.W.findIn K (.ref FE) "divisor" = some (some (.ref gM5))) (mfM5 : PySem.W.isFn K (.ref gM5) = true)
    {gM6 : Addr} {gdM6 gnM6 : Option Addr} {gsM6 : Array (Option Value)} {goM6 gvM6 gcM6 gpM6 geM6 gtM6 : Value} (mlM6 : K.lookup gM6 = some ⟨goM6, gdM6, .func (PySem.W.fnOf "is_on_line" "Meetings.is_on_line" (defArgs s_Meetings_is_on_line) (defBody s_Meetings_is_on_line) (defScope s_Meetings_is_on_line) .none gvM6 gcM6 gpM6 gnM6 geM6 gtM6), gsM6⟩) (mcM6 : PySem.W.codeIn K geM6 "Meetings.is_on_line" = true) (mkM6 : PySem.W.keepIn K (.ref gM6) = true)
    (maM6 : PySem.W.findIn K (.ref FE) "is_on_line" = some (some (.ref gM6))) (mfM6 : PySem.W.isFn K (.ref gM6) = true)
    {gM7 : Addr} {gdM7 gnM7 : Option Addr} {gsM7 : Array (Option Value)} {goM7 gvM7 gcM7 gpM7 geM7 gtM7 : Value} (mlM7 : K.lookup gM7 = some ⟨goM7, gdM7, .func (PySem.W.fnOf "__bool__" "Meetings.__bool__" (defArgs s_Meetings___bool__) (defBody s_Meetings___bool__) (defScope s_Meetings___bool__) .none gvM7 gcM7 gpM7 gnM7 geM7 gtM7), gsM7⟩) (mcM7 : PySem.W.codeIn K geM7 "Meetings.__bool__" = true) (mkM7 : PySem.W.keepIn K (.ref gM7) = true)
    (maM7 : PySem.W.findIn K (.ref FE) "__bool__" = some (some (.ref gM7))) (mfM7 : PySem.W.isFn K (.ref gM7) = true)
    {gP0 : Addr} {gdP0 gnP0 : Option Addr} {gsP0 : Array (Option Value)} {goP0 gvP0 gcP0 gpP0 geP0 gtP0 : Value} (mlP0 : K.lookup gP0 = some ⟨goP0, gdP0, .func (PySem.W.fnOf "nearest" "Meetings.nearest" (defArgs s_Meetings_nearest) (defBody s_Meetings_nearest) (defScope s_Meetings_nearest) .none gvP0 gcP0 gpP0 gnP0 geP0 gtP0), gsP0⟩) (mcP0 : PySem.W.codeIn K geP0 "Meetings.nearest" = true) (mkP0 : PySem.W.keepIn K (.ref gP0) = true)
    {ppP0 : Addr} {pzP0 : List Value} (paP0 : PySem.W.findIn K (.ref FE) "nearest" = some (some (.ref ppP0))) (pgP0 : PySem.W.specialIn K (.ref ppP0) "__get__" = some (some (.builtin "property.__get__"))) (ptP0 : PySem.W.takesIn K (.ref ppP0) = some true) (prP0 : PySem.W.recIn K ppP0 "property" = some (.ref gP0 :: pzP0))
    {gP1 : Addr} {gdP1 gnP1 : Option Addr} {gsP1 : Array (Option Value)} {goP1 gvP1 gcP1 gpP1 geP1 gtP1 : Value} (mlP1 : K.lookup gP1 = some ⟨goP1, gdP1, .func (PySem.W.fnOf "paper" "Meetings.paper" (defArgs s_Meetings_paper) (defBody s_Meetings_paper) (defScope s_Meetings_paper) .none gvP1 gcP1 gpP1 gnP1 geP1 gtP1), gsP1⟩) (mcP1 : PySem.W.codeIn K geP1 "Meetings.paper" = true) (mkP1 : PySem.W.keepIn K (.ref gP1) = true)
    {ppP1 : Addr} {pzP1 : List Value} (paP1 : PySem.W.findIn K (.ref FE) "paper" = some (some (.ref ppP1))) (pgP1 : PySem.W.specialIn K (.ref ppP1) "__get__" = some (some (.builtin "property.__get__"))) (ptP1 : PySem.W.takesIn K (.ref ppP1) = some true) (prP1 : PySem.W.recIn K ppP1 "property" = some (.ref gP1 :: pzP1))
    {gI KD : Addr} {gdI gnI : Option Addr} {gsI : Array (Option Value)} {goI gcI gpI geI gtI : Value} (mlI : K.lookup gI = some ⟨goI, gdI, .func (PySem.W.fnOf "__init__" "Meetings.__init__" (defArgs s_Meetings___init__) (defBody s_Meetings___init__) (defScope s_Meetings___init__) .none (.ref KD) gcI gpI gnI geI gtI), gsI⟩) (mcI : PySem.W.codeIn K geI "Meetings.__init__" = true) (mkI : PySem.W.keepIn K (.ref gI) = true)
    (maI : PySem.W.findIn K (.ref FE) "__init__" = some (some (.ref gI))) (mfI : PySem.W.isFn K (.ref gI) = true) (mks : PySem.W.makesIn K FE = true) (kpC : PySem.W.keepIn K (.ref FE) = true)
    {tk1 tk2 : Tok} (kw1 : PySem.W.nsIn K KD "low" = some (some (.int 0 tk1))) (kw2 : PySem.W.nsIn K KD "high" = some (some .none)) (kw3 : PySem.W.nsIn K KD "first" = some (some (.int 0 tk2))) (kw4 : PySem.W.nsIn K KD "rounds" = some (some .none))
    (gMt : PySem.W.nsIn K mainGlobals "Meetings" = some (some (.ref FE))) (q1 : PySem.W.plainGet K FE Str.empty = true) (q2 : PySem.W.hasDictIn K FE = true) (q3 : PySem.W.plainOver K FE = true) (q4 : PySem.W.findIn K (.ref FE) "__setattr__" = some (some (.builtin "object.__setattr__")))
    (nf0 : PySem.W.findIn K (.ref FE) "place" = some none) (nf1 : PySem.W.findIn K (.ref FE) "other" = some none) (nf2 : PySem.W.findIn K (.ref FE) "low" = some none) (nf3 : PySem.W.findIn K (.ref FE) "high" = some none) (nf4 : PySem.W.findIn K (.ref FE) "first" = some none) (nf5 : PySem.W.findIn K (.ref FE) "rounds" = some none) (nf6 : PySem.W.findIn K (.ref FE) "own_line" = some none) (nf7 : PySem.W.findIn K (.ref FE) "has_line" = some none) (nf8 : PySem.W.findIn K (.ref FE) "own_ends" = some none)
    (n_isinstance : PySem.W.nsIn K mainGlobals "isinstance" = some none)
    (n_int : PySem.W.nsIn K mainGlobals "int" = some none)
    (n_bool : PySem.W.nsIn K mainGlobals "bool" = some none)
    (n_str : PySem.W.nsIn K mainGlobals "str" = some none)
    (n_tuple : PySem.W.nsIn K mainGlobals "tuple" = some none)
    (n_len : PySem.W.nsIn K mainGlobals "len" = some none)
    (n_abs : PySem.W.nsIn K mainGlobals "abs" = some none)
    (n_max : PySem.W.nsIn K mainGlobals "max" = some none)
    (n_min : PySem.W.nsIn K mainGlobals "min" = some none)
    (n_list : PySem.W.nsIn K mainGlobals "list" = some none)
    (n_range : PySem.W.nsIn K mainGlobals "range" = some none)
    (n_zip : PySem.W.nsIn K mainGlobals "zip" = some none)
    (n_any : PySem.W.nsIn K mainGlobals "any" = some none)
    (n_all : PySem.W.nsIn K mainGlobals "all" = some none)
    (n_super : PySem.W.nsIn K mainGlobals "super" = some none)
    {t1 t2 t3 t4 : Tok} (gG : PySem.W.nsIn K mainGlobals "GREAT" = some (some (.int great t1))) (gNe : PySem.W.nsIn K mainGlobals "NEAREST" = some (some (.str "nearest" t2))) (gMo : PySem.W.nsIn K mainGlobals "MODULUS" = some (some (.str "modulus" t3))) (gGa : PySem.W.nsIn K mainGlobals "GAP" = some (some (.str "gap" t4)))
    (eA : PySem.W.nsIn K mainGlobals "InvalidArgument" = some (some (.ref CA))) (eN : PySem.W.nsIn K mainGlobals "InvalidNumber" = some (some (.ref CN)))
    (xA : PySem.W.excIn K CA [.type "ValueError", .type "Exception", .type "BaseException", .type "object"] "ValueError.__new__" = true) (kA : PySem.W.keepIn K (.ref CA) = true) (bA : PySem.W.subIn K (.ref CA) (.type "BaseException") = some true) (tA : PySem.W.typeIn K (.ref CA) = some (.type "type"))
    {nm q : Str} {N : Addr} {bs : List Value} {sn : List Str} {sub : List Value} {ab : Bool} {col : Option Bool} {dd : Option Addr} {m0 m1 m2 m3 m5 : Option Value}
    (xN : K.lookup CN = some (excClassObj nm q CN N bs [.type "RuntimeError", .type "Exception", .type "BaseException", .type "object"] true sn sub ab col dd m0 m1 m2 m3 m5 "RuntimeError.__new__"))
    (sa : PySem.W.findIn K (.ref CN) "__setattr__" = some (some (.builtin "object.__setattr__"))) (nv : PySem.W.findIn K (.ref CN) "value" = some none) (iC : PySem.W.findIn K (.ref CN) "__init__" = some (some (.ref fI))) (tI : PySem.W.typeIn K (.ref fI) = some (.type "function"))
    (kN : PySem.W.keepIn K (.ref CN) = true) (bN : PySem.W.subIn K (.ref CN) (.type "BaseException") = some true) (sB : PySem.W.subIn K (.ref CN) (.type "RuntimeError") = some true) (sD : PySem.W.mroIn K CN (.ref CN) = some true) (sO : PySem.W.mroIn K CN (.type "object") = some true) (tN : PySem.W.typeIn K (.ref CN) = some (.type "type"))
    (op : PySem.W.nsIn K cStatics "thirdparty.any" = some none) (al : PySem.W.alongIn K "__init__" [.type "RuntimeError", .type "Exception", .type "BaseException", .type "object"] = some (some (.builtin "RuntimeError.__init__")))
    (htop : (P.main.scope.names.lookup ("super" : Str)).isSome = false)
    {oc : Value} {od : Option Addr} {doc pm : Value} {an : Option Addr} {cda : Addr} {ct : Value} {cc : Addr} {osl : Array (Option Value)} {ccl : Value} {cdd : Option Addr} {vs : Array Value} {ccs : Array (Option Value)} {cl : Value} {cld : Option Addr} {csl : Array (Option Value)} {file : Str} {tf : Tok}
    (lI : K.lookup fI = some ⟨oc, od, .func (PySem.W.ksFn "__init__" "InvalidNumber.__init__" (defArgs s_num) (defBody s_num) (defScope s_num) .none .none doc pm an (.ref cda) ct cc), osl⟩) (cI : PySem.W.codeIn K (.ref cda) "InvalidNumber.__init__" = true)
    (lc : K.lookup cda = some ⟨ccl, cdd, .fields vs, ccs⟩) (lz : K.lookup cc = some ⟨cl, cld, .cell (some (.ref CN)), csl⟩) (hvs : vs[2]? = some (.str file tf)) (hfile : ((P.main.file : Str) == file) = true)
    (u1 : PySem.W.findIn K (.ref FE) "__class__" = some (some (.builtin "object.__class__"))) (u2 : PySem.W.specialIn K (.builtin "object.__class__") "__get__" = some (some (.builtin "getset_descriptor.__get__"))) (u3 : PySem.W.takesIn K (.builtin "object.__class__") = some true) (u4 : PySem.W.mroIn K FE (.type "object") = some true)
    (v1 : PySem.W.kitOne K (.type "NoneType") (.ref FE) = some false) (v2 : PySem.W.kitOne K (.type "int") (.ref FE) = some false) (v3 : PySem.W.kitOne K (.type "str") (.ref FE) = some false) (v4 : PySem.W.kitOne K (.type "list") (.ref FE) = some false) (v5 : PySem.W.kitOne K (.type "tuple") (.ref FE) = some false) (aa : PySem.W.exmOne K (.ref CA) (.ref CA) = some true) :
    ∃ fd : FuncData, (∀ (s : Shared) (u : Value), BindsTo s fd ⟨[u], []⟩ [("_law_script", u)]) ∧ ∀ base : Heap, K.In base → base.Ns mainGlobals mg → FnOk P w K mg base CX0 9 fa fd ["_law_script"] (spLaw K) := by
  have e := hfa.symm.trans (PySem.W.mg_of X G a37)
  cases e
  have num : PySem.LfX.XTxt P K mg "InvalidNumber" "value" "RuntimeError" "RuntimeError.__init__" "RuntimeError.__new__" [.type "RuntimeError", .type "Exception", .type "BaseException", .type "object"] CN fI :=
    { fo := fld_value, gC := PySem.W.mg_of X G eN, cls := ⟨_, _, _, _, _, _, _, _, _, _, _, _, _, _, _, xN, fun _ => rfl, PySem.F.store_RuntimeError.passes, al⟩, sa := sa, noF := nv, iC := iC, tC := tI, kC := kN, exC := bN, sB := sB, sD := sD, sO := sO, tyC := tN, op := op,
      sup := PySem.W.mg_none_of X G n_super, top := htop, fn := ⟨_, _, _, _, _, _, _, _, _, _, _, _, _, _, _, _, _, _, _, _, _, _, _, _, _, _, _, _, _, _, _, _, _, lI, cI, lc, hvs, hfile, lz, by decide⟩ }
  have T : Txt P K mg CN fI CA FE := { n_isinstance := PySem.W.mg_none_of X G n_isinstance, n_int := PySem.W.mg_none_of X G n_int, n_bool := PySem.W.mg_none_of X G n_bool, n_str := PySem.W.mg_none_of X G n_str, n_tuple := PySem.W.mg_none_of X G n_tuple, n_len := PySem.W.mg_none_of X G n_len, n_abs := PySem.W.mg_none_of X G n_abs, n_max := PySem.W.mg_none_of X G n_max, n_min := PySem.W.mg_none_of X G n_min, n_list := PySem.W.mg_none_of X G n_list, n_range := PySem.W.mg_none_of X G n_range, n_zip := PySem.W.mg_none_of X G n_zip, n_any := PySem.W.mg_none_of X G n_any, n_all := PySem.W.mg_none_of X G n_all, g_GREAT := ⟨t1, PySem.W.mg_of X G gG⟩, g_NEAREST := ⟨t2, PySem.W.mg_of X G gNe⟩, g_MODULUS := ⟨t3, PySem.W.mg_of X G gMo⟩, g_GAP := ⟨t4, PySem.W.mg_of X G gGa⟩, num := num, gA := PySem.W.mg_of X G eA, xA := xA, kA := kA, bA := bA, tA := tA, c_Met := ⟨q1, q2, q3, q4⟩, g_Meetings := PySem.W.mg_of X G gMt, nf := ⟨nf0, nf1, nf2, nf3, nf4, nf5, nf6, nf7, nf8⟩ }
  have F_is_number := fun_mk (st := s_is_number) l0 c0 k0
  have E_is_number : Df K mg "is_number" s_is_number := ⟨_, _, F_is_number, PySem.W.mg_of X G a0⟩
  have F_combination := fun_mk (st := s_combination) l1 c1 k1
  have E_combination : Df K mg "combination" s_combination := ⟨_, _, F_combination, PySem.W.mg_of X G a1⟩
  have F_line_of := fun_mk (st := s_line_of) l2 c2 k2
  have E_line_of : Df K mg "line_of" s_line_of := ⟨_, _, F_line_of, PySem.W.mg_of X G a2⟩
  have F_pair_after := fun_mk (st := s_pair_after) l3 c3 k3
  have E_pair_after : Df K mg "pair_after" s_pair_after := ⟨_, _, F_pair_after, PySem.W.mg_of X G a3⟩
  have F_ends_of := fun_mk (st := s_ends_of) l4 c4 k4
  have E_ends_of : Df K mg "ends_of" s_ends_of := ⟨_, _, F_ends_of, PySem.W.mg_of X G a4⟩
  have F_is_great := fun_mk (st := s_is_great) l5 c5 k5
  have E_is_great : Df K mg "is_great" s_is_great := ⟨_, _, F_is_great, PySem.W.mg_of X G a5⟩
  have F_is_count := fun_mk (st := s_is_count) l6 c6 k6
  have E_is_count : Df K mg "is_count" s_is_count := ⟨_, _, F_is_count, PySem.W.mg_of X G a6⟩
  have F_is_pair := fun_mk (st := s_is_pair) l7 c7 k7
  have E_is_pair : Df K mg "is_pair" s_is_pair := ⟨_, _, F_is_pair, PySem.W.mg_of X G a7⟩
  have F_require_great_place := fun_mk (st := s_require_great_place) l8 c8 k8
  have E_require_great_place : Df K mg "require_great_place" s_require_great_place := ⟨_, _, F_require_great_place, PySem.W.mg_of X G a8⟩
  have F_require_count := fun_mk (st := s_require_count) l9 c9 k9
  have E_require_count : Df K mg "require_count" s_require_count := ⟨_, _, F_require_count, PySem.W.mg_of X G a9⟩
  have F_is_gap := fun_mk (st := s_is_gap) l10 c10 k10
  have E_is_gap : Df K mg "is_gap" s_is_gap := ⟨_, _, F_is_gap, PySem.W.mg_of X G a10⟩
  have F_is_modulus := fun_mk (st := s_is_modulus) l11 c11 k11
  have E_is_modulus : Df K mg "is_modulus" s_is_modulus := ⟨_, _, F_is_modulus, PySem.W.mg_of X G a11⟩
  have F_is_meetings_paper := fun_mk (st := s_is_meetings_paper) l12 c12 k12
  have E_is_meetings_paper : Df K mg "is_meetings_paper" s_is_meetings_paper := ⟨_, _, F_is_meetings_paper, PySem.W.mg_of X G a12⟩
  have F_law_dice := fun_mk (st := s_law_dice) l13 c13 k13
  have E_law_dice : Df K mg "_law_dice" s_law_dice := ⟨_, _, F_law_dice, PySem.W.mg_of X G a13⟩
  have F_law_next := fun_mk (st := s_law_next) l14 c14 k14
  have E_law_next : Df K mg "_law_next" s_law_next := ⟨_, _, F_law_next, PySem.W.mg_of X G a14⟩
  have F_law_cells := fun_mk (st := s_law_cells) l15 c15 k15
  have E_law_cells : Df K mg "_law_cells" s_law_cells := ⟨_, _, F_law_cells, PySem.W.mg_of X G a15⟩
  have F_law_great := fun_mk (st := s_law_great) l16 c16 k16
  have E_law_great : Df K mg "_law_great" s_law_great := ⟨_, _, F_law_great, PySem.W.mg_of X G a16⟩
  have F_law_whole := fun_mk (st := s_law_whole) l17 c17 k17
  have E_law_whole : Df K mg "_law_whole" s_law_whole := ⟨_, _, F_law_whole, PySem.W.mg_of X G a17⟩
  have F_law_is_count := fun_mk (st := s_law_is_count) l18 c18 k18
  have E_law_is_count : Df K mg "_law_is_count" s_law_is_count := ⟨_, _, F_law_is_count, PySem.W.mg_of X G a18⟩
  have F_law_steps := fun_mk (st := s_law_steps) l19 c19 k19
  have E_law_steps : Df K mg "_law_steps" s_law_steps := ⟨_, _, F_law_steps, PySem.W.mg_of X G a19⟩
  have F_law_divisor := fun_mk (st := s_law_divisor) l20 c20 k20
  have E_law_divisor : Df K mg "_law_divisor" s_law_divisor := ⟨_, _, F_law_divisor, PySem.W.mg_of X G a20⟩
  have F_law_step := fun_mk (st := s_law_step) l21 c21 k21
  have E_law_step : Df K mg "_law_step" s_law_step := ⟨_, _, F_law_step, PySem.W.mg_of X G a21⟩
  have F_law_meets := fun_mk (st := s_law_meets) l22 c22 k22
  have E_law_meets : Df K mg "_law_meets" s_law_meets := ⟨_, _, F_law_meets, PySem.W.mg_of X G a22⟩
  have F_law_is_good := fun_mk (st := s_law_is_good) l23 c23 k23
  have E_law_is_good : Df K mg "_law_is_good" s_law_is_good := ⟨_, _, F_law_is_good, PySem.W.mg_of X G a23⟩
  have F_law_made := fun_mk (st := s_law_made) l24 c24 k24
  have E_law_made : Df K mg "_law_made" s_law_made := ⟨_, _, F_law_made, PySem.W.mg_of X G a24⟩
  have F_law_is_truth := fun_mk (st := s_law_is_truth) l25 c25 k25
  have E_law_is_truth : Df K mg "_law_is_truth" s_law_is_truth := ⟨_, _, F_law_is_truth, PySem.W.mg_of X G a25⟩
  have F_law_moved := fun_mk (st := s_law_moved) l26 c26 k26
  have E_law_moved : Df K mg "_law_moved" s_law_moved := ⟨_, _, F_law_moved, PySem.W.mg_of X G a26⟩
  have F_law_is_nearest := fun_mk (st := s_law_is_nearest) l27 c27 k27
  have E_law_is_nearest : Df K mg "_law_is_nearest" s_law_is_nearest := ⟨_, _, F_law_is_nearest, PySem.W.mg_of X G a27⟩
  have F_law_bounds := fun_mk (st := s_law_bounds) l28 c28 k28
  have E_law_bounds : Df K mg "_law_bounds" s_law_bounds := ⟨_, _, F_law_bounds, PySem.W.mg_of X G a28⟩
  have F_law_spares := fun_mk (st := s_law_spares) l29 c29 k29
  have E_law_spares : Df K mg "_law_spares" s_law_spares := ⟨_, _, F_law_spares, PySem.W.mg_of X G a29⟩
  have F_law_is_gap := fun_mk (st := s_law_is_gap) l30 c30 k30
  have E_law_is_gap : Df K mg "_law_is_gap" s_law_is_gap := ⟨_, _, F_law_is_gap, PySem.W.mg_of X G a30⟩
  have F_law_is_paper := fun_mk (st := s_law_is_paper) l31 c31 k31
  have E_law_is_paper : Df K mg "_law_is_paper" s_law_is_paper := ⟨_, _, F_law_is_paper, PySem.W.mg_of X G a31⟩
  have F_law_places := fun_mk (st := s_law_places) l32 c32 k32
  have E_law_places : Df K mg "_law_places" s_law_places := ⟨_, _, F_law_places, PySem.W.mg_of X G a32⟩
  have F_law_pairs := fun_mk (st := s_law_pairs) l33 c33 k33
  have E_law_pairs : Df K mg "_law_pairs" s_law_pairs := ⟨_, _, F_law_pairs, PySem.W.mg_of X G a33⟩
  have F_law_values := fun_mk (st := s_law_values) l34 c34 k34
  have E_law_values : Df K mg "_law_values" s_law_values := ⟨_, _, F_law_values, PySem.W.mg_of X G a34⟩
  have F_law_is_refused := fun_mk (st := s_law_is_refused) l35 c35 k35
  have E_law_is_refused : Df K mg "_law_is_refused" s_law_is_refused := ⟨_, _, F_law_is_refused, PySem.W.mg_of X G a35⟩
  have F_law_one := fun_mk (st := s_law_one) l36 c36 k36
  have E_law_one : Df K mg "_law_one" s_law_one := ⟨_, _, F_law_one, PySem.W.mg_of X G a36⟩
  have F_law := fun_mk (st := s_law) l37 c37 k37
  have E_law : Df K mg "law" s_law := ⟨_, _, F_law, PySem.W.mg_of X G a37⟩
  have E_Met_spares_at : Dm K FE "spares_at" "Meetings.spares_at" s_Meetings_spares_at := ⟨_, _, fun_mk (st := s_Meetings_spares_at) mlM0 mcM0 mkM0, ⟨maM0, mfM0, mkM0⟩⟩
  have E_Met_slopes : Dm K FE "slopes" "Meetings.slopes" s_Meetings_slopes := ⟨_, _, fun_mk (st := s_Meetings_slopes) mlM1 mcM1 mkM1, ⟨maM1, mfM1, mkM1⟩⟩
  have E_Met_is_empty : Dm K FE "is_empty" "Meetings.is_empty" s_Meetings_is_empty := ⟨_, _, fun_mk (st := s_Meetings_is_empty) mlM2 mcM2 mkM2, ⟨maM2, mfM2, mkM2⟩⟩
  have E_Met_end_by : Dm K FE "end_by" "Meetings.end_by" s_Meetings_end_by := ⟨_, _, fun_mk (st := s_Meetings_end_by) mlM3 mcM3 mkM3, ⟨maM3, mfM3, mkM3⟩⟩
  have E_Met_growth : Dm K FE "growth" "Meetings.growth" s_Meetings_growth := ⟨_, _, fun_mk (st := s_Meetings_growth) mlM4 mcM4 mkM4, ⟨maM4, mfM4, mkM4⟩⟩
  have E_Met_divisor : Dm K FE "divisor" "Meetings.divisor" s_Meetings_divisor := ⟨_, _, fun_mk (st := s_Meetings_divisor) mlM5 mcM5 mkM5, ⟨maM5, mfM5, mkM5⟩⟩
  have E_Met_is_on_line : Dm K FE "is_on_line" "Meetings.is_on_line" s_Meetings_is_on_line := ⟨_, _, fun_mk (st := s_Meetings_is_on_line) mlM6 mcM6 mkM6, ⟨maM6, mfM6, mkM6⟩⟩
  have E_Met___bool__ : Dm K FE "__bool__" "Meetings.__bool__" s_Meetings___bool__ := ⟨_, _, fun_mk (st := s_Meetings___bool__) mlM7 mcM7 mkM7, ⟨maM7, mfM7, mkM7⟩⟩
  have E_Met_nearest : Dp_ K FE "nearest" "Meetings.nearest" s_Meetings_nearest := ⟨_, _, _, fun_mk (st := s_Meetings_nearest) mlP0 mcP0 mkP0, ⟨paP0, pgP0, ptP0, _, prP0⟩⟩
  have E_Met_paper : Dp_ K FE "paper" "Meetings.paper" s_Meetings_paper := ⟨_, _, _, fun_mk (st := s_Meetings_paper) mlP1 mcP1 mkP1, ⟨paP1, pgP1, ptP1, _, prP1⟩⟩
  have EI : ∃ fd, Mk K FE gI ∧ FunI K gI fd := ⟨_, ⟨mks, maI, mfI, kpC⟩, ⟨⟨_, _, _, _, _, _, _, _, _, _, rfl, mlI, mcI, .inl ⟨rfl, rfl⟩, .inr ⟨KD, rfl, fun q hq => by
    simp only [kwd, List.mem_cons, List.not_mem_nil, or_false] at hq
    rcases hq with rfl | rfl | rfl | rfl
    · exact ⟨_, kw1, _, rfl⟩
    · exact ⟨_, kw2, rfl⟩
    · exact ⟨_, kw3, _, rfl⟩
    · exact ⟨_, kw4, rfl⟩⟩⟩, mkI⟩⟩
  obtain ⟨fdI, MI, FI⟩ := EI
  refine ⟨PySem.W.fnOf "law" "law" (defArgs s_law) (defBody s_law) (defScope s_law) .none kV37 dc37 pm37 an37 cd37 ct37, fun s u => .of_eq rfl, fun base _ _ => ?_⟩
  have T2 : Tx2 K FE := ⟨u1, u2, u3, u4, v1, v2, v3, v4, v5⟩
  have d1 := ok_is_number (w := w) (base := base) T E_is_number
  have d2 := ok_combination (w := w) (base := base) T E_combination
  have d3 := ok_line_of T E_line_of d2
  have d4 := ok_pair_after (w := w) (base := base) T E_pair_after
  have d5 := ok_ends_of (w := w) (base := base) T E_ends_of
  have d6 := ok_is_great T E_is_great d1
  have d7 := ok_is_count T E_is_count d6
  have d8 := ok_is_pair T E_is_pair d1
  have d9 := ok_require_great_place T E_require_great_place d8 d6
  have d10 := ok_require_count T E_require_count d7
  have m1 := ok_spares_at (w := w) (base := base) T E_Met_spares_at
  have m2 := ok_slopes (w := w) (base := base) T E_Met_slopes
  have i1 := ok_init T FI d9 d10 d6 d3 d5 m1 m2
  have i2 : InitOk P w K mg base FE := ⟨_, _, MI, FI, i1⟩
  have m3 := ok_is_empty (w := w) (base := base) T E_Met_is_empty
  have m4 := ok_end_by T E_Met_end_by d4
  have m5 := ok_growth (w := w) (base := base) T E_Met_growth
  have m6 := ok_divisor (w := w) (base := base) T E_Met_divisor
  have m7 := ok_on_line (w := w) (base := base) T E_Met_is_on_line
  have m8 := ok_bool T E_Met___bool__ m3
  have p1 := ok_nearest T E_Met_nearest m3 m4 m5
  have p2 := ok_paper T E_Met_paper p1 m6 d4
  have d11 := ok_is_gap T E_is_gap m7 m1 m2
  have d12 := ok_is_modulus (w := w) (base := base) T E_is_modulus
  have d13 := ok_judge T T2 E_is_meetings_paper d1 d12 d11 p1
  have b1 := ok_law_dice (w := w) (base := base) T E_law_dice
  have b2 := ok_law_next (w := w) (base := base) T E_law_next
  have b3 := ok_law_cells (w := w) (base := base) T E_law_cells
  have b4 := ok_law_great T E_law_great b2
  have b5 := ok_law_whole T E_law_whole b2 b4
  have b6 := ok_law_is_count (w := w) (base := base) T E_law_is_count
  have b7 := ok_law_steps T E_law_steps b2 b5
  have b8 := ok_law_divisor (w := w) (base := base) T E_law_divisor
  have b9 := ok_law_step T E_law_step b8
  have b10 := ok_law_meets (w := w) (base := base) T E_law_meets
  have b11 := ok_law_is_good T E_law_is_good b10
  have b12 := ok_law_made T E_law_made i2
  have b13 := ok_law_is_truth (w := w) (base := base) T E_law_is_truth
  have b14 := ok_law_moved (w := w) (base := base) T E_law_moved
  have b15 := ok_law_is_nearest T E_law_is_nearest b11 b9 b14
  have b16 := ok_law_bounds T E_law_bounds b2
  have b17 := ok_law_spares T E_law_spares b9
  have b18 := ok_law_is_gap T E_law_is_gap b10 b17
  have b19 := ok_law_is_paper T E_law_is_paper b6 b15 b18
  have b20 := ok_law_places T E_law_places b2 b7 b5
  have b21 := ok_law_pairs T E_law_pairs b5 b2 b9 b14
  have b22 := ok_law_values T E_law_values b2 b8 b21
  have b23 := ok_law_is_refused T aa E_law_is_refused d13
  have b24 := ok_law_one T E_law_one b1 b20 b16 b12 p2 b19 d13 b13 m8 b22
  exact ok_law T F_law b3 b24 b23
end My
open PySem PySem.W PyProof.Rows
theorem PySem.Challenge.cw_loopfoundry_k11_papers_of_meetings_judge_holds : PySem.Challenge.rw_loopfoundry_k11_papers_of_meetings_judge.Holds := by
  w_on; o_law; k_head; (case hw => w_witness2)
  k_fill
  refine L2.walk_ofK (l := PySem.Challenge.rw_loopfoundry_k11_papers_of_meetings_judge) (k := 9) (CX := L2.CX0) (x := "_law_script") (sp := My.spLaw) rfl (by decide) rfl ⟨rfl, by decide, by decide⟩ (fun w h Y => PySem.W.kIn_of Y) ?F (fun K H a ns hl _ hS => ⟨a, ns, rfl, hS, fun _ => rfl⟩) (fun _ _ _ _ z => z)
  case F =>
    intro w mg fa h KX G hmg
    refine' My.all_mk KX G hmg ?a0 ?l0 ?c0 ?k0 ?a1 ?l1 ?c1 ?k1 ?a2 ?l2 ?c2 ?k2 ?a3 ?l3 ?c3 ?k3 ?a4 ?l4 ?c4 ?k4 ?a5 ?l5 ?c5 ?k5 ?a6 ?l6 ?c6 ?k6 ?a7 ?l7 ?c7 ?k7 ?a8 ?l8 ?c8 ?k8 ?a9 ?l9 ?c9 ?k9 ?a10 ?l10 ?c10 ?k10 ?a11 ?l11 ?c11 ?k11 ?a12 ?l12 ?c12 ?k12 ?a13 ?l13 ?c13 ?k13 ?a14 ?l14 ?c14 ?k14 ?a15 ?l15 ?c15 ?k15 ?a16 ?l16 ?c16 ?k16 ?a17 ?l17 ?c17 ?k17 ?a18 ?l18 ?c18 ?k18 ?a19 ?l19 ?c19 ?k19 ?a20 ?l20 ?c20 ?k20 ?a21 ?l21 ?c21 ?k21 ?a22 ?l22 ?c22 ?k22 ?a23 ?l23 ?c23 ?k23 ?a24 ?l24 ?c24 ?k24 ?a25 ?l25 ?c25 ?k25 ?a26 ?l26 ?c26 ?k26 ?a27 ?l27 ?c27 ?k27 ?a28 ?l28 ?c28 ?k28 ?a29 ?l29 ?c29 ?k29 ?a30 ?l30 ?c30 ?k30 ?a31 ?l31 ?c31 ?k31 ?a32 ?l32 ?c32 ?k32 ?a33 ?l33 ?c33 ?k33 ?a34 ?l34 ?c34 ?k34 ?a35 ?l35 ?c35 ?k35 ?a36 ?l36 ?c36 ?k36 ?a37 ?l37 ?c37 ?k37 ?mlM0 ?mcM0 ?mkM0 ?maM0 ?mfM0 ?mlM1 ?mcM1 ?mkM1 ?maM1 ?mfM1 ?mlM2 ?mcM2 ?mkM2 ?maM2 ?mfM2 ?mlM3 ?mcM3 ?mkM3 ?maM3 ?mfM3 ?mlM4 ?mcM4 ?mkM4 ?maM4 ?mfM4 ?mlM5 ?mcM5 ?mkM5 ?maM5 ?mfM5 ?mlM6 ?mcM6 ?mkM6 ?maM6 ?mfM6 ?mlM7 ?mcM7 ?mkM7 ?maM7 ?mfM7 ?mlP0 ?mcP0 ?mkP0 ?paP0 ?pgP0 ?ptP0 ?prP0 ?mlP1 ?mcP1 ?mkP1 ?paP1 ?pgP1 ?ptP1 ?prP1 ?mlI ?mcI ?mkI ?maI ?mfI ?mks ?kpC ?kw1 ?kw2 ?kw3 ?kw4 ?gMt ?q1 ?q2 ?q3 ?q4 ?nf0 ?nf1 ?nf2 ?nf3 ?nf4 ?nf5 ?nf6 ?nf7 ?nf8 ?n_isinstance ?n_int ?n_bool ?n_str ?n_tuple ?n_len ?n_abs ?n_max ?n_min ?n_list ?n_range ?n_zip ?n_any ?n_all ?n_super ?gG ?gNe ?gMo ?gGa ?eA ?eN ?xA ?kA ?bA ?tA ?xN ?sa ?nv ?iC ?tI ?kN ?bN ?sB ?sD ?sO ?tN ?op ?al ?htop ?lI ?cI ?lc ?lz ?hvs ?hfile ?u1 ?u2 ?u3 ?u4 ?v1 ?v2 ?v3 ?v4 ?v5 ?aa
    (case gMt => first | k_is | kernel_rfl)
    (case eA => first | k_is | kernel_rfl)
    (case eN => first | k_is | kernel_rfl)
    (case maM0 => first | k_is | kernel_rfl)
    (case maM1 => first | k_is | kernel_rfl)
    (case maM2 => first | k_is | kernel_rfl)
    (case maM3 => first | k_is | kernel_rfl)
    (case maM4 => first | k_is | kernel_rfl)
    (case maM5 => first | k_is | kernel_rfl)
    (case maM6 => first | k_is | kernel_rfl)
    (case maM7 => first | k_is | kernel_rfl)
    (case paP0 => first | k_is | kernel_rfl)
    (case paP1 => first | k_is | kernel_rfl)
    (case maI => first | k_is | kernel_rfl)
    (case iC => first | k_is | kernel_rfl)
    (case prP0 => first | k_is | kernel_rfl)
    (case prP1 => first | k_is | kernel_rfl)
    (case a0 => first | k_is | kernel_rfl)
    (case l0 => first | k_is | kernel_rfl)
    (case c0 => first | k_is | kernel_rfl)
    (case k0 => first | k_is | kernel_rfl)
    (case a1 => first | k_is | kernel_rfl)
    (case l1 => first | k_is | kernel_rfl)
    (case c1 => first | k_is | kernel_rfl)
    (case k1 => first | k_is | kernel_rfl)
    (case a2 => first | k_is | kernel_rfl)
    (case l2 => first | k_is | kernel_rfl)
    (case c2 => first | k_is | kernel_rfl)
    (case k2 => first | k_is | kernel_rfl)
    (case a3 => first | k_is | kernel_rfl)
    (case l3 => first | k_is | kernel_rfl)
    (case c3 => first | k_is | kernel_rfl)
    (case k3 => first | k_is | kernel_rfl)
    (case a4 => first | k_is | kernel_rfl)
    (case l4 => first | k_is | kernel_rfl)
    (case c4 => first | k_is | kernel_rfl)
    (case k4 => first | k_is | kernel_rfl)
    (case a5 => first | k_is | kernel_rfl)
    (case l5 => first | k_is | kernel_rfl)
    (case c5 => first | k_is | kernel_rfl)
    (case k5 => first | k_is | kernel_rfl)
    (case a6 => first | k_is | kernel_rfl)
    (case l6 => first | k_is | kernel_rfl)
    (case c6 => first | k_is | kernel_rfl)
    (case k6 => first | k_is | kernel_rfl)
    (case a7 => first | k_is | kernel_rfl)
    (case l7 => first | k_is | kernel_rfl)
    (case c7 => first | k_is | kernel_rfl)
    (case k7 => first | k_is | kernel_rfl)
    (case a8 => first | k_is | kernel_rfl)
    (case l8 => first | k_is | kernel_rfl)
    (case c8 => first | k_is | kernel_rfl)
    (case k8 => first | k_is | kernel_rfl)
    (case a9 => first | k_is | kernel_rfl)
    (case l9 => first | k_is | kernel_rfl)
    (case c9 => first | k_is | kernel_rfl)
    (case k9 => first | k_is | kernel_rfl)
    (case a10 => first | k_is | kernel_rfl)
    (case l10 => first | k_is | kernel_rfl)
    (case c10 => first | k_is | kernel_rfl)
    (case k10 => first | k_is | kernel_rfl)
    (case a11 => first | k_is | kernel_rfl)
    (case l11 => first | k_is | kernel_rfl)
    (case c11 => first | k_is | kernel_rfl)
    (case k11 => first | k_is | kernel_rfl)
    (case a12 => first | k_is | kernel_rfl)
    (case l12 => first | k_is | kernel_rfl)
    (case c12 => first | k_is | kernel_rfl)
    (case k12 => first | k_is | kernel_rfl)
    (case a13 => first | k_is | kernel_rfl)
    (case l13 => first | k_is | kernel_rfl)
    (case c13 => first | k_is | kernel_rfl)
    (case k13 => first | k_is | kernel_rfl)
    (case a14 => first | k_is | kernel_rfl)
    (case l14 => first | k_is | kernel_rfl)
    (case c14 => first | k_is | kernel_rfl)
    (case k14 => first | k_is | kernel_rfl)
    (case a15 => first | k_is | kernel_rfl)
    (case l15 => first | k_is | kernel_rfl)
    (case c15 => first | k_is | kernel_rfl)
    (case k15 => first | k_is | kernel_rfl)
    (case a16 => first | k_is | kernel_rfl)
    (case l16 => first | k_is | kernel_rfl)
    (case c16 => first | k_is | kernel_rfl)
    (case k16 => first | k_is | kernel_rfl)
    (case a17 => first | k_is | kernel_rfl)
    (case l17 => first | k_is | kernel_rfl)
    (case c17 => first | k_is | kernel_rfl)
    (case k17 => first | k_is | kernel_rfl)
    (case a18 => first | k_is | kernel_rfl)
    (case l18 => first | k_is | kernel_rfl)
    (case c18 => first | k_is | kernel_rfl)
    (case k18 => first | k_is | kernel_rfl)
    (case a19 => first | k_is | kernel_rfl)
    (case l19 => first | k_is | kernel_rfl)
    (case c19 => first | k_is | kernel_rfl)
    (case k19 => first | k_is | kernel_rfl)
    (case a20 => first | k_is | kernel_rfl)
    (case l20 => first | k_is | kernel_rfl)
    (case c20 => first | k_is | kernel_rfl)
    (case k20 => first | k_is | kernel_rfl)
    (case a21 => first | k_is | kernel_rfl)
    (case l21 => first | k_is | kernel_rfl)
    (case c21 => first | k_is | kernel_rfl)
    (case k21 => first | k_is | kernel_rfl)
    (case a22 => first | k_is | kernel_rfl)
    (case l22 => first | k_is | kernel_rfl)
    (case c22 => first | k_is | kernel_rfl)
    (case k22 => first | k_is | kernel_rfl)
    (case a23 => first | k_is | kernel_rfl)
    (case l23 => first | k_is | kernel_rfl)
    (case c23 => first | k_is | kernel_rfl)
    (case k23 => first | k_is | kernel_rfl)
    (case a24 => first | k_is | kernel_rfl)
    (case l24 => first | k_is | kernel_rfl)
    (case c24 => first | k_is | kernel_rfl)
    (case k24 => first | k_is | kernel_rfl)
    (case a25 => first | k_is | kernel_rfl)
    (case l25 => first | k_is | kernel_rfl)
    (case c25 => first | k_is | kernel_rfl)
    (case k25 => first | k_is | kernel_rfl)
    (case a26 => first | k_is | kernel_rfl)
    (case l26 => first | k_is | kernel_rfl)
    (case c26 => first | k_is | kernel_rfl)
    (case k26 => first | k_is | kernel_rfl)
    (case a27 => first | k_is | kernel_rfl)
    (case l27 => first | k_is | kernel_rfl)
    (case c27 => first | k_is | kernel_rfl)
    (case k27 => first | k_is | kernel_rfl)
    (case a28 => first | k_is | kernel_rfl)
    (case l28 => first | k_is | kernel_rfl)
    (case c28 => first | k_is | kernel_rfl)
    (case k28 => first | k_is | kernel_rfl)
    (case a29 => first | k_is | kernel_rfl)
    (case l29 => first | k_is | kernel_rfl)
    (case c29 => first | k_is | kernel_rfl)
    (case k29 => first | k_is | kernel_rfl)
    (case a30 => first | k_is | kernel_rfl)
    (case l30 => first | k_is | kernel_rfl)
    (case c30 => first | k_is | kernel_rfl)
    (case k30 => first | k_is | kernel_rfl)
    (case a31 => first | k_is | kernel_rfl)
    (case l31 => first | k_is | kernel_rfl)
    (case c31 => first | k_is | kernel_rfl)
    (case k31 => first | k_is | kernel_rfl)
    (case a32 => first | k_is | kernel_rfl)
    (case l32 => first | k_is | kernel_rfl)
    (case c32 => first | k_is | kernel_rfl)
    (case k32 => first | k_is | kernel_rfl)
    (case a33 => first | k_is | kernel_rfl)
    (case l33 => first | k_is | kernel_rfl)
    (case c33 => first | k_is | kernel_rfl)
    (case k33 => first | k_is | kernel_rfl)
    (case a34 => first | k_is | kernel_rfl)
    (case l34 => first | k_is | kernel_rfl)
    (case c34 => first | k_is | kernel_rfl)
    (case k34 => first | k_is | kernel_rfl)
    (case a35 => first | k_is | kernel_rfl)
    (case l35 => first | k_is | kernel_rfl)
    (case c35 => first | k_is | kernel_rfl)
    (case k35 => first | k_is | kernel_rfl)
    (case a36 => first | k_is | kernel_rfl)
    (case l36 => first | k_is | kernel_rfl)
    (case c36 => first | k_is | kernel_rfl)
    (case k36 => first | k_is | kernel_rfl)
    (case a37 => first | k_is | kernel_rfl)
    (case l37 => first | k_is | kernel_rfl)
    (case c37 => first | k_is | kernel_rfl)
    (case k37 => first | k_is | kernel_rfl)
    (case mlM0 => first | k_is | kernel_rfl)
    (case mcM0 => first | k_is | kernel_rfl)
    (case mkM0 => first | k_is | kernel_rfl)
    (case mfM0 => first | k_is | kernel_rfl)
    (case mlM1 => first | k_is | kernel_rfl)
    (case mcM1 => first | k_is | kernel_rfl)
    (case mkM1 => first | k_is | kernel_rfl)
    (case mfM1 => first | k_is | kernel_rfl)
    (case mlM2 => first | k_is | kernel_rfl)
    (case mcM2 => first | k_is | kernel_rfl)
    (case mkM2 => first | k_is | kernel_rfl)
    (case mfM2 => first | k_is | kernel_rfl)
    (case mlM3 => first | k_is | kernel_rfl)
    (case mcM3 => first | k_is | kernel_rfl)
    (case mkM3 => first | k_is | kernel_rfl)
    (case mfM3 => first | k_is | kernel_rfl)
    (case mlM4 => first | k_is | kernel_rfl)
    (case mcM4 => first | k_is | kernel_rfl)
    (case mkM4 => first | k_is | kernel_rfl)
    (case mfM4 => first | k_is | kernel_rfl)
    (case mlM5 => first | k_is | kernel_rfl)
    (case mcM5 => first | k_is | kernel_rfl)
    (case mkM5 => first | k_is | kernel_rfl)
    (case mfM5 => first | k_is | kernel_rfl)
    (case mlM6 => first | k_is | kernel_rfl)
    (case mcM6 => first | k_is | kernel_rfl)
    (case mkM6 => first | k_is | kernel_rfl)
    (case mfM6 => first | k_is | kernel_rfl)
    (case mlM7 => first | k_is | kernel_rfl)
    (case mcM7 => first | k_is | kernel_rfl)
    (case mkM7 => first | k_is | kernel_rfl)
    (case mfM7 => first | k_is | kernel_rfl)
    (case mlP0 => first | k_is | kernel_rfl)
    (case mcP0 => first | k_is | kernel_rfl)
    (case mkP0 => first | k_is | kernel_rfl)
    (case pgP0 => first | k_is | kernel_rfl)
    (case ptP0 => first | k_is | kernel_rfl)
    (case mlP1 => first | k_is | kernel_rfl)
    (case mcP1 => first | k_is | kernel_rfl)
    (case mkP1 => first | k_is | kernel_rfl)
    (case pgP1 => first | k_is | kernel_rfl)
    (case ptP1 => first | k_is | kernel_rfl)
    (case mlI => first | k_is | kernel_rfl)
    (case mcI => first | k_is | kernel_rfl)
    (case mkI => first | k_is | kernel_rfl)
    (case mfI => first | k_is | kernel_rfl)
    (case mks => first | k_is | kernel_rfl)
    (case kpC => first | k_is | kernel_rfl)
    (case kw1 => first | k_is | kernel_rfl)
    (case kw2 => first | k_is | kernel_rfl)
    (case kw3 => first | k_is | kernel_rfl)
    (case kw4 => first | k_is | kernel_rfl)
    (case q1 => first | k_is | kernel_rfl)
    (case q2 => first | k_is | kernel_rfl)
    (case q3 => first | k_is | kernel_rfl)
    (case q4 => first | k_is | kernel_rfl)
    (case nf0 => first | k_is | kernel_rfl)
    (case nf1 => first | k_is | kernel_rfl)
    (case nf2 => first | k_is | kernel_rfl)
    (case nf3 => first | k_is | kernel_rfl)
    (case nf4 => first | k_is | kernel_rfl)
    (case nf5 => first | k_is | kernel_rfl)
    (case nf6 => first | k_is | kernel_rfl)
    (case nf7 => first | k_is | kernel_rfl)
    (case nf8 => first | k_is | kernel_rfl)
    (case n_isinstance => first | k_is | kernel_rfl)
    (case n_int => first | k_is | kernel_rfl)
    (case n_bool => first | k_is | kernel_rfl)
    (case n_str => first | k_is | kernel_rfl)
    (case n_tuple => first | k_is | kernel_rfl)
    (case n_len => first | k_is | kernel_rfl)
    (case n_abs => first | k_is | kernel_rfl)
    (case n_max => first | k_is | kernel_rfl)
    (case n_min => first | k_is | kernel_rfl)
    (case n_list => first | k_is | kernel_rfl)
    (case n_range => first | k_is | kernel_rfl)
    (case n_zip => first | k_is | kernel_rfl)
    (case n_any => first | k_is | kernel_rfl)
    (case n_all => first | k_is | kernel_rfl)
    (case n_super => first | k_is | kernel_rfl)
    (case gG => first | k_is | kernel_rfl)
    (case gNe => first | k_is | kernel_rfl)
    (case gMo => first | k_is | kernel_rfl)
    (case gGa => first | k_is | kernel_rfl)
    (case xA => k_exc)
    (case kA => first | k_is | kernel_rfl)
    (case bA => first | k_is | kernel_rfl)
    (case tA => first | k_is | kernel_rfl)
    (case xN => first | k_is | kernel_rfl)
    (case sa => first | k_is | kernel_rfl)
    (case nv => first | k_is | kernel_rfl)
    (case tI => first | k_is | kernel_rfl)
    (case kN => first | k_is | kernel_rfl)
    (case bN => first | k_is | kernel_rfl)
    (case sB => first | k_is | kernel_rfl)
    (case sD => first | k_is | kernel_rfl)
    (case sO => first | k_is | kernel_rfl)
    (case tN => first | k_is | kernel_rfl)
    (case op => first | k_is | kernel_rfl)
    (case al => first | k_is | kernel_rfl)
    (case htop => decide +kernel)
    (case lI => first | k_is | kernel_rfl)
    (case cI => first | k_is | kernel_rfl)
    (case lc => first | k_is | kernel_rfl)
    (case lz => first | k_is | kernel_rfl)
    (case hvs => rfl)
    (case hfile => decide +kernel)
    (case u1 => first | k_is | kernel_rfl)
    (case u2 => first | k_is | kernel_rfl)
    (case u3 => first | k_is | kernel_rfl)
    (case u4 => first | k_is | kernel_rfl)
    (case v1 => first | k_is | kernel_rfl)
    (case v2 => first | k_is | kernel_rfl)
    (case v3 => first | k_is | kernel_rfl)
    (case v4 => first | k_is | kernel_rfl)
    (case v5 => first | k_is | kernel_rfl)
    (case aa => first | k_is | kernel_rfl)
#print axioms PySem.Challenge.cw_loopfoundry_k11_papers_of_meetings_judge_holds
