import PyProof.Rows.All
import Wide.All
import OpenK.AllK
import Wide.FinOn
import HandS.ForExc
import KE.KExcSuper
import HandS.ForMost
import HandS.ExcField
import HandS.ExcIs
import HandS.IsInst
import HandS.Style
import HandS.Wide
import HandS.Evl
import PySem.Challenge.RW_loopfoundry_k09_cells_of_places
set_option Elab.async false
set_option linter.all false
set_option maxRecDepth 100000
set_option maxHeartbeats 4000000
/-! try: body / except A as n: .. / except B as n: .. : several clauses with names -/
namespace L2
open PySem PySem.Spec PyProof.Rows
/-- the ends of a suite whose name stands in slot i -/
def sufEnds (i : Nat) (D : Ends) : Ends := { nx := fun σ' H' => D.nx (σ'.set i none) H', rt := D.rt, bk := fun σ' H' => D.bk (σ'.set i none) H', ct := fun σ' H' => D.ct (σ'.set i none) H' }
/-- what the clauses wish of an exception of the body, one behind the other: its class, the name's slot, the suite -/
def wAsM (K : PySem.W.Frag) (Wout : WX) (D : Ends) : List (Value × Nat × (Addr → Value → Option Addr → TS)) → WX
  | [] => Wout
  | (c, i, ts) :: r => fun cls d σ H => ∃ b, PySem.W.exmOne K cls c = some b ∧ (b = true → ∀ a, H a = none → ts a cls d (sufEnds i D) (σ.set i (some (.ref a))) H) ∧ (b = false → wAsM K Wout D r cls d σ H)
inductive HdA (X : Cx) : List ExceptHandler → List (Value × Nat × (Addr → Value → Option Addr → TS)) → Prop
  | nil : HdA X [] []
  | cons {x n : Str} {c : Value} {i : Nat} {ts : Addr → Value → Option Addr → TS} {b₀ : Stmt} {suite : List Stmt} {np pos' : Pos} {hds : List ExceptHandler} {l : List (Value × Nat × (Addr → Value → Option Addr → TS))}
      (hi : X.N[i]? = some n) (hln : X.env.kindOf n = some .local) (hc : Names X x c)
      (hsu : ∀ (a : Addr) (oe : Obj) (cls : Value) (d : Option Addr) (pn : List (Addr × Obj)), Zc cls d oe → (∃ vs, oe.data = .fields vs) → PSs (X.suite a ((a, oe) :: pn)) (b₀ :: suite) (ts a cls d)) (r : HdA X hds l) :
      HdA X (.ExceptHandler (some (.Name x np)) (some n) (b₀ :: suite) pos' :: hds) ((c, i, ts) :: l)
section
variable {X : Cx} {body : List Stmt} {h₀ : ExceptHandler} {hds : List ExceptHandler} {l : List (Value × Nat × (Addr → Value → Option Addr → TS))} {pos : Pos} {tb : WX → TS} {Wout : WX}
theorem ps_try_asM (hs : X.stack = X.env :: X.outer) (hf : X.env.frame = some X.env.locals) (hN : X.N.Nodup) (tk : Takes X Wout)
    (hb : ∀ (W : WX) (pn : List (Addr × Obj)) (xe : Value → Shared → Prop), Takes (X.tr pn xe) W → PassesOwn (model X.prog X.w) X.A X.env xe → PSs (X.tr pn xe) body (tb W))
    (hh : HdA X (h₀ :: hds) l) : PS X (.Try body (h₀ :: hds) [] [] pos) (fun D σ H => tb (wAsM X.K Wout D l) D σ H) := by
  refine ⟨fun pins s σ H D I h => ?_⟩
  have ok := I.ok
  have hfr : X.A.frames = some (X.env :: X.outer) := by rw [ok.frames, hs]
  refine wpAny_Try_except ?_
  refine wpAny_mono ((hb (wAsM X.K Wout D l) (X.pn ++ pins) (fun e s₁ => wpAny (model X.prog X.w) X.A (noteFrame e X.env) (fun _ s₂ => wpAny (model X.prog X.w) X.A (setFlight e none) (fun _ s₃ =>
    wpAny (model X.prog X.w) X.A (handleBy e X.env (h₀ :: hds)) (SP X pins D) X.xe s₃) X.xe s₂) X.xe s₁) (fun u s' xx => ?_) PassesOwn.looking).run [] s σ H D (I.toTry _) h) (fun f s1 hsp => ?_) (fun e s1 he => he)
  · obtain ⟨a, B, sI, pins', σ', H', cls, d, rfl, J', nb, up, sky, na, os, ag, w⟩ := xx
    have J : Inv X pins σ' H' sI := J'.ofTry ok
    have sky' : Sky B (X.env :: X.outer) a (Zc cls d) X.env.locals s'.heap := by rw [← hs]; exact sky
    show wpAny (model X.prog X.w) X.A (noteFrame (.ref a) X.env) _ _ _
    refine Sky.land Zc.steady hfr hf sky' fun h3 fl3 up3 => ?_
    have J3 : Inv X pins σ' H' { s' with heap := h3 } := J.landed nb fl3.1 (up.trans up3) os ag
    obtain ⟨oe3, vs3, he3, hz3, hd3⟩ := fl3.there
    have nfr : a ∉ frs (X.env :: X.outer) := fun hm => by
      obtain ⟨_, o', e', hnf⟩ := fl3.2.2.1.mem hm
      rw [he3] at e'; cases e'
      exact hnf _ hd3
    have nL : a ≠ X.env.locals := fun z => nfr (List.mem_filterMap.mpr ⟨X.env, List.mem_cons_self, by rw [hf, z]⟩)
    have nF : a ∉ X.fs := fun hm => by
      obtain ⟨e, he, q⟩ := List.mem_filterMap.mp hm
      exact nfr (List.mem_filterMap.mpr ⟨e, List.mem_cons_of_mem _ he, q⟩)
    have S3 := J3.suite he3 hd3 na nL nF
    have go : ∀ {hds' : List ExceptHandler} {l' : List (Value × Nat × (Addr → Value → Option Addr → TS))}, HdA X hds' l' → wAsM X.K Wout D l' cls d σ' H' →
        wpAny (model X.prog X.w) X.A (handleBy (.ref a) X.env hds') (SP X pins D) X.xe { s' with heap := h3 } := by
      intro hds' l' hk
      induction hk with
      | nil =>
        intro w
        refine wpAny_handleBy_nil ?_
        obtain ⟨k1, k2, k3, oe, vs, T, oT, ts', he, hz, hd, h1, hr⟩ := id fl3
        unfold PySem.passOn
        refine wpAny_bind (wpAny_field he hd h1 ?_)
        rw [if_neg (show ¬ ((Value.ref T == Value.none) = true) from by simp)]
        have fin : wpAny (model X.prog X.w) X.A (setFlight (.ref a) X.env.frame) (fun _ s4 => wpAny (model X.prog X.w) X.A (throw (.ref a) : Sem Flow) (SP X pins D) X.xe s4) X.xe { s' with heap := h3 } := by
          rw [hf]
          refine HandSPX.setFlight_upZ fl3 fun h4 hh4 up4 => wpAny_throw (tk _ _ ?_)
          exact ⟨a, B, sI, pins, σ', H', cls, d, rfl, J, nb, (up.trans up3).trans up4, .inr (.inr (by rw [hs]; exact hh4)), na, os, ag, w⟩
        first
          | exact wpAny_bind (wpAny_pure (wpAny_bind fin))
          | exact wpAny_bind fin
      | @cons x n c i ts b₀ suite np pos' hds2 l2 hi hln hc hsu r ih =>
        intro w
        obtain ⟨b, hb1, hyes, hno⟩ := w
        have hloc : Loc X.env.scope n := .inl hln
        refine wpAny_handleBy_cons (codeAny_handlers_test ?_) (by intro q; cases q)
        have LT : PySem.W.Looks (model X.prog X.w) h3 (typeOf (.ref a)) cls := fun A Q E s k q => wpAny_typeOf_ref (k _ _ he3) (by rw [hz3.1]; exact q)
        have LM := PySem.W.exm_one (M := model X.prog X.w) (J3.kIn) LT hb1
        have test : ∀ {Q : Value → Shared → Prop} {E : Value → Shared → Prop}, Q c { s' with heap := h3 } → wpAny (model X.prog X.w) (X.A.mark (some (.ref a))) (eval (.Name x np) X.env) Q E { s' with heap := h3 } := fun {Q E} q => by
          obtain ⟨hg, hdbg, hm | ⟨hm, hv, hnn⟩⟩ := hc
          · exact ld_glob (X := X.suite a ((a, oe3) :: (X.pn ++ pins))) S3 hg hm q hdbg
          · exact ld_blt (X := X.suite a ((a, oe3) :: (X.pn ++ pins))) S3 hg hm hv q hnn hdbg
        refine test (LM.here ?_)
        cases b with
        | true =>
          refine codeAny_handlers_suite_as ?_
          refine HandSPX.lands_againZ fl3 fun h4 fl4 up4 => ?_
          have J4 : Inv X pins σ' H' { s' with heap := h4 } := J.landed nb fl4.1 ((up.trans up3).trans up4) os ag
          obtain ⟨oe4, vs4, he4, hz4, hd4⟩ := fl4.there
          have S4 := J4.suite he4 hd4 na nL nF
          refine store_ok (X := X.suite a ((a, oe4) :: (X.pn ++ pins))) (v := .ref a) S4 hN hi hloc rfl (fun s5 S5 => ?_) (.inr hln)
          refine wpAny_mono ((hsu a oe4 cls d (X.pn ++ pins) hz4 ⟨_, hd4⟩).run [] s5 _ H' _ S5 (hyes rfl a na)) (fun f s6 hsp => ?_) (fun _ _ z => False.elim z)
          have end_ : ∀ {σ6 : St} {H6 : Hp} {Q : Shared → Prop}, Inv (X.suite a ((a, oe4) :: (X.pn ++ pins))) [] σ6 H6 s6 → (∀ s7, Inv X pins (σ6.set i none) H6 s7 → Q s7) →
              wpAny (model X.prog X.w) X.A (do bindName X.env n .none; unbindBehindTheSuite X.env n pos') (fun _ s7 => Q s7) X.xe s6 := fun {σ6 H6 Q} S6 hq => gone_ok (S6.unsuite ok) hN hi hln hq
          cases f with
          | next =>
            obtain ⟨σ6, H6, S6, q6⟩ := hsp
            exact end_ S6 fun s7 J7 => ⟨_, _, J7, q6⟩
          | brk =>
            obtain ⟨σ6, H6, S6, q6⟩ := hsp
            exact end_ S6 fun s7 J7 => ⟨_, _, J7, q6⟩
          | cont =>
            obtain ⟨σ6, H6, S6, q6⟩ := hsp
            exact end_ S6 fun s7 J7 => ⟨_, _, J7, q6⟩
          | ret u =>
            obtain ⟨v6, σ6, H6, S6, r6, q6⟩ := hsp
            exact end_ S6 fun s7 J7 => ⟨_, _, _, J7, r6, q6⟩
        | false =>
          show wpAny _ X.A (handleBy (.ref a) X.env hds2) _ _ _
          exact ih (hno rfl)
    exact go hh w
  · cases f with
    | next =>
      obtain ⟨σ', H', J', q⟩ := hsp
      exact wpAny_execs_nil ⟨σ', H', J'.ofTry ok, q⟩
    | brk =>
      obtain ⟨σ', H', J', q⟩ := hsp
      exact ⟨σ', H', J'.ofTry ok, q⟩
    | cont =>
      obtain ⟨σ', H', J', q⟩ := hsp
      exact ⟨σ', H', J'.ofTry ok, q⟩
    | ret u =>
      obtain ⟨v, σ', H', J', r, q⟩ := hsp
      exact ⟨v, σ', H', J'.ofTry ok, r, q⟩
end
end L2
set_option maxHeartbeats 4000000
/-! An own error over a built-in one: __init__(self, f): super().__init__('..'); self.f = f -/
namespace PySem
namespace LfX
open PySem.W PySem.Calls PyProof.Rows PySem.HandSPX
def xA (f : Str) (p1 p2 : Pos) : Arguments := { posonlyargs := [], args := [{ arg := "self", annotation := none, pos := p1 }, { arg := f, annotation := none, pos := p2 }], vararg := none, kwonlyargs := [], kw_defaults := [], kwarg := none, defaults := [] }
def xB (f m : Str) (j : Nat) (q1 q2 q3 q4 q5 q6 q7 q8 q9 q10 : Pos) : List Stmt :=
  [.Expr (.Call (.Attribute (.Call (.Name "super" q1) [] [] q2) "__init__" q3) [.Constant (.str m) j q4] [] q5) q6, .Assign [.Attribute (.Name "self" q7) f q8] (.Name f q9) q10]
def xS (f : Str) : Scope := { kind := .function, names := [(PySem.Str.ofString "self", .local), (f, .local), (PySem.Str.ofString "__class__", .free), (PySem.Str.ofString "super", .globalImplicit)], isGenerator := false, isCoroutine := false, more := [] }
/-- the name of the field stands apart from the three others -/
structure FldOk (f : Str) : Prop where
  e1 : (f == PySem.Str.ofString "self") = false
  e2 : (PySem.Str.ofString "__class__" == f) = false
  e3 : (PySem.Str.ofString "super" == f) = false
  e4 : (f == ("__debug__" : Str)) = false
  bd : ∀ (qn : Str) (p1 p2 : Pos) (b : List Stmt) (doc pm : Value) (an : Option Addr) (cdv ct : Value) (cc : Addr) (s : Shared) (x v : Value),
    BindsTo s (ksFn "__init__" qn (xA f p1 p2) b (xS f) .none .none doc pm an cdv ct cc) ⟨[x, v], []⟩ [("self", x), (f, v)]
/-- what the written part says of such a class, at C, and of its __init__, at fI -/
structure XTxt (prog : Program) (K : Frag) (mg : Str → Option Value) (x f : Str) (B i newId : String) (bmB : List Value) (C fI : Addr) : Prop where
  fo : FldOk f
  gC : mg x = some (.ref C)
  cls : ∃ nm q N bs bm sn sub ab col dd k0 k1 k2 k3 k5, K.lookup C = some (excClassObj nm q C N bs bm true sn sub ab col dd k0 k1 k2 k3 k5 newId) ∧ (∀ X : String, bm.contains (.type X) = bmB.contains (.type X)) ∧
    (∀ self : Value, refuseLoop self "__setattr__" bm = pure ()) ∧ alongIn K "__init__" bm = some (some (.builtin i))
  sa : findIn K (.ref C) "__setattr__" = some (some (.builtin "object.__setattr__"))
  noF : findIn K (.ref C) f = some none
  iC : findIn K (.ref C) "__init__" = some (some (.ref fI))
  tC : typeIn K (.ref fI) = some (.type "function")
  kC : keepIn K (.ref C) = true
  exC : subIn K (.ref C) (.type "BaseException") = some true
  sB : subIn K (.ref C) (.type B) = some true
  sD : mroIn K C (.ref C) = some true
  sO : mroIn K C (.type "object") = some true
  tyC : typeIn K (.ref C) = some (.type "type")
  op : nsIn K cStatics "thirdparty.any" = some none
  sup : mg "super" = none
  top : (prog.main.scope.names.lookup ("super" : Str)).isSome = false
  fn : ∃ (oc : Value) (od : Option Addr) (doc pm : Value) (an : Option Addr) (cda : Addr) (ct : Value) (cc : Addr) (osl : Array (Option Value)) (qn m : Str) (j : Nat) (p1 p2 q1 q2 q3 q4 q5 q6 q7 q8 q9 q10 : Pos)
      (ccl : Value) (cdd : Option Addr) (vs : Array Value) (ccs : Array (Option Value)) (file : Str) (tf : Tok) (cl : Value) (cld : Option Addr) (csl : Array (Option Value)),
    K.lookup fI = some ⟨oc, od, .func (ksFn "__init__" qn (xA f p1 p2) (xB f m j q1 q2 q3 q4 q5 q6 q7 q8 q9 q10) (xS f) .none .none doc pm an (.ref cda) ct cc), osl⟩ ∧ codeIn K (.ref cda) qn = true ∧
    K.lookup cda = some ⟨ccl, cdd, .fields vs, ccs⟩ ∧ vs[2]? = some (.str file tf) ∧ ((prog.main.file : Str) == file) = true ∧ K.lookup cc = some ⟨cl, cld, .cell (some (.ref C)), csl⟩ ∧ (q3.endLine == q5.line) = true
section
variable {f : Str}
theorem xS_self : (xS f).names.lookup ("self" : Str) = some .local := by simp [xS, List.lookup]
theorem xS_f (o : FldOk f) : (xS f).names.lookup f = some .local := by simp [xS, List.lookup, o.e1]
theorem xS_class (o : FldOk f) : (xS f).names.lookup ("__class__" : Str) = some .free := by
  have h1 : ((PySem.Str.ofString "__class__") == (PySem.Str.ofString "self")) = false := by decide +kernel
  simp [xS, List.lookup, o.e2, h1]
theorem xS_super (o : FldOk f) : (xS f).names.lookup ("super" : Str) = some .globalImplicit := by
  have h1 : ((PySem.Str.ofString "super") == (PySem.Str.ofString "self")) = false := by decide +kernel
  have h2 : ((PySem.Str.ofString "super") == (PySem.Str.ofString "__class__")) = false := by decide +kernel
  simp [xS, List.lookup, o.e3, h1, h2]
end
theorem own_drop (C : Addr) (l : List Value) : ((Value.ref C :: l).dropWhile (· != .ref C)).drop 1 = l := by simp [List.dropWhile_cons]
/-- what __init__ leaves of a fresh exception at x -/
structure InitEnd (f : Str) (h h' : Heap) (x C dx : Addr) (v : Value) : Prop where
  keep : ∀ b o, b ≠ x → h.get? b = some o → h'.get? b = some o
  obj : ∃ t1, h'.get? x = some { cls := .ref C, dict := some dx, data := .fields #[.ref t1, .none, .none, .none, .bool false, .none] }
  dbig : h.objs.size ≤ dx
  dne : dx ≠ x
  ns : h'.Ns1 dx (fun y => if y = f then some v else none)
/-- a made one -/
structure XMade (f : Str) (h h' : Heap) (e C d : Addr) (v : Value) : Prop where
  keep : ∀ b o, h.get? b = some o → h'.get? b = some o
  new : h.objs.size ≤ e
  obj : ∃ oe vs, h'.get? e = some oe ∧ oe.cls = .ref C ∧ oe.dict = some d ∧ oe.data = .fields vs ∧ vs[1]? = some .none
  dbig : h.objs.size ≤ d
  dne : d ≠ e
  ns : h'.Ns1 d (fun y => if y = f then some v else none)
section
open Builtin Builtin.ObjectAttr
variable {prog : Program} {w : World} {A : Around} {E : Value → Shared → Prop} {R : Result → Shared → Prop} {hp : Heap} {g : Array GenState} {d : Drawn} {t : Nat} {os : OsState}
/-- self.name = v on an exception without a dict, by what its classes let -/
theorem osa_first {K : Frag} {name : Str} {tk : Tok} {v : Value} {x C : Addr} {fv : Array Value} {cd : ClassData}
    (X : K.In hp) (hx : hp.get? x = some { cls := .ref C, data := .fields fv }) (hcd : clsIn K C = some cd) (hob : mroIn K C (.type "object") = some true) (hpass : refuseLoop (.ref x) "__setattr__" cd.mro = pure ()) (hh : cd.hasDict = true) (ha : findIn K (.ref C) name = some none)
    (hq : ∀ h' tk' dx, (∀ b o, b ≠ x → hp.get? b = some o → h'.get? b = some o) → hp.objs.size ≤ dx → dx ≠ x → h'.get? x = some { cls := .ref C, dict := some dx, data := .fields fv } →
      h'.Ns1 dx (fun y => if y = name then some v else none) → R (.ok (.ret .none)) ⟨h', g, d, tk', os⟩) :
    codeAny (model prog w) A (.call (.builtin "object.__setattr__") ⟨[.ref x, .str name tk, v], []⟩) R ⟨hp, g, d, t, os⟩ := by
  have I : InstAt hp x { cls := .ref C, data := .fields fv } C none := ⟨hx, rfl, rfl, trivial⟩
  have hxs : x ≠ hp.objs.size := Nat.ne_of_lt (Heap.lt_size hx)
  have SF := F.store_object
  have sub : Looks (model prog w) hp (isInstance (.ref x) (.type "object")) true := I.type.andThen (looks_mroIn X hob)
  refine codeAny_call_builtin SF.slot.plain SF.entry (@check_slot (model prog w) _ _ ⟨hp, g, d, t, os⟩ "object.__setattr__" "object" "__setattr__" (.ref x) [.str name tk, v] [] _ SF.kind SF.split sub (SF.args (.ref x) (.str name tk) v) ?_)
  have hmr : Looks (model prog w) hp (mroOf (.ref C)) cd.mro := (looks_clsIn X hcd).andThen .now
  have L3 : Looks (model prog w) hp (storeTaker? none) none := .now
  have hcls : Looks (model prog w) hp (classData C) cd := looks_clsIn X hcd
  rw [osa_eq, refuse_eq]
  refine wpAny_bind (wpAny_bind (I.type.at (wpAny_bind (hmr.at ?_))))
  rw [hpass]
  refine wpAny_pure (wpAny_bind (I.type.at (wpAny_bind ((looks_findIn X ha).at (wpAny_bind (L3.at ?_))))))
  show wpAny _ _ (storeInOwnDict (.ref x) (.ref C) (.str name tk) name v false) _ _ _
  obtain ⟨nm, bs, mro, ns, qn, hd, sn, sb, ab, col, del⟩ := cd
  dsimp only at hh
  subst hh
  unfold storeInOwnDict ownDictForStores
  repeat (first | with_reducible refine HandSPX.store_in_new ?_ ?_ | with_reducible refine wpAny_loadPart_at hx ?_ | with_reducible refine hcls.at ?_ | wp_step)
  · exact ⟨_, #[], _, (Heap.get?_update_ne _ _ _ _ hxs.symm).trans (Heap.get?_push_at rfl rfl), rfl, fun e he => absurd he (by simp), fun _ => rfl⟩
  · intro h' tk' hn' hs
    have hx₁ : (hp.push { cls := .type "dict", data := .dict #[] }).get? x = some { cls := .ref C, data := .fields fv } := Heap.get?_push_of_some _ hx
    refine hq h' tk' hp.objs.size (fun b o hb ho => ?_) (Nat.le_refl _) hxs.symm ?_ hn'
    · exact (hs.2 b (Nat.ne_of_lt (Heap.lt_size ho))).trans ((Heap.get?_update_ne _ _ _ _ hb).trans (Heap.get?_push_of_some _ ho))
    · exact (hs.2 x hxs).trans (Heap.get?_update_self _ hx₁ rfl)
/-- the bound built-in __init__ called: the args are laid anew -/
theorem call_mw {nm q : Str} {C N : Addr} {bs bm bmB : List Value} {hdct : Bool} {sn : List Str} {sub : List Value} {ab : Bool} {col : Option Bool} {dd : Option Addr} {k0 k1 k2 k3 k5 : Option Value} {B newId i : String}
    {u e t0 : Addr} {rest : List Value} {Q : Value → Shared → Prop} (FB : ExcBaseFacts B newId i bmB)
    (hC : hp.get? C = some (excClassObj nm q C N bs bm hdct sn sub ab col dd k0 k1 k2 k3 k5 newId)) (he : hp.get? e = some (excO C t0)) (hu : hp.get? u = some (kxs_mw i e)) (hrest : rest.length ≤ sizeLine)
    (hq : ∀ h' t1, (∀ b o, b ≠ e → hp.get? b = some o → h'.get? b = some o) → h'.get? e = some (excO C t1) → Q .none ⟨h', g, d, t, os⟩) :
    wpAny (model prog w) A (call (.ref u) rest) Q E ⟨hp, g, d, t, os⟩ := by
  refine wpAny_call (codeAny_of_tree ?_)
  show wpAny _ A.in1 (callAny (.ref u) ⟨rest, []⟩) _ _ _
  simp only [callAny]
  refine wpAny_bind (wpAny_load hu ?_)
  simp only [kxs_mw, show (Value.type "method-wrapper" == Value.type "method" || Value.type "method-wrapper" == Value.type "builtin_function_or_method" || Value.type "method-wrapper" == Value.type "method-wrapper") = true by decide, if_true]
  refine KFB.if_so (by decide) ?_
  refine wpAny_bind (check_bound_init FB.toExcCallFacts hC he rfl ?_)
  refine wpAny_bind (wpAny_pure (wpAny_pure ?_))
  refine ⟨plainId_quiet FB.init.plain _, codeAny_builtin FB.initEntry ?_⟩
  exact exc_init_tree (cls := .ref C) (t0 := t0) (dv := none) (c2 := .none) (c3 := .none) (b4 := .bool false) he hrest fun h' k e' t' => hq h' _ k e'
end
section
variable {prog : Program} {w : World} {A : Around} {E : Value → Shared → Prop} {R : Result → Shared → Prop} {s : Shared} {K : Frag} {mg : Str → Option Value} {nx f : Str} {B i newId : String} {bmB : List Value} {C fI : Addr}
theorem x_init (T : XTxt prog K mg nx f B i newId bmB C fI) (FB : ExcBaseFacts B newId i bmB) (KF : KxsFacts B i) {x t0 : Addr} {v : Value} (X : K.In s.heap) (G : s.heap.Ns mainGlobals mg) (Bl : ∃ mb, s.heap.Ns builtinsNs mb ∧ ∀ x : Str, x ≠ "__name__" → mb x = bootBuiltins x)
    (hlim : s.heap.NoLimit) (hx : s.heap.get? x = some (excO C t0)) (hnx : K.lookup x = none) (hroom : A.depth < recursionLimit)
    (hq : ∀ h' tk dx, InitEnd f s.heap h' x C dx v → R (.ok (.ret .none)) { s with heap := h', toks := tk }) :
    codeAny (model prog w) A (.call (.ref fI) ⟨[.ref x, v], []⟩) R s := by
  obtain ⟨oc, od, doc, pm, an, cda, ct, cc, osl, qn, m, j, p1, p2, q1, q2, q3, q4, q5, q6, q7, q8, q9, q10, ccl, cdd, vs, ccs, file, tf, cl, cld, csl, ho, hcd, hcda, hvs, hfile, hcc, hln⟩ := T.fn
  obtain ⟨nm, q, N, bs, bm, sn, sub, ab, col, dd, k0, k1, k2, k3, k5, hC, hT, hpass, hal⟩ := T.cls
  obtain ⟨mb, hB, hBB⟩ := Bl
  have hcl : clsIn K C = some { name := nm, bases := bs, mro := .ref C :: bm, ns := N, qualname := q, hasDict := true, slotNames := sn, subclasses := sub, abstract := ab, collection := col, hasDel := false } := by unfold clsIn; rw [hC] <;> rfl
  refine ks_codeAny_call_defAt (fd := ksFn "__init__" qn (xA f p1 p2) (xB f m j q1 q2 q3 q4 q5 q6 q7 q8 q9 q10) (xS f) .none .none doc pm an (.ref cda) ct cc) (binds := [("self", .ref x), (f, v)]) hroom (X _ _ ho) rfl hlim (codeRec_of X hcd) rfl (T.fo.bd qn p1 p2 _ doc pm an _ ct cc s (.ref x) v) ?_ ?_ (fun h₁ hns k => ?_) rfl rfl rfl
  · intro y hy
    simp only [xS, List.mem_cons, List.not_mem_nil, or_false] at hy
    rcases hy with rfl | rfl | rfl | rfl <;> (intro z; cases z)
  · intro y hy
    simp only [List.mem_cons, List.not_mem_nil, or_false] at hy
    rcases hy with rfl | rfl
    · exact xS_self
    · exact xS_f T.fo
  · have X₁ : K.In h₁ := X.keeps k
    have hx₁ := k _ _ hx
    have hself : (fun y => List.lookup y ([(("self" : Str), Value.ref x), (f, v)].reverse)) ("self" : Str) = some (.ref x) := by
      have h1 : (("self" : Str) == f) = false := by rw [BEq.comm]; exact T.fo.e1
      simp [List.lookup, h1]
    have hval : (fun y => List.lookup y ([(("self" : Str), Value.ref x), (f, v)].reverse)) f = some v := by
      simp [List.lookup]
    have hCC : h₁.get? C = some _ := X₁ _ _ hC
    refine ks_wpAt_execs_cons (ks_wpAt_Expr_any (ks_wpAt_MethodCall (pl := do return (← importBound (.Call (.Name "super" q1) [] [] q2) (callEnv (ksFn "__init__" qn (xA f p1 p2) (xB f m j q1 q2 q3 q4 q5 q6 q7 q8 q9 q10) (xS f) .none .none doc pm an (.ref cda) ct cc) s.heap.objs.size fI)).getD true) ?_ ?_) rfl rfl)
    rotate_left
    · have e1 : ∀ (o : Expr) (env : Env), methodCallPos true o env q3 q5 = pure q5 := fun o env => by
        unfold methodCallPos
        rw [hln]
        rfl
      show (attributeBase _ _ _ _ >>= fun ov => standAt q3.atName >>= fun _ => (holding [ov] (calleeOf true _ _ ov _)) >>= fun x => methodCallPos true (.Call (.Name "super" q1) [] [] q2) (callEnv (ksFn "__init__" qn (xA f p1 p2) (xB f m j q1 q2 q3 q4 q5 q6 q7 q8 q9 q10) (xS f) .none .none doc pm an (.ref cda) ct cc) s.heap.objs.size fI) q3 q5 >>= fun cp => callWith cp x.1 x.2 _ _) = _
      rw [e1]
      rfl
    refine ks_wpAt_super_base (f := fI) (cc := cda) (file := file) (tf := tf) (xS_super T.fo) (xS_class T.fo) (by decide) rfl (X₁ _ _ ho) rfl rfl rfl (X₁ _ _ hcda) rfl hvs hfile T.top ?_
    refine ks_loadName_global rfl (xS_super T.fo) (loadGlobal_builtin (G.keeps k) T.sup (hB.keeps k) ((hBB _ (by decide +kernel)).trans (by first | boot_by_name | rfl | kernel_rfl)) ⟨rfl, ?_⟩)
    refine wpAny_loadName_free rfl (xS_class T.fo) rfl ⟨_, X₁ _ _ hcc, rfl⟩ ?_
    refine wpAny_loadName_local rfl xS_self hns hself ?_
    refine ks_wpAny_isType_cls hCC rfl ⟨rfl, ?_⟩
    refine ks_wpAny_call_super hCC rfl hx₁ rfl (fun c e => by cases e) (looks_mroIn X₁ T.sD) (fun h₂ hso k₂ => ?_)
    have X₂ : K.In h₂ := X₁.keeps k₂
    have hx₂ := k₂ _ _ hx₁
    have I₂ : InstAt h₂ x (excO C t0) C none := ⟨hx₂, rfl, rfl, trivial⟩
    have hxC : x ≠ C := fun z => by rw [z, hC] at hnx; cases hnx
    refine kxs_getMethod (l₀ := .ref C :: bm) KF hso (looks_opaque X₂ T.op) ((looks_clsIn X₂ hcl).andThen .now) rfl X₂ (by rw [own_drop]; exact hal) (I₂.type.andThen (looks_subIn X₂ T.sB)) hxC (by decide) ?_
    have k₃ : ∀ b o, h₂.get? b = some o → (h₂.push (kxs_mw i x)).get? b = some o := fun b o e => Heap.get?_push_of_some _ e
    refine kxs_callWith (i := i) (x := x) rfl ?_
    refine evalArgs_plain (Calls.spliced_cons ?_)
    refine Calls.Constant_str (x := m) (k := j) (pos := q4) (Calls.spliced_nil ?_)
    have hu : (h₂.push (kxs_mw i x)).get? h₂.objs.size = some (kxs_mw i x) := Heap.get?_push_at rfl rfl
    refine ⟨hu, ?_⟩
    show wpAny _ _ (call (.ref h₂.objs.size) [_]) _ _ _
    refine call_mw FB (k₃ _ _ (X₂ _ _ hC)) (k₃ _ _ hx₂) hu (by show 1 ≤ sizeLine; rw [sizeLine_eq]; decide) (fun h₄ t1 k₄ hx₄ => ?_)
    have kx : ∀ b o, b ≠ x → s.heap.get? b = some o → h₄.get? b = some o := fun b o hb e => k₄ b o hb (k₃ b o (k₂ b o (k b o e)))
    have X₄ : K.In h₄ := fun b o e => kx b o (fun z => by rw [z, hnx] at e; cases e) (X b o e)
    have hxL : x ≠ s.heap.objs.size := Nat.ne_of_lt (Heap.lt_size hx)
    have hns₄ : h₄.Ns s.heap.objs.size (fun y => List.lookup y ([(("self" : Str), Value.ref x), (f, v)].reverse)) := by
      obtain ⟨oL, es, ep, hL, r⟩ := hns
      exact ⟨oL, es, ep, k₄ _ _ hxL.symm (k₃ _ _ (k₂ _ _ hL)), r⟩
    refine ks_wpAt_execs_cons (_root_.PySem.wpAt_of_wpAny (plainObj_wpAny_Assign_Attribute ?_))
    refine wpAny_Name (wpAny_loadName_local rfl (xS_f T.fo) hns₄ hval ?_) T.fo.e4
    refine wpAny_Name (wpAny_loadName_local rfl xS_self hns₄ hself ?_) (by decide)
    refine set_plain X₄ (ox := excO C t1) (od := none) ⟨hx₄, rfl, rfl, trivial⟩ T.sa ?_
    refine osa_first X₄ hx₄ hcl T.sO (by rw [refuseLoop_ref]; exact hpass _) rfl T.noF (fun h₅ tk₅ dx k₅ dn dne hx₅ hn₅ => ?_)
    refine _root_.PySem.wpAt_of_wpAny (wpAny_execs_nil ?_)
    refine hq h₅ tk₅ dx ⟨fun b o hb e => k₅ b o hb (kx b o hb e), ⟨t1, hx₅⟩, ?_, dne, hn₅⟩
    exact Nat.le_trans (Nat.le_of_lt hns₄.lt) dn
theorem x_made (T : XTxt prog K mg nx f B i newId bmB C fI) (FB : ExcBaseFacts B newId i bmB) (KF : KxsFacts B i) {v : Value} (X : K.In s.heap) (G : s.heap.Ns mainGlobals mg) (Bl : ∃ mb, s.heap.Ns builtinsNs mb ∧ ∀ x : Str, x ≠ "__name__" → mb x = bootBuiltins x)
    (hlim : s.heap.NoLimit) (hroom : A.depth + 1 < recursionLimit)
    (hq : ∀ h' tk e d, XMade f s.heap h' e C d v → R (.ok (.ret (.ref e))) { s with heap := h', toks := tk }) :
    codeAny (model prog w) A (.call (.ref C) ⟨[v], []⟩) R s := by
  obtain ⟨nm, q, N, bs, bm, sn, sub, ab, col, dd, k0, k1, k2, k3, k5, hC, hT, hpass, hal⟩ := T.cls
  obtain ⟨mb, hB, hBB⟩ := Bl
  obtain ⟨hp, g, dr, tk, os⟩ := s
  have k : ∀ b o, hp.get? b = some o → ((hp.push (kdv_tup [v])).push (excO C hp.objs.size)).get? b = some o := fun b o e => Heap.get?_push_of_some _ (Heap.get?_push_of_some _ e)
  have hget : ((hp.push (kdv_tup [v])).push (excO C hp.objs.size)).get? (hp.objs.size + 1) = some (excO C hp.objs.size) := by heap_get
  have hnx : K.lookup (hp.objs.size + 1) = none := by
    cases e : K.lookup (hp.objs.size + 1) with
    | none => rfl
    | some o =>
      have z : hp.get? (hp.objs.size + 1) = some o := X _ _ e
      exact absurd (Nat.lt_of_succ_lt (Heap.lt_size z)) (Nat.lt_irrefl _)
  refine call_own FB hT (X _ _ hC) (looks_findIn X T.iC) (fun self => bind_fn X self T.tC) (by show 1 ≤ sizeLine; rw [sizeLine_eq]; decide) ?_
  refine x_init (s := ⟨(hp.push (kdv_tup [v])).push (excO C hp.objs.size), g, dr, tk, os⟩) T FB KF (X.keeps k) (G.keeps k) ⟨mb, hB.keeps k, hBB⟩ (hlim.keeps k) hget hnx ?_ fun h' tk' dx ⟨k', ⟨t1, hx⟩, dn, dne, hns⟩ => ?_
  · show A.depth + 1 < recursionLimit
    exact hroom
  · have old : ∀ b o, hp.get? b = some o → h'.get? b = some o := fun b o e => k' b o (Nat.ne_of_lt (Nat.lt_succ_of_lt (Heap.lt_size e))) (k b o e)
    have z : hp.objs.size + 1 + 1 ≤ dx := by
      have q := dn
      rw [Heap.size_push, Heap.size_push] at q
      exact q
    exact ⟨rfl, hq h' tk' (hp.objs.size + 1) dx ⟨old, Nat.le_succ _, ⟨_, _, hx, rfl, rfl, rfl, rfl⟩, Nat.le_trans (Nat.le_trans (Nat.le_succ _) (Nat.le_succ _)) z, dne, hns⟩⟩
end
end LfX
end PySem
namespace L2
open PySem PySem.Spec PyProof.Rows
theorem relO_one {f : Str} {v : V} {v' : Value} (r : RelV v v') (y : Str) : RelO (List.lookup y [(f, v)]) (if y = f then some v' else none) := by
  by_cases hw : y = f
  · subst hw
    rw [if_pos rfl]
    have q : List.lookup y [(y, v)] = some v := by simp [List.lookup]
    rw [q]
    exact r
  · rw [if_neg hw]
    have qw : (y == f) = false := by simpa using hw
    have q2 : List.lookup y [(f, v)] = none := by simp [List.lookup, qw]
    rw [q2]
    trivial
section
variable {X : Cx} {C fI : Addr} {nx f : Str} {B i newId : String} {bmB : List Value}
/-- C(e) for such a class -/
def tMkX (C : Addr) (f : Str) (ta : TA) : L2.St → Hp → XK → Prop := fun σ H Q => ta σ H fun vs H1 => ∃ v, vs = [v] ∧ ∀ d, H1 d = none → Q (.ref C) (some d) (upd H1 d (.xd [(f, v)]))
theorem pmk_x {a : Expr} {ta : TA} {p pos : Pos} {k : Nat} (T : PySem.LfX.XTxt X.prog X.K X.mg nx f B i newId bmB C fI) (FB : ExcBaseFacts B newId i bmB) (KF : PySem.W.KxsFacts B i) (hr : Room k X.A) (ha : PA X [a] ta) (hg : Gl X nx := by rfl) (hdb : (nx == ("__debug__" : Str)) = false := by decide)
    (he : starEach (a :: []) X.env = (false, eval a X.env) :: starEach [] X.env := by rfl) (hpl : (backTo pos (starEach [] X.env)).any (·.1) = false := by rfl) :
    PMk X (.Call (.Name nx p) [a] [] pos) (tMkX C f ta) := by
  intro pins s σ H Q I h
  refine wpAny_Call_Name_kw (ld_glob I hg T.gC ?_ hdb)
  refine PySem.W.callWith_K (h₀ := X.base) I.ok.mod.kin T.kC (thn (ha.run pos pins s σ H _ I h) fun us s1 hh => ?_) he hpl
  obtain ⟨vs, H1, I1, r1, v, ev, q1⟩ := hh
  subst ev
  refine ⟨I1.kIn, ?_⟩
  cases r1 with
  | cons rv rn =>
    rename_i v' us'
    cases rn
    show wpAny _ _ (call (.ref C) [v']) _ _ _
    have hlim := I1.nolimit
    have hG : s1.heap.Ns mainGlobals X.mg := I1.ok.mod.glob.keeps I1.bk
    have hB : ∃ mb, s1.heap.Ns builtinsNs mb ∧ ∀ x : Str, x ≠ "__name__" → mb x = bootBuiltins x := by
      obtain ⟨mb, b1, b2⟩ := I1.ok.mod.blt
      exact ⟨mb, b1.keeps I1.bk, b2⟩
    obtain ⟨hp, g, dr, tk, os⟩ := s1
    refine wpAny_call (PySem.LfX.x_made T FB KF I1.kIn hG hB hlim (by have := hr.dp; omega) fun h' tk' e d M => ?_)
    show MkP X pins σ Q (.ref e) ⟨h', g, dr, tk', os⟩
    obtain ⟨oe, fv, hoe, hc, hd, hdat, h1⟩ := M.obj
    have hns := M.ns
    obtain ⟨G', g1, g2⟩ := restrict h' fun b => decide (b ≠ e)
    have gk : ∀ b, b ≠ e → G'.get? b = h'.get? b := fun b hb => g1 b (decide_eq_true hb)
    have ge : G'.get? e = none := g2 e (by simp)
    have old : ∀ b o, hp.get? b = some o → G'.get? b = some o := fun b o q => (gk b (Nat.ne_of_lt (Nat.lt_of_lt_of_le (Heap.lt_size q) M.new))).trans (M.keep b o q)
    have ob : ObjOk X.prog X.w (upd H1 d (.xd [(f, v)])) G' d (.xd [(f, v)]) :=
      ⟨_, hns.at (fun o q => (gk d M.dne).trans q), fun y => relO_one rv y⟩
    have J : Inv X pins σ (upd H1 d (.xd [(f, v)])) ⟨G', g, dr, tk', os⟩ := I1.laid (t' := tk') old M.dbig ob
    refine ⟨e, oe, fv, ⟨G', g, dr, tk', os⟩, _, .ref C, some d, rfl, J, fun b o q => ?_, ge, hoe, ⟨hc, hd⟩, hdat, h1, ?_, rfl, I1.bare, raises_own T.exC T.tyC, q1 d (I1.hok.fresh M.dbig)⟩
    · by_cases hb : b = e
      · have q' : G'.get? b = some o := q
        rw [hb, ge] at q'; cases q'
      · exact (gk b hb).symm.trans q
    · rw [upd_ne (Ne.symm M.dne)]
      exact I1.hok.fresh M.new
end
end L2
set_option maxHeartbeats 4000000
/-! A def of the text as one fact, and its call -/
namespace L2
open PySem PySem.Spec PyProof.Rows
/-- the def x of the text stands at its name -/
def Df (K : PySem.W.Frag) (mg : Str → Option Value) (x : Str) (st : Stmt) : Prop := ∃ f fd, Fun K x x st f fd ∧ mg x = some (.ref f)
/-- the def x keeps the promise sp -/
def DefOk (P : Program) (w : World) (K : PySem.W.Frag) (mg : Str → Option Value) (base : Heap) (CX : CXT) (k : Nat) (x : Str) (ps : List Str) (sp : Sp) : Prop :=
  ∃ f fd, mg x = some (.ref f) ∧ PySem.W.keepIn K (.ref f) = true ∧ Binds K fd ps [] ∧ FnOk P w K mg base CX k f fd ps sp
section
variable {P : Program} {w : World} {K : PySem.W.Frag} {mg : Str → Option Value} {base : Heap} {x : Str} {st : Stmt} {N ps : List Str} {k : Nat} {sp : Sp}
theorem Df.ok (D : Df K mg x st) (S : FnScope N ps (defScope st))
    (bd : ∀ (kV doc pm : Value) (an : Option Addr) (cdv ct : Value) (us : List Value), us.length = ps.length → bindArgs (PySem.W.fnOf x x (defArgs st) (defBody st) (defScope st) .none kV doc pm an cdv ct) ⟨us, []⟩ = pure (ps.zip us))
    (len : ∀ vs H Q E, sp vs H Q E → vs.length = ps.length)
    (hbody : ∀ (f : Addr) (cdv : Value) (A : Around) (outer : List Env) (s : Shared) (H : Hp) (vs : List V) (Q : VK) (E : XK), Room k (A.deeper (envOfC x (defScope st) s.heap.objs.size f cdv)) → sp vs H Q E →
      ∃ t, PSs (cxOf CX0 P w K mg base N x (defScope st) f cdv A outer s H E).nox (defBody st) t ∧ t { nx := fun _ H' => Q .non H', rt := Q } (start N vs) H) : DefOk P w K mg base CX0 (k + 1) x ps sp := by
  obtain ⟨f, fd, F, hm⟩ := D
  exact ⟨f, fd, hm, F.kp, F.binds bd, F.ok S len (hbody f)⟩
theorem Df.okX (D : Df K mg x st) (S : FnScope N ps (defScope st))
    (bd : ∀ (kV doc pm : Value) (an : Option Addr) (cdv ct : Value) (us : List Value), us.length = ps.length → bindArgs (PySem.W.fnOf x x (defArgs st) (defBody st) (defScope st) .none kV doc pm an cdv ct) ⟨us, []⟩ = pure (ps.zip us))
    (len : ∀ vs H Q E, sp vs H Q E → vs.length = ps.length)
    (hbody : ∀ (f : Addr) (cdv : Value) (A : Around) (outer : List Env) (s : Shared) (H : Hp) (vs : List V) (Q : VK) (E : XK), Room k (A.deeper (envOfC x (defScope st) s.heap.objs.size f cdv)) → sp vs H Q E →
      ∃ t, PSs (cxOf (L2.CX P w) P w K mg base N x (defScope st) f cdv A outer s H E) (defBody st) t ∧ t { nx := fun _ H' => Q .non H', rt := Q } (start N vs) H) : DefOk P w K mg base (L2.CX P w) (k + 1) x ps sp := by
  obtain ⟨f, fd, F, hm⟩ := D
  exact ⟨f, fd, hm, F.kp, F.binds bd, F.okX S len (hbody f)⟩
end
section
variable {X : Cx} {CX : CXT} {k : Nat} {ps : List Str} {sp : Sp} {E : XK} {ES : St → XK} {x : Str} {p pos : Pos} {e : Expr} {es : List Expr} {t : TA}
def tCallD (sp : Sp) (E : XK) (t : TA) : TE := fun σ H Q => t σ H fun vs H1 => sp vs H1 Q E
theorem pe_callD (D : DefOk X.prog X.w X.K X.mg X.base CX k x ps sp) (hr : Room k X.A) (hx : Passes CX X E) (ha : PA X (e :: es) t) (hg : Gl X x := by rfl) (hdb : (x == ("__debug__" : Str)) = false := by decide)
    (he : starEach (e :: es) X.env = (false, eval e X.env) :: starEach es X.env := by rfl) (hpl : (backTo pos (starEach es X.env)).any (·.1) = false := by rfl) :
    PE X (.Call (.Name x p) (e :: es) [] pos) (tCallD sp E t) := by
  obtain ⟨f, fd, hm, hk, hb, F⟩ := D
  refine ⟨fun pins s σ H Q I h => (pe_call F hr hg hm hk hb (.nil) hx ha hdb he hpl).run pins s σ H Q I ?_⟩
  have q : (fun vs H1 => sp vs H1 Q E) = fun vs H1 => sp (vs ++ []) H1 Q E := by
    funext vs H1
    rw [List.append_nil]
  show t σ H (fun vs H1 => sp (vs ++ []) H1 Q E)
  rw [← q]
  exact h
theorem pe_callDS (D : DefOk X.prog X.w X.K X.mg X.base CX k x ps sp) (hr : Room k X.A) (hx : ∀ σ, PassesAt CX X σ (ES σ)) (ha : PA X (e :: es) t) (hg : Gl X x := by rfl) (hdb : (x == ("__debug__" : Str)) = false := by decide)
    (he : starEach (e :: es) X.env = (false, eval e X.env) :: starEach es X.env := by rfl) (hpl : (backTo pos (starEach es X.env)).any (·.1) = false := by rfl) :
    PE X (.Call (.Name x p) (e :: es) [] pos) (tCallS sp ES t) := by
  obtain ⟨f, fd, hm, hk, hb, F⟩ := D
  exact pe_callS F hr hg hm hk hb hx ha hdb he hpl
/-- a module's int -/
theorem pe_gInt {n : Int} (hg : Gl X x) (h : ∃ t, X.mg x = some (.int n t)) (hd : (x == ("__debug__" : Str)) = false := by decide) : PE X (.Name x pos) (tC (.int n)) := by
  obtain ⟨t, hm⟩ := h
  exact pe_glob hg hm ⟨t, rfl⟩ hd
theorem pe_gStr {n : Str} (hg : Gl X x) (h : ∃ t, X.mg x = some (.str n t)) (hd : (x == ("__debug__" : Str)) = false := by decide) : PE X (.Name x pos) (tC (.str n)) := by
  obtain ⟨t, hm⟩ := h
  exact pe_glob hg hm ⟨t, rfl⟩ hd
end
end L2
set_option maxHeartbeats 4000000
/-! Kinds of values, numbers; the defs is_number, is_integer, require_integer -/
namespace Lf
open PySem L2
/-- the built-in kind of a value -/
inductive Kd (H : Hp) : V → String → Prop
  | non : Kd H .non "NoneType"
  | bl (b : Bool) : Kd H (.bl b) "bool"
  | int (i : Int) : Kd H (.int i) "int"
  | str (x : Str) : Kd H (.str x) "str"
  | lst {a : Addr} {xs : List V} (e : H a = some (.lst xs)) : Kd H (.ref a) "list"
  | tup {a : Addr} {xs : List V} (e : H a = some (.tup xs)) : Kd H (.ref a) "tuple"
  | dic {a : Addr} {kvs : List (Key × V)} (e : H a = some (.dK kvs)) : Kd H (.ref a) "dict"
theorem Kd.ty {H : Hp} {v : V} {t : String} (K : PySem.W.Frag) (k : Kd H v t) : TyX K H v (.type t) := by
  cases k with
  | non => exact .base .non
  | bl b => exact .base (.bl b)
  | int i => exact .base (.int i)
  | str x => exact .base (.str x)
  | lst e => exact .base (.lst e)
  | tup e => exact .base (.tup e)
  | dic e => exact .base (.dK e)
theorem Kd.same {H H' : Hp} {v : V} {t : String} (s : Same H H') (k : Kd H v t) : Kd H' v t := by
  cases k with
  | non => exact .non
  | bl b => exact .bl b
  | int i => exact .int i
  | str x => exact .str x
  | lst e => exact .lst (s _ _ e)
  | tup e => exact .tup (s _ _ e)
  | dic e => exact .dic (s _ _ e)
def numV : V → Bool
  | .int _ => true
  | _ => false
def lim : Int := 1000000000000000000000000000000
def intV : V → Bool
  | .int i => decide (-lim < i) && decide (i < lim)
  | _ => false
theorem Kd.int_ {H : Hp} {v : V} {t : String} (k : Kd H v t) : kitB t "int" = some (numV v || t == "bool") := by
  cases k <;> (first | rfl | decide +kernel)
theorem Kd.bool_ {H : Hp} {v : V} {t : String} (k : Kd H v t) : kitB t "bool" = some (t == "bool") := by
  cases k <;> (first | rfl | decide +kernel)
theorem Kd.tuple_ {H : Hp} {v : V} {t : String} (k : Kd H v t) : kitB t "tuple" = some (t == "tuple") := by
  cases k <;> (first | rfl | decide +kernel)
theorem Kd.num_ {H : Hp} {v : V} {t : String} (k : Kd H v t) : (if (numV v || t == "bool") = true then (!(t == "bool")) else false) = numV v := by
  cases k <;> (first | rfl | decide +kernel)
theorem if_so {c : Bool} {A B : Prop} (hc : c = true) (h : A) : if c = true then A else B := by
  rw [if_pos hc]
  exact h
theorem if_no {c : Bool} {A B : Prop} (hc : c = false) (h : B) : if c = true then A else B := by
  rw [hc, if_neg Bool.false_ne_true]
  exact h
def spIsNumber : Sp := fun vs H Q _ => ∃ v t, vs = [v] ∧ Kd H v t ∧ Q (.bl (numV v)) H
def spIsInteger : Sp := fun vs H Q _ => ∃ v t, vs = [v] ∧ Kd H v t ∧ Q (.bl (intV v)) H
def spReqInt (CN : Addr) : Sp := fun vs H Q E => ∃ v t, vs = [v] ∧ Kd H v t ∧ (intV v = true → Q .non H) ∧
  (intV v = false → ∀ d, H d = none → E (.ref CN) (some d) (upd H d (.xd [("value", v)])))
/-- the builtins' names that are not bound by the text, the constants -/
structure NumT (K : PySem.W.Frag) (mg : Str → Option Value) : Prop where
  n_isinstance : mg "isinstance" = none
  n_int : mg "int" = none
  n_bool : mg "bool" = none
  g_LIMIT : ∃ t, mg "LIMIT" = some (.int lim t)
section
variable {P : Program} {w : World} {K : PySem.W.Frag} {mg : Str → Option Value} {base : Heap} {st : Stmt}
end
end Lf
set_option maxHeartbeats 4000000
namespace My
open PySem L2 Lf
def top (i : Nat) : Stmt := PySem.Challenge.pw_loopfoundry_k09_cells_of_places.main.body.getD i (.Pass ⟨0, 0, 0, 0⟩)
abbrev s_is_number : Stmt := top 6
theorem sc_is_number : FnScope ["value"] ["value"] (defScope s_is_number) := ⟨rfl, rfl, rfl, by decide +kernel, rfl, by decide +kernel, by decide +kernel⟩
abbrev s_is_integer : Stmt := top 7
theorem sc_is_integer : FnScope ["value"] ["value"] (defScope s_is_integer) := ⟨rfl, rfl, rfl, by decide +kernel, rfl, by decide +kernel, by decide +kernel⟩
abbrev s_require_integer : Stmt := top 8
theorem sc_require_integer : FnScope ["value"] ["value"] (defScope s_require_integer) := ⟨rfl, rfl, rfl, by decide +kernel, rfl, by decide +kernel, by decide +kernel⟩
structure Txt (P : Program) (K : PySem.W.Frag) (mg : Str → Option Value) (CN fI CA FE : Addr) : Prop where
  n_isinstance : mg "isinstance" = none
  n_int : mg "int" = none
  n_bool : mg "bool" = none
  n_tuple : mg "tuple" = none
  n_len : mg "len" = none
  n_abs : mg "abs" = none
  n_max : mg "max" = none
  n_list : mg "list" = none
  n_range : mg "range" = none
  g_LIMIT : ∃ t, mg "LIMIT" = some (.int lim t)
  num : PySem.LfX.XTxt P K mg "InvalidNumber" "value" "RuntimeError" "RuntimeError.__init__" "RuntimeError.__new__" [.type "RuntimeError", .type "Exception", .type "BaseException", .type "object"] CN fI
  gA : mg "InvalidArgument" = some (.ref CA)
  xA : PySem.W.excIn K CA [.type "ValueError", .type "Exception", .type "BaseException", .type "object"] "ValueError.__new__" = true
  kA : PySem.W.keepIn K (.ref CA) = true
  bA : PySem.W.subIn K (.ref CA) (.type "BaseException") = some true
  tA : PySem.W.typeIn K (.ref CA) = some (.type "type")
section
variable {P : Program} {w : World} {K : PySem.W.Frag} {mg : Str → Option Value} {base : Heap} {CN fI CA FE : Addr}
theorem ok_is_number (T : Txt P K mg CN fI CA FE) (D : Df K mg "is_number" s_is_number) : DefOk P w K mg base CX0 1 "is_number" ["value"] spIsNumber := by
  refine D.ok sc_is_number (fun _ _ _ _ _ _ us hl => match us, hl with | [_], _ => rfl) (fun vs H Q E h => ?_) (fun f cdv A outer s H vs Q E hr h => ?_)
  · obtain ⟨v, t, rfl, _⟩ := h
    rfl
  · obtain ⟨v, t, rfl, kd, q⟩ := h
    refine ⟨_, (pss_one (ps_ret (pe_and (pe_callB call_isi (by rfl) T.n_isinstance (by decide +kernel) (pa_cons (pv 0) (pa_cons (pe_bltn (v := .ty "int") (by rfl) T.n_int (by decide +kernel) rfl) pa_nil))) (pe_one (pe_not (pe_callB call_isi (by rfl) T.n_isinstance (by decide +kernel) (pa_cons (pv 0) (pa_cons (pe_bltn (v := .ty "bool") (by rfl) T.n_bool (by decide +kernel) rfl) pa_nil)))))))), ?_⟩
    refine ⟨v, rfl, v, _, _, _, _, rfl, .ty "int", kd.ty K, kit_ty kd.int_, _, rfl, ?_⟩
    have e := kd.num_
    cases h : (numV v || t == "bool") with
    | true =>
      rw [h] at e
      refine if_so rfl ⟨v, rfl, v, _, _, _, _, rfl, .ty "bool", kd.ty K, kit_ty kd.bool_, _, rfl, ?_⟩
      rw [if_pos rfl] at e
      show Q (.bl (!(t == "bool"))) H
      rw [e]
      exact q
    | false =>
      rw [h] at e
      refine if_no rfl ?_
      rw [if_neg Bool.false_ne_true] at e
      rw [e]
      exact q
theorem ok_is_integer (T : Txt P K mg CN fI CA FE) (D : Df K mg "is_integer" s_is_integer) (D_is_number : DefOk P w K mg base CX0 1 "is_number" ["value"] spIsNumber) : DefOk P w K mg base CX0 2 "is_integer" ["value"] spIsInteger := by
  refine D.ok sc_is_integer (fun _ _ _ _ _ _ us hl => match us, hl with | [_], _ => rfl) (fun vs H Q E h => ?_) (fun f cdv A outer s H vs Q E hr h => ?_)
  · obtain ⟨v, t, rfl, _⟩ := h
    rfl
  · obtain ⟨v, t, rfl, kd, q⟩ := h
    refine ⟨_, (pss_one (ps_ret (pe_and (pe_callD D_is_number (hr.mono (by decide)) pass0 (pa_cons (pv 0) pa_nil)) (pe_one (pe_chain op_lt op_lt (pe_un un_neg (pe_gInt (by rfl) T.g_LIMIT)) (pv 0) (pe_gInt (by rfl) T.g_LIMIT)))))), ?_⟩
    refine ⟨v, rfl, v, t, rfl, kd, _, rfl, ?_⟩
    cases kd with
    | int i =>
      refine if_so rfl ⟨_, rfl, _, rfl, _, _, rfl, rfl, _, rfl, ?_⟩
      cases h : decide (-lim < i) with
      | true =>
        refine if_so rfl ⟨_, _, rfl, rfl, ?_⟩
        simp only [intV, h, Bool.true_and] at q
        exact q
      | false =>
        refine if_no rfl ?_
        simp only [intV, h, Bool.false_and] at q
        exact q
    | _ => exact if_no rfl q
theorem ok_require_integer (T : Txt P K mg CN fI CA FE) (D : Df K mg "require_integer" s_require_integer) (D_is_integer : DefOk P w K mg base CX0 2 "is_integer" ["value"] spIsInteger) : DefOk P w K mg base (L2.CX P w) 3 "require_integer" ["value"] (spReqInt CN) := by
  refine D.okX sc_require_integer (fun _ _ _ _ _ _ us hl => match us, hl with | [_], _ => rfl) (fun vs H Q E h => ?_) (fun f cdv A outer s H vs Q E hr h => ?_)
  · obtain ⟨v, t, rfl, _⟩ := h
    rfl
  · obtain ⟨v, t, rfl, kd, q1, q2⟩ := h
    refine ⟨_, (pss_one (ps_if (pt_not (pt_val (pe_callD D_is_integer (hr.mono (by decide)) pass0 (pa_cons (pv 0) pa_nil))))
 (pss_one (ps_raise rfl (takes_of rfl rfl rfl rfl) (pmk_x T.num PySem.F.excBase_RuntimeError PySem.W.kxs_RuntimeError hr (pa_cons (pv 0) pa_nil))))
 pss_nil)), ?_⟩
    refine ⟨v, rfl, v, t, rfl, kd, _, rfl, ?_⟩
    cases h : intV v with
    | true => exact if_no rfl (q1 h)
    | false => exact if_so rfl ⟨_, rfl, _, rfl, fun d hd => q2 h d hd⟩
end
end My
set_option maxHeartbeats 4000000
namespace My
open PySem L2 Lf
abbrev s_is_place : Stmt := top 10
theorem sc_is_place : FnScope ["value"] ["value"] (defScope s_is_place) := ⟨rfl, rfl, rfl, by decide +kernel, rfl, by decide +kernel, by decide +kernel⟩
abbrev s_cell_of : Stmt := top 11
theorem sc_cell_of : FnScope ["place", "number"] ["place", "number"] (defScope s_cell_of) := ⟨rfl, rfl, rfl, by decide +kernel, rfl, by decide +kernel, by decide +kernel⟩
abbrev s_law_dice : Stmt := top 13
theorem sc_law_dice : FnScope ["_law_cell", "_law_number"] ["_law_cell"] (defScope s_law_dice) := ⟨rfl, rfl, rfl, by decide +kernel, rfl, by decide +kernel, by decide +kernel⟩
abbrev s_law_next : Stmt := top 14
theorem sc_law_next : FnScope ["_law_dice_here", "_law_many", "_law_found", "_law_mixed"] ["_law_dice_here", "_law_many"] (defScope s_law_next) := ⟨rfl, rfl, rfl, by decide +kernel, rfl, by decide +kernel, by decide +kernel⟩
abbrev s_law_cells : Stmt := top 15
theorem sc_law_cells : FnScope ["_law_script", "_law_most"] ["_law_script", "_law_most"] (defScope s_law_cells) := ⟨rfl, rfl, rfl, by decide +kernel, rfl, by decide +kernel, by decide +kernel⟩
abbrev s_law_great : Stmt := top 16
theorem sc_law_great : FnScope ["_law_dice_here", "_law_number", "_law_turn"] ["_law_dice_here"] (defScope s_law_great) := ⟨rfl, rfl, rfl, by decide +kernel, rfl, by decide +kernel, by decide +kernel⟩
abbrev s_law_whole : Stmt := top 17
theorem sc_law_whole : FnScope ["_law_dice_here", "_law_way"] ["_law_dice_here"] (defScope s_law_whole) := ⟨rfl, rfl, rfl, by decide +kernel, rfl, by decide +kernel, by decide +kernel⟩
abbrev s_law_is_count : Stmt := top 18
theorem sc_law_is_count : FnScope ["_law_value"] ["_law_value"] (defScope s_law_is_count) := ⟨rfl, rfl, rfl, by decide +kernel, rfl, by decide +kernel, by decide +kernel⟩
/-- whether a value is a place, by what stands there -/
inductive PlaceIs (H : Hp) : V → Bool → Prop
  | no {v : V} {t : String} (k : Kd H v t) (h : (t == "tuple") = false) : PlaceIs H v false
  | short {a : Addr} {xs : List V} (e : H a = some (.tup xs)) (h : xs.length ≠ 2) : PlaceIs H (.ref a) false
  | two {a : Addr} {x y : V} {t u : String} (e : H a = some (.tup [x, y])) (kx : Kd H x t) (ky : Kd H y u) : PlaceIs H (.ref a) (intV x && intV y)
def spIsPlace : Sp := fun vs H Q _ => ∃ v b, vs = [v] ∧ PlaceIs H v b ∧ Q (.bl b) H
def spCellOf (CN CA : Addr) : Sp := fun vs H Q E => ∃ p n, vs = [p, n] ∧
  ((PlaceIs H p false ∧ E (.ref CA) none H) ∨
   (∃ t, PlaceIs H p true ∧ Kd H n t ∧ intV n = false ∧ ∀ d, H d = none → E (.ref CN) (some d) (upd H d (.xd [("value", n)]))) ∨
   (∃ a s o z, p = .ref a ∧ H a = some (.tup [.int s, .int o]) ∧ n = .int z ∧ intV (.int s) = true ∧ intV (.int o) = true ∧ intV (.int z) = true ∧ Q (.int (s * z + o)) H))
theorem lim_nat {i : Int} (h : intV (.int i) = true) : i.natAbs < 2 ^ 100 := by
  have h' : (decide (-lim < i) && decide (i < lim)) = true := h
  rw [Bool.and_eq_true] at h'
  have h1 : -1000000000000000000000000000000 < i := of_decide_eq_true h'.1
  have h2 : i < 1000000000000000000000000000000 := of_decide_eq_true h'.2
  have : (2 : Nat) ^ 100 = 1267650600228229401496703205376 := by decide +kernel
  omega
section
variable {P : Program} {w : World} {K : PySem.W.Frag} {mg : Str → Option Value} {base : Heap} {CN fI CA FE : Addr}
theorem ok_is_place (T : Txt P K mg CN fI CA FE) (D : Df K mg "is_place" s_is_place) (D_is_integer : DefOk P w K mg base CX0 2 "is_integer" ["value"] spIsInteger) : DefOk P w K mg base CX0 3 "is_place" ["value"] spIsPlace := by
  refine D.ok sc_is_place (fun _ _ _ _ _ _ us hl => match us, hl with | [_], _ => rfl) (fun vs H Q E h => ?_) (fun f cdv A outer s H vs Q E hr h => ?_)
  · obtain ⟨v, b, rfl, _⟩ := h
    rfl
  · obtain ⟨v, b, rfl, pl, q⟩ := h
    refine ⟨_, (pss_one (ps_ret (pe_and (pe_callB call_isi (by rfl) T.n_isinstance (by decide +kernel) (pa_cons (pv 0) (pa_cons (pe_bltn (v := .ty "tuple") (by rfl) T.n_tuple (by decide +kernel) rfl) pa_nil))) (pe_and (pe_cmpR op_eq (pe_callB call_len_seq (by rfl) T.n_len (by decide +kernel) (pa_cons (pv 0) pa_nil)) pe_int (nomark _)) (pe_and (pe_callD D_is_integer (hr.mono (by decide)) pass0 (pa_cons (pe_ix ix_tup (pv 0) pe_int (fun _ _ => rfl)) pa_nil)) (pe_one (pe_callD D_is_integer (hr.mono (by decide)) pass0 (pa_cons (pe_ix ix_tup (pv 0) pe_int (fun _ _ => rfl)) pa_nil)))))))), ?_⟩
    cases pl with
    | no k h =>
      refine ⟨v, rfl, v, _, _, _, _, rfl, .ty "tuple", k.ty K, kit_ty k.tuple_, _, rfl, ?_⟩
      exact if_no h q
    | short e h =>
      refine ⟨_, rfl, _, _, _, _, _, rfl, .ty "tuple", (Kd.tup e).ty K, kit_ty (Kd.tup e).tuple_, _, rfl, ?_⟩
      refine if_so rfl ⟨_, rfl, _, _, rfl, .inr (SqT.of e), rfl, _, rfl, ?_⟩
      exact if_no (decide_eq_false (fun z => h (by injection z with z; omega))) q
    | two e kx ky =>
      refine ⟨_, rfl, _, _, _, _, _, rfl, .ty "tuple", (Kd.tup e).ty K, kit_ty (Kd.tup e).tuple_, _, rfl, ?_⟩
      refine if_so rfl ⟨_, rfl, _, _, rfl, .inr (SqT.of e), rfl, _, rfl, ?_⟩
      refine if_so (decide_eq_true rfl) ?_
      refine ⟨_, rfl, _, _, _, _, rfl, rfl, SqT.of e, rfl, _, _, rfl, kx, _, rfl, ?_⟩
      rename_i x y _ _
      cases hx : intV x with
      | true =>
        refine if_so rfl ⟨_, rfl, _, _, _, _, rfl, rfl, SqT.of e, rfl, _, _, rfl, ky, ?_⟩
        rw [hx, Bool.true_and] at q
        exact q
      | false =>
        rw [hx, Bool.false_and] at q
        exact if_no rfl q
theorem ok_cell_of (T : Txt P K mg CN fI CA FE) (D : Df K mg "cell_of" s_cell_of) (D_is_place : DefOk P w K mg base CX0 3 "is_place" ["value"] spIsPlace) (D_require_integer : DefOk P w K mg base (L2.CX P w) 3 "require_integer" ["value"] (spReqInt CN)) :
    DefOk P w K mg base (L2.CX P w) 4 "cell_of" ["place", "number"] (spCellOf CN CA) := by
  refine D.okX sc_cell_of (fun _ _ _ _ _ _ us hl => match us, hl with | [_, _], _ => rfl) (fun vs H Q E h => ?_) (fun f cdv A outer s H vs Q E hr h => ?_)
  · obtain ⟨v, b, rfl, _⟩ := h
    rfl
  · obtain ⟨p, n, rfl, h⟩ := h
    refine ⟨_, (pss_cons (ps_if (pt_not (pt_val (pe_callD D_is_place (hr.mono (by decide)) pass0 (pa_cons (pv 0) pa_nil))))
 (pss_one (ps_raise rfl (takes_of rfl rfl rfl rfl) (pmk_own PySem.F.excBase_ValueError T.xA T.gA T.kA (raises_own T.bA T.tA) rfl)))
 pss_nil)
 (pss_cons (ps_expr (pe_callD D_require_integer (hr.mono (by decide)) (passes_call (takes_of rfl rfl rfl rfl) (fun _ _ _ _ h => h)) (pa_cons (pv 1) pa_nil)))
 (pss_one (ps_ret (pe_op op_add (pe_op op_mulW (pe_ix ix_tup (pv 0) pe_int (fun _ _ => rfl)) (pv 1)) (pe_ix ix_tup (pv 0) pe_int (fun _ _ => rfl))))))), ?_⟩
    rcases h with ⟨pl, q⟩ | ⟨t, pl, kn, hn, q⟩ | ⟨a, s, o, z, rfl, e, rfl, h1, h2, h3, q⟩
    · refine ⟨_, rfl, _, _, rfl, pl, _, rfl, ?_⟩
      exact if_so rfl q
    · refine ⟨_, rfl, _, _, rfl, pl, _, rfl, if_no rfl ?_⟩
      exact ⟨_, rfl, _, _, rfl, kn, (fun z => by rw [hn] at z; cases z), fun _ d hd => q d hd⟩
    · have pl := PlaceIs.two e (.int s) (.int o)
      rw [h1, h2] at pl
      refine ⟨_, rfl, _, _, rfl, pl, _, rfl, if_no rfl ?_⟩
      refine ⟨_, rfl, _, _, rfl, .int z, fun _ => ?_, (fun z => by rw [h3] at z; cases z)⟩
      refine ⟨_, rfl, _, _, _, _, rfl, rfl, SqT.of e, rfl, _, rfl, _, _, rfl, rfl, wide_mul (lim_nat h1) (lim_nat h3) (by decide) (by decide) (by decide), _, rfl, _, _, _, _, rfl, rfl, SqT.of e, rfl, _, _, rfl, rfl, q⟩
end
end My
set_option maxHeartbeats 4000000
namespace My
open PySem L2 Lf
local macro_rules | `(tactic| walk_at "rd") => `(tactic| repeat (first | refine ⟨_, rfl, ?_⟩ | refine ⟨_, _, rfl, rfl, ?_⟩ | refine ⟨_, _, rfl, ?_⟩ | refine Or.inl ⟨_, rfl, ?_⟩ | refine Or.inr ⟨_, rfl, ?_⟩))
/-- the three ints of a die -/
def DiceL (xs : List V) : Prop := ∃ a b c : Int, xs = [.int a, .int b, .int c] ∧ -1099511627776 < b ∧ b < 1099511627776
def spDice : Sp := fun vs H Q _ => ∃ c : Int, vs = [.int c] ∧ ∀ p xs, H p = none → DiceL xs → Q (.ref p) (upd H p (.lst xs))
def spNext : Sp := fun vs H Q _ => ∃ (d : Addr) (m : Int) (xs : List V), vs = [.ref d, .int m] ∧ H d = some (.lst xs) ∧ DiceL xs ∧ 0 < m ∧ m < 1073741824 ∧
  ∀ r ys, 0 ≤ r → r < m → DiceL ys → Q (.int r) (upd H d (.lst ys))
/-- a draw from the die d whose value is less than b in size -/
def spDraw (b : Int) : Sp := fun vs H Q _ => ∃ (d : Addr) (xs : List V), vs = [.ref d] ∧ H d = some (.lst xs) ∧ DiceL xs ∧ ∀ r ys, -b < r → r < b → DiceL ys → Q (.int r) (upd H d (.lst ys))
theorem cpow (j : Nat) (h : (j : Int) ≤ 1000000) : CPow 10 (j : Int) := ⟨by omega, h, by decide⟩
section
variable {P : Program} {w : World} {K : PySem.W.Frag} {mg : Str → Option Value} {base : Heap} {CN fI CA FE : Addr}
theorem ok_law_dice (T : Txt P K mg CN fI CA FE) (D : Df K mg "_law_dice" s_law_dice) : DefOk P w K mg base CX0 1 "_law_dice" ["_law_cell"] spDice := by
  refine D.ok sc_law_dice (fun _ _ _ _ _ _ us hl => match us, hl with | [_], _ => rfl) (fun vs H Q E h => ?_) (fun f cdv A outer s H vs Q E hr h => ?_)
  · obtain ⟨v, rfl, _⟩ := h
    rfl
  · obtain ⟨c, rfl, q⟩ := h
    refine ⟨_, (pss_cons (ps_set (i := 1) sc_law_dice.nd rfl (Or.inl rfl) (pe_callTy call_int1 (by rfl) T.n_int (by decide +kernel) (pa_cons (pe_callB call_abs (by rfl) T.n_abs (by decide +kernel) (pa_cons (pv 0) pa_nil)) pa_nil)))
 (pss_one (ps_ret (pe_lst (pa_cons (pe_callB (call_max2 rfl) (by rfl) T.n_max (by decide +kernel) (pa_cons pe_int (pa_cons (pe_op op_sub (pv 1) (pe_op op_pow pe_int pe_int)) pa_nil))) (pa_cons (pe_op op_mod (pe_callTy call_int1 (by rfl) T.n_int (by decide +kernel) (pa_cons (pe_op op_add (pe_op op_mul (pv 1) pe_int) (pe_callTy call_int1 (by rfl) T.n_int (by decide +kernel) (pa_cons (pe_cmpR op_lt (pv 0) pe_int (nomark _)) pa_nil))) pa_nil)) pe_int) (pa_cons pe_int pa_nil))))))), ?_⟩
    walk_at "rd"
    refine ⟨cpow 18 (by decide), ?_⟩
    walk_at "rd"
    refine ⟨.inr ⟨by decide, by decide⟩, ?_⟩
    walk_at "rd"
    refine ⟨show (0 : Int) < 2147483629 by decide, ?_⟩
    refine ⟨show 3 ≤ sizeLine by decide, fun p hp => q p _ hp ⟨_, _, _, rfl, ?_, ?_⟩⟩
    · have h1 := Int.emod_nonneg ((if c < 0 then -c else c) * 2 + if decide (c < 0) = true then 1 else 0) (show (2147483629 : Int) ≠ 0 by decide)
      omega
    · have h1 := Int.emod_lt_of_pos ((if c < 0 then -c else c) * 2 + if decide (c < 0) = true then 1 else 0) (show (0 : Int) < 2147483629 by decide)
      omega
theorem ok_law_next (T : Txt P K mg CN fI CA FE) (D : Df K mg "_law_next" s_law_next) : DefOk P w K mg base CX0 1 "_law_next" ["_law_dice_here", "_law_many"] spNext := by
  refine D.ok sc_law_next (fun _ _ _ _ _ _ us hl => match us, hl with | [_, _], _ => rfl) (fun vs H Q E h => ?_) (fun f cdv A outer s H vs Q E hr h => ?_)
  · obtain ⟨d, m, xs, rfl, _⟩ := h
    rfl
  · obtain ⟨d, m, _, rfl, hd, ⟨a, b, c, rfl, hb1, hb2⟩, m0, m1, q⟩ := h
    refine ⟨_, (pss_cons (ps_if (pt_cmpR op_gt (pe_ix ix_list (pv 0) pe_int (fun _ _ => rfl)) pe_int (nomark _))
 (pss_cons (ps_set (i := 2) sc_law_next.nd rfl (Or.inl rfl) (pe_op op_mod (pe_callTy call_int1 (by rfl) T.n_int (by decide +kernel) (pa_cons (pe_ix ix_list (pv 0) pe_int (fun _ _ => rfl)) pa_nil)) (pv 1)))
 (pss_cons (ps_asg (pe_op op_fdiv (pe_ix ix_list (pv 0) pe_int (fun _ _ => rfl)) (pv 1)) (pg_sub (pv 0) pe_int set_list))
 (pss_one (ps_ret (pv 2)))))
 pss_nil)
 (pss_cons (ps_asg (pe_op op_add (pe_ix ix_list (pv 0) pe_int (fun _ _ => rfl)) pe_int) (pg_sub (pv 0) pe_int set_list))
 (pss_cons (ps_set (i := 3) sc_law_next.nd rfl (Or.inl rfl) (pe_op op_mod (pe_callTy call_int1 (by rfl) T.n_int (by decide +kernel) (pa_cons (pe_op op_mul (pe_op op_add (pe_ix ix_list (pv 0) pe_int (fun _ _ => rfl)) pe_int) (pe_op op_add (pe_op op_mul (pe_ix ix_list (pv 0) pe_int (fun _ _ => rfl)) pe_int) pe_int)) pa_nil)) pe_int))
 (pss_cons (ps_set (i := 3) sc_law_next.nd rfl (Or.inl rfl) (pe_op op_mod (pe_callTy call_int1 (by rfl) T.n_int (by decide +kernel) (pa_cons (pe_op op_add (pe_op op_mul (pv 3) (pv 3)) (pe_op op_mul (pe_ix ix_list (pv 0) pe_int (fun _ _ => rfl)) pe_int)) pa_nil)) pe_int))
 (pss_one (ps_ret (pe_op op_mod (pe_callTy call_int1 (by rfl) T.n_int (by decide +kernel) (pa_cons (pe_op op_fdiv (pv 3) pe_int) pa_nil)) (pv 1)))))))), ?_⟩
    refine ⟨_, rfl, _, _, _, _, rfl, rfl, SqL.of hd, rfl, _, _, rfl, rfl, _, rfl, ?_⟩
    cases ha : decide (0 < a) with
    | true =>
      refine if_so rfl ?_
      refine ⟨_, rfl, _, _, _, _, rfl, rfl, SqL.of hd, rfl, .inl ⟨_, rfl, _, rfl, _, _, rfl, rfl, m0, ?_⟩⟩
      refine ⟨_, rfl, _, _, _, _, rfl, rfl, SqL.of hd, rfl, _, rfl, _, _, rfl, rfl, ⟨m0, m1⟩, _, rfl, _, _, _, _, rfl, rfl, hd, rfl, ?_⟩
      exact ⟨_, rfl, q _ _ (Int.emod_nonneg _ (by omega)) (Int.emod_lt_of_pos _ m0) ⟨_, _, _, rfl, hb1, hb2⟩⟩
    | false =>
      refine if_no rfl ?_
      refine ⟨_, rfl, _, _, _, _, rfl, rfl, SqL.of hd, rfl, _, _, rfl, rfl, _, rfl, _, _, _, _, rfl, rfl, hd, rfl, ?_⟩
      have hd2 : upd H d (.lst ([V.int a, V.int b, V.int c].set 2 (V.int (c + 1)))) d = some (.lst [.int a, .int b, .int (c + 1)]) := upd_same
      refine ⟨_, rfl, _, _, _, _, rfl, rfl, SqL.of hd2, rfl, _, _, rfl, rfl, _, rfl, _, _, _, _, rfl, rfl, SqL.of hd2, rfl, _, _, rfl, rfl, .inr ⟨by decide, by decide⟩, _, _, rfl, rfl, _, _, rfl, rfl, .inl ⟨by omega, by omega⟩, .inl ⟨_, rfl, _, _, rfl, rfl, show (0 : Int) < 2147483587 by decide, ?_⟩⟩
      have e1 := Int.emod_nonneg ((b + 40503) * ((c + 1) * 69621 + 1013)) (show (2147483587 : Int) ≠ 0 by decide)
      have e2 := Int.emod_lt_of_pos ((b + 40503) * ((c + 1) * 69621 + 1013)) (show (0 : Int) < 2147483587 by decide)
      refine ⟨_, rfl, _, rfl, _, _, rfl, rfl, .inl ⟨by omega, by omega⟩, _, rfl, _, _, _, _, rfl, rfl, SqL.of hd2, rfl, _, _, rfl, rfl, .inr ⟨by decide, by decide⟩, _, _, rfl, rfl, .inl ⟨_, rfl, _, _, rfl, rfl, show (0 : Int) < 2147483579 by decide, ?_⟩⟩
      refine ⟨_, rfl, _, _, rfl, rfl, ⟨by decide, by decide⟩, .inl ⟨_, rfl, _, rfl, _, _, rfl, rfl, m0, ?_⟩⟩
      exact q _ _ (Int.emod_nonneg _ (by omega)) (Int.emod_lt_of_pos _ m0) ⟨_, _, _, rfl, hb1, hb2⟩
end
end My
set_option maxHeartbeats 4000000
namespace My
open PySem L2 Lf Evl
def spCells (K : PySem.W.Frag) : Sp := fun vs H Q _ => ∃ (a : Addr) (ns : List Int), vs = [.ref a, .int 40] ∧ SqL K H a (ns.map V.int) ∧ ∀ p (cs : List Int) H', Ex H H' → H' p = some (.lst (cs.map V.int)) → Q (.ref p) H'
theorem upd_id {H : Hp} {a : Addr} {o : HO} (h : H a = some o) : upd H a o = H := by
  funext b
  unfold upd
  split
  · rename_i e
    rw [e, h]
  · rfl
section
variable {P : Program} {w : World} {K : PySem.W.Frag} {mg : Str → Option Value} {base : Heap} {CN fI CA FE : Addr}
theorem ok_law_cells (T : Txt P K mg CN fI CA FE) (D : Df K mg "_law_cells" s_law_cells) : DefOk P w K mg base CX0 1 "_law_cells" ["_law_script", "_law_most"] (spCells K) := by
  refine D.ok sc_law_cells (fun _ _ _ _ _ _ us hl => match us, hl with | [_, _], _ => rfl) (fun vs H Q E h => ?_) (fun f cdv A outer s H vs Q E hr h => ?_)
  · obtain ⟨a, ns, rfl, _⟩ := h
    rfl
  · obtain ⟨a, ns, rfl, hS, q⟩ := h
    refine ⟨_, (pss_one (ps_ret (pe_ifExp (pt_cmpR op_gt (pe_callB call_len_seq (by rfl) T.n_len (by decide +kernel) (pa_cons (pv 0) pa_nil)) pe_int (nomark _)) (pe_callTy call_list_of (by rfl) T.n_list (by decide +kernel) (pa_cons (pe_slice sl_list (pv 0) po_none (po_some (pv 1))) pa_nil)) (pe_lst (pa_cons pe_int pa_nil))))), ?_⟩
    refine ⟨_, rfl, _, _, rfl, .inl hS, _, _, rfl, rfl, _, rfl, ?_⟩
    refine ite2 (fun _ => ?_) (fun _ => ?_)
    · refine ⟨_, rfl, _, rfl, _, rfl, _, _, rfl, hS, fun p hp => ?_⟩
      refine ⟨_, _, rfl, .inl (SqL.of upd_same), fun l hl => ?_⟩
      have e : ∃ cs : List Int, cutV (ns.map V.int) none (some 40) = cs.map V.int := ⟨(ns.drop _).take _, by unfold cutV; rw [List.map_take, List.map_drop]⟩
      obtain ⟨cs, ec⟩ := e
      refine q l cs _ ((Ex.new hp).trans (Ex.new hl)) ?_
      rw [upd_same, ec]
    · exact ⟨show 1 ≤ sizeLine by decide, fun p hp => q p [7] _ (Ex.new hp) upd_same⟩
theorem ok_law_great (T : Txt P K mg CN fI CA FE) (D : Df K mg "_law_great" s_law_great) (D_law_next : DefOk P w K mg base CX0 1 "_law_next" ["_law_dice_here", "_law_many"] spNext) : DefOk P w K mg base CX0 2 "_law_great" ["_law_dice_here"] (spDraw 1000000000000000000) := by
  refine D.ok sc_law_great (fun _ _ _ _ _ _ us hl => match us, hl with | [_], _ => rfl) (fun vs H Q E h => ?_) (fun f cdv A outer s H vs Q E hr h => ?_)
  · obtain ⟨d, xs, rfl, _⟩ := h
    rfl
  · obtain ⟨d, xs, rfl, hd, hx, q⟩ := h
    refine ⟨_, (pss_cons (ps_set (i := 1) sc_law_great.nd rfl (Or.inl rfl) pe_int)
 (pss_cons (ps_for PassesOwn.never rfl (pi_range1 (by rfl) T.n_range (pa_cons pe_int pa_nil)) (pg_name (i := 2) sc_law_great.nd rfl (Or.inl rfl))
 (pss_one (ps_set (i := 1) sc_law_great.nd rfl (Or.inl rfl) (pe_op op_add (pe_op op_mul (pv 1) (pe_op op_pow pe_int pe_int)) (pe_callD D_law_next (hr.mono (by decide)) pass0 (pa_cons (pv 0) (pa_cons (pe_op op_pow pe_int pe_int) pa_nil)))))))
 (pss_one (ps_ret (pe_ifExp (pt_cmpR op_eq (pe_callD D_law_next (hr.mono (by decide)) pass0 (pa_cons (pv 0) (pa_cons pe_int pa_nil))) pe_int (nomark _)) (pe_un un_neg (pv 1)) (pv 1)))))), ?_⟩
    refine ⟨3, rfl, by decide, by decide, for_range (lo := 0) (n := 3) (fun i σ H' => ∃ (v : Option V) (ys : List V) (z : Int), σ = [some (.ref d), some (.int z), v] ∧ H' = upd H d (.lst ys) ∧ DiceL ys ∧ 0 ≤ z ∧ z < 1000000 ^ i)
      ⟨none, xs, 0, rfl, (upd_id hd).symm, hx, by omega, by decide⟩ ?_ ?_⟩
    · rintro i σ H' hi ⟨v, ys, z, rfl, rfl, hy, z0, z1⟩
      refine ⟨_, rfl, _, _, rfl, rfl, cpow 6 (by decide), _, _, rfl, rfl, .inr ⟨by decide, by decide⟩, ?_⟩
      refine ⟨_, rfl, _, _, rfl, rfl, cpow 6 (by decide), ?_⟩
      refine ⟨d, _, ys, rfl, upd_same, hy, by decide, by decide, fun r zs r0 r1 hz => ?_⟩
      refine ⟨_, _, rfl, rfl, _, zs, _, rfl, upd_upd, hz, ?_, ?_⟩
      · have : (0 : Int) ≤ z * 10 ^ Int.toNat 6 := Int.mul_nonneg z0 (by decide)
        omega
      · have e : (10 : Int) ^ Int.toNat 6 = 1000000 := by decide
        have r1' : r < 1000000 := by rw [e] at r1; exact r1
        rw [e, Int.pow_succ]
        omega
    · rintro σ H' ⟨v, ys, z, rfl, rfl, hy, z0, z1⟩
      refine ⟨_, rfl, d, _, ys, rfl, upd_same, hy, by decide, by decide, fun r zs r0 r1 hz => ?_⟩
      refine ⟨rfl, _, rfl, ?_⟩
      have e : (1000000 : Int) ^ 3 = 1000000000000000000 := by decide
      rw [e] at z1
      refine ite2 (fun _ => ?_) (fun _ => ?_)
      · refine ⟨_, rfl, _, rfl, ?_⟩
        rw [upd_upd]
        exact q _ _ (by omega) (by omega) hz
      · refine ⟨_, rfl, ?_⟩
        rw [upd_upd]
        exact q _ _ (by omega) (by omega) hz
theorem ok_law_whole (T : Txt P K mg CN fI CA FE) (D : Df K mg "_law_whole" s_law_whole) (D_law_next : DefOk P w K mg base CX0 1 "_law_next" ["_law_dice_here", "_law_many"] spNext)
    (D_law_great : DefOk P w K mg base CX0 2 "_law_great" ["_law_dice_here"] (spDraw 1000000000000000000)) : DefOk P w K mg base CX0 3 "_law_whole" ["_law_dice_here"] (spDraw 1000000000000000000) := by
  refine D.ok sc_law_whole (fun _ _ _ _ _ _ us hl => match us, hl with | [_], _ => rfl) (fun vs H Q E h => ?_) (fun f cdv A outer s H vs Q E hr h => ?_)
  · obtain ⟨d, xs, rfl, _⟩ := h
    rfl
  · obtain ⟨d, xs, rfl, hd, hx, q⟩ := h
    refine ⟨_, (pss_cons (ps_set (i := 1) sc_law_whole.nd rfl (Or.inl rfl) (pe_callD D_law_next (hr.mono (by decide)) pass0 (pa_cons (pv 0) (pa_cons pe_int pa_nil))))
 (pss_cons (ps_if (pt_cmpR op_lt (pv 1) pe_int (nomark _))
 (pss_one (ps_ret (pe_op op_sub (pe_callD D_law_next (hr.mono (by decide)) pass0 (pa_cons (pv 0) (pa_cons pe_int pa_nil))) pe_int)))
 pss_nil)
 (pss_one (ps_ret (pe_ifExp (pt_cmpR op_eq (pv 1) pe_int (nomark _)) (pe_op op_sub (pe_callD D_law_next (hr.mono (by decide)) pass0 (pa_cons (pv 0) (pa_cons pe_int pa_nil))) pe_int) (pe_callD D_law_great (hr.mono (by decide)) pass0 (pa_cons (pv 0) pa_nil))))))), ?_⟩
    refine ⟨_, rfl, d, _, xs, rfl, hd, hx, by decide, by decide, fun r ys r0 r1 hy => ?_⟩
    refine ⟨_, rfl, _, _, rfl, rfl, _, rfl, ?_⟩
    refine ite2 (fun _ => ?_) (fun _ => ?_)
    · refine ⟨_, rfl, d, _, ys, rfl, upd_same, hy, by decide, by decide, fun r' zs r0' r1' hz => ?_⟩
      refine ⟨_, _, rfl, rfl, ?_⟩
      rw [upd_upd]
      exact q _ _ (by omega) (by omega) hz
    · refine ⟨_, rfl, rfl, _, rfl, ?_⟩
      refine ite2 (fun _ => ?_) (fun _ => ?_)
      · refine ⟨_, rfl, d, _, ys, rfl, upd_same, hy, by decide, by decide, fun r' zs r0' r1' hz => ?_⟩
        refine ⟨_, _, rfl, rfl, ?_⟩
        rw [upd_upd]
        exact q _ _ (by omega) (by omega) hz
      · refine ⟨_, rfl, d, ys, rfl, upd_same, hy, fun r' zs r0' r1' hz => ?_⟩
        rw [upd_upd]
        exact q _ _ r0' r1' hz
theorem ok_law_is_count (T : Txt P K mg CN fI CA FE) (D : Df K mg "_law_is_count" s_law_is_count) : DefOk P w K mg base CX0 1 "_law_is_count" ["_law_value"] spIsNumber := by
  refine D.ok sc_law_is_count (fun _ _ _ _ _ _ us hl => match us, hl with | [_], _ => rfl) (fun vs H Q E h => ?_) (fun f cdv A outer s H vs Q E hr h => ?_)
  · obtain ⟨v, t, rfl, _⟩ := h
    rfl
  · obtain ⟨v, t, rfl, kd, q⟩ := h
    refine ⟨_, (pss_one (ps_ret (pe_and (pe_callB call_isi (by rfl) T.n_isinstance (by decide +kernel) (pa_cons (pv 0) (pa_cons (pe_bltn (v := .ty "int") (by rfl) T.n_int (by decide +kernel) rfl) pa_nil))) (pe_one (pe_not (pe_callB call_isi (by rfl) T.n_isinstance (by decide +kernel) (pa_cons (pv 0) (pa_cons (pe_bltn (v := .ty "bool") (by rfl) T.n_bool (by decide +kernel) rfl) pa_nil)))))))), ?_⟩
    refine ⟨v, rfl, v, _, _, _, _, rfl, .ty "int", kd.ty K, kit_ty kd.int_, _, rfl, ?_⟩
    have e := kd.num_
    cases h : (numV v || t == "bool") with
    | true =>
      rw [h] at e
      refine if_so rfl ⟨v, rfl, v, _, _, _, _, rfl, .ty "bool", kd.ty K, kit_ty kd.bool_, _, rfl, ?_⟩
      rw [if_pos rfl] at e
      show Q (.bl (!(t == "bool"))) H
      rw [e]
      exact q
    | false =>
      rw [h] at e
      refine if_no rfl ?_
      rw [if_neg Bool.false_ne_true] at e
      rw [e]
      exact q
end
end My
set_option maxHeartbeats 4000000
namespace L2
open PySem PySem.Spec PyProof.Rows
/-- isinstance(e, c) of the caught error, if it is of the class at D and has no dict -/
def rIsE2 (K : PySem.W.Frag) (D a : Addr) (cls : Value) (d : Option Addr) : List V → Hp → VK → Prop := fun xs H Q => cls = .ref D ∧ d = none ∧ rIsE K D a xs H Q
theorem call_isE2 {X : Cx} {a D : Addr} {oe : Obj} {cls : Value} {d : Option Addr} {pn : List (Addr × Obj)} (C : ExcC X.K D) (hz : Zc cls d oe) (hf : ∃ vs, oe.data = .fields vs) : CallR (X.suite a ((a, oe) :: pn)) (.builtin "isinstance") (rIsE2 X.K D a cls d) := by
  intro pins s σ H xs us Q I r h
  obtain ⟨rfl, rfl, h⟩ := h
  exact call_isE C hz hf pins s σ H xs us Q I r h
end L2
namespace My
open PySem L2 Lf Evl
abbrev s_law_word : Stmt := top 19
theorem sc_law_word : FnScope ["_law_place", "_law_number", "error"] ["_law_place", "_law_number"] (defScope s_law_word) := ⟨rfl, rfl, rfl, by decide +kernel, rfl, by decide +kernel, by decide +kernel⟩
/-- the facts of the two error classes that the clauses ask -/
structure ErrT (K : PySem.W.Frag) (mg : Str → Option Value) (CN CA FE : Addr) : Prop where
  gF : mg "FoundryError" = some (.ref FE)
  gV : mg "ValueError" = none
  gN : mg "InvalidNumber" = some (.ref CN)
  aa : PySem.W.exmOne K (.ref CA) (.ref CA) = some true
  na : PySem.W.exmOne K (.ref CN) (.ref CA) = some false
  nn : PySem.W.exmOne K (.ref CN) (.ref CN) = some true
  k1 : PySem.W.kitOne K (.ref CA) (.ref FE) = some true
  k2 : PySem.W.kitOne K (.ref CA) (.type "ValueError") = some true
  ec : ExcC K CA
  xf : XfC K CN
  nv : PySem.W.findIn K (.ref CN) "value" = some none
def spWord : Sp := fun vs H Q _ => ∃ p n, vs = [p, n] ∧
  ((PlaceIs H p false ∧ ∀ t H', Ex H H' → H' t = some (.tup [.str "argument", .bl true]) → Q (.ref t) H') ∨
   (∃ t, PlaceIs H p true ∧ Kd H n t ∧ intV n = false ∧ ∀ t H', Ex H H' → H' t = some (.tup [.str "number", n]) → Q (.ref t) H'))
section
variable {P : Program} {w : World} {K : PySem.W.Frag} {mg : Str → Option Value} {base : Heap} {CN fI CA FE : Addr}
theorem ok_law_word (T : Txt P K mg CN fI CA FE) (R : ErrT K mg CN CA FE) (D : Df K mg "_law_word" s_law_word) (D_cell_of : DefOk P w K mg base (L2.CX P w) 4 "cell_of" ["place", "number"] (spCellOf CN CA)) :
    DefOk P w K mg base CX0 5 "_law_word" ["_law_place", "_law_number"] spWord := by
  refine D.ok sc_law_word (fun _ _ _ _ _ _ us hl => match us, hl with | [_, _], _ => rfl) (fun vs H Q E h => ?_) (fun f cdv A outer s H vs Q E hr h => ?_)
  · obtain ⟨a, ns, rfl, _⟩ := h
    rfl
  · obtain ⟨p, n, rfl, h⟩ := h
    refine ⟨_, pss_cons (ps_try_asM (tb := fun W => tDrop (tCallS (spCellOf CN CA) (WE W) (tCons (tVar 0) (tCons (tVar 1) tNil))))
        (l := [(.ref CA, 2, fun a cls d => tRet (tTup (tCons (tC (.str "argument")) (tCons (tAndV (tCB (rIsE2 K CA a cls d) (tCons (tVar 2) (tCons (tC (.ref FE)) tNil))) (tCB (rIsE2 K CA a cls d) (tCons (tVar 2) (tCons (tC (.ty "ValueError")) tNil)))) tNil)))),
               (.ref CN, 2, fun a cls d => tRet (tTup (tCons (tC (.str "number")) (tCons (tXf a cls d CN "value" (tVar 2)) tNil))))])
        (Wout := fun _ _ _ _ => False) rfl rfl sc_law_word.nd takes0
        (fun W pn xe tk _ => pss_one (ps_expr (pe_callDS D_cell_of (hr.mono (by decide)) (fun σ => passAt tk σ) (pa_cons (pv 0) (pa_cons (pv 1) pa_nil)))))
        (.cons (i := 2) rfl rfl ⟨rfl, by decide, .inl T.gA⟩ (fun a oe cls d pn hz hf => pss_one (ps_ret (pe_tup (pa_cons pe_str (pa_cons (pe_and (pe_callB (call_isE2 R.ec hz hf) (by rfl) T.n_isinstance (by decide +kernel) (pa_cons (pv 2) (pa_cons (pe_glob (by rfl) R.gF rfl) pa_nil))) (pe_one (pe_callB (call_isE2 R.ec hz hf) (by rfl) T.n_isinstance (by decide +kernel) (pa_cons (pv 2) (pa_cons (pe_bltn (v := .ty "ValueError") (by rfl) R.gV (by decide +kernel) rfl) pa_nil))))) pa_nil)))))
        (.cons (i := 2) rfl rfl ⟨rfl, by decide, .inl R.gN⟩ (fun a oe cls d pn hz hf => pss_one (ps_ret (pe_tup (pa_cons pe_str (pa_cons (pe_xf R.xf R.nv hz hf (pv 2)) pa_nil)))))
        .nil)))
      (pss_one (ps_ret (pe_tup (pa_cons pe_str (pa_cons pe_int pa_nil))))), ?_⟩
    rcases h with ⟨pl, q⟩ | ⟨t, pl, kn, hn, q⟩
    · refine ⟨_, rfl, _, rfl, _, _, rfl, .inl ⟨pl, true, R.aa, fun _ a ha => ?_, (fun z => by cases z)⟩⟩
      refine ⟨_, rfl, rfl, rfl, _, _, _, rfl, (fun u r => r), R.k1, _, rfl, if_so rfl ?_⟩
      refine ⟨_, rfl, rfl, rfl, _, _, _, rfl, (fun u r => r), R.k2, show 2 ≤ sizeLine by decide, fun t ht => ?_⟩
      exact q t _ (Ex.new ht) upd_same
    · refine ⟨_, rfl, _, rfl, _, _, rfl, .inr (.inl ⟨t, pl, kn, hn, fun d hd => ?_⟩)⟩
      refine ⟨false, R.na, (fun z => by cases z), fun _ => ?_⟩
      refine ⟨true, R.nn, fun _ a ha => ?_, (fun z => by cases z)⟩
      refine ⟨_, rfl, rfl, rfl, d, _, _, rfl, upd_same, rfl, show 2 ≤ sizeLine by decide, fun t ht => ?_⟩
      exact q t _ ((Ex.new hd).trans (Ex.new ht)) upd_same
end
end My
set_option maxHeartbeats 4000000
namespace My
open PySem L2 Lf Evl
abbrev s_law_odd : Stmt := top 20
theorem sc_law_odd : FnScope ["_law_place", "_law_step", "_law_offset", "_law_found"] ["_law_place"] (defScope s_law_odd) := ⟨rfl, rfl, rfl, by decide +kernel, rfl, by decide +kernel, by decide +kernel⟩
/-- what evaluates to something of which P holds, the heap growing -/
def EvP (te : TE) (σ : L2.St) (H : Hp) (P : V → Hp → Prop) : Prop := ∀ H1, Ex H H1 → ∀ Q : VK, (∀ v H2, Ex H1 H2 → P v H2 → Q v H2) → te σ H1 Q
def EvPs (ta : TA) (σ : L2.St) (H : Hp) (P : V → Hp → Prop) (n : Nat) : Prop := ∀ H1, Ex H H1 → ∀ Q : List V → Hp → Prop, (∀ vs H2, Ex H1 H2 → (∀ v ∈ vs, P v H2) → vs.length = n → Q vs H2) → ta σ H1 Q
def Mono (P : V → Hp → Prop) : Prop := ∀ v H H', Ex H H' → P v H → P v H'
section
variable {σ : L2.St} {H : Hp} {P : V → Hp → Prop} {te : TE} {ta tr : TA} {n : Nat}
theorem eps_nil : EvPs tNil σ H P 0 := fun H1 _ Q q => q [] H1 (Ex.refl H1) (fun v h => by cases h) rfl
theorem eps_cons (m : Mono P) (h : EvP te σ H P) (hr : EvPs tr σ H P n) : EvPs (tCons te tr) σ H P (n + 1) := fun H1 e Q q =>
  h H1 e _ fun v H2 e2 p => hr H2 (e.trans e2) _ fun vs H3 e3 ps hl => q (v :: vs) H3 (e2.trans e3) (fun u hu => by
    rcases List.mem_cons.mp hu with rfl | hu
    · exact m _ _ _ e3 p
    · exact ps u hu) (by rw [List.length_cons, hl])
end
theorem PlaceIs.mono {H H' : Hp} {v : V} {b : Bool} (e : Ex H H') (h : PlaceIs H v b) : PlaceIs H' v b := by
  cases h with
  | no k h => exact .no (k.same e) h
  | short e1 h => exact .short (e _ _ e1) h
  | two e1 kx ky => exact .two (e _ _ e1) (kx.same e) (ky.same e)
theorem _root_.Lf.Kd.chg {H : Hp} {v : V} {t : String} {l : Addr} {xs ys : List V} (h : H l = some (.lst xs)) (k : Kd H v t) : Kd (upd H l (.lst ys)) v t := by
  cases k with
  | non => exact .non
  | bl b => exact .bl b
  | int i => exact .int i
  | str x => exact .str x
  | @lst a zs e =>
    by_cases z : a = l
    · subst z
      exact .lst upd_same
    · exact .lst (by rw [upd_ne z]; exact e)
  | tup e => exact .tup (by rw [upd_ne (ne_of e h (by intro z; cases z))]; exact e)
  | dic e => exact .dic (by rw [upd_ne (ne_of e h (by intro z; cases z))]; exact e)
theorem PlaceIs.chg {H : Hp} {v : V} {b : Bool} {l : Addr} {xs ys : List V} (h : H l = some (.lst xs)) (k : PlaceIs H v b) : PlaceIs (upd H l (.lst ys)) v b := by
  cases k with
  | no k h1 => exact .no (k.chg h) h1
  | short e h1 => exact .short (by rw [upd_ne (ne_of e h (by intro z; cases z))]; exact e) h1
  | two e kx ky => exact .two (by rw [upd_ne (ne_of e h (by intro z; cases z))]; exact e) (kx.chg h) (ky.chg h)
abbrev NoPl : V → Hp → Prop := fun v H => PlaceIs H v false
theorem nopl_mono : Mono NoPl := fun _ _ _ e h => h.mono e
section
variable {σ : L2.St} {H : Hp} {te : TE} {ta : TA} {v x y : V} {vs : List V} {t u : String}
theorem np_val (h : Ev te σ H v) (k : Kd H v t) (ht : (t == "tuple") = false) : EvP te σ H NoPl := fun H1 e Q q => h H1 e _ fun H2 e2 => q v H2 e2 (.no (k.same (e.trans e2)) ht)
theorem np_tup (h : EvA ta σ H vs) (hl : vs.length ≠ 2) (hs : vs.length ≤ 1000) : EvP (tTup ta) σ H NoPl := fun H1 e Q q => h H1 e _ fun H2 e2 =>
  ⟨Nat.le_trans hs (by decide), fun p hp => q (.ref p) _ (e2.trans (Ex.new hp)) (.short upd_same hl)⟩
theorem np_two (h : EvA ta σ H [x, y]) (kx : Kd H x t) (ky : Kd H y u) (hv : (intV x && intV y) = false) : EvP (tTup ta) σ H NoPl := fun H1 e Q q => h H1 e _ fun H2 e2 =>
  ⟨show 2 ≤ sizeLine by decide, fun p hp => q (.ref p) _ (e2.trans (Ex.new hp)) (by
    have z := PlaceIs.two (H := upd H2 p (.tup [x, y])) (a := p) upd_same (kx.same ((e.trans e2).trans (Ex.new hp))) (ky.same ((e.trans e2).trans (Ex.new hp)))
    rw [hv] at z
    exact z)⟩
theorem np_lst (h : EvA ta σ H vs) (hs : vs.length ≤ 1000) : EvP (tLst ta) σ H NoPl := fun H1 e Q q => h H1 e _ fun H2 e2 =>
  ⟨Nat.le_trans hs (by decide), fun p hp => q (.ref p) _ (e2.trans (Ex.new hp)) (.no (.lst upd_same) (by decide))⟩
/-- ((x, y), z) -/
theorem np_deep {tb : TA} (h : EvA ta σ H vs) (hs : vs.length ≤ 1000) (hb : Ev te σ H y) (ky : Kd H y u) : EvP (tTup (tCons (tTup ta) (tCons te tNil))) σ H NoPl := fun H1 e Q q => h H1 e _ fun H2 e2 =>
  ⟨Nat.le_trans hs (by decide), fun p hp => hb _ ((e.trans e2).trans (Ex.new hp)) _ fun H3 e3 => ⟨show 2 ≤ sizeLine by decide, fun r hr => q (.ref r) _ ((e2.trans (Ex.new hp)).trans (e3.trans (Ex.new hr))) (by
    have z := PlaceIs.two (H := upd H3 r (.tup [.ref p, y])) (a := r) upd_same (Kd.tup (Ex.new hr _ _ (e3 _ _ upd_same))) (ky.same (((e.trans e2).trans (Ex.new hp)).trans (e3.trans (Ex.new hr))))
    exact z)⟩⟩
/-- {x: y} -/
theorem np_dict {tk tv : TE} {k : Int} (hk : Ev tk σ H (.int k)) (hv : Ev tv σ H y) : EvP (tDisp [(tk, tv)]) σ H NoPl := fun H1 e Q q p hp =>
  hk _ (e.trans (Ex.new hp)) _ fun H2 e2 => hv _ ((e.trans (Ex.new hp)).trans e2) _ fun H3 e3 => ⟨e3 _ _ (e2 _ _ upd_same), [(Sum.inl k, y)], rfl, show 1 ≤ 15 by decide,
    q (.ref p) _ (Ex.mut ((Ex.new hp).trans (e2.trans e3)) hp) (.no (.dic upd_same) (by decide))⟩
theorem ev_pow {i j : Int} (hc : CPow i j) : Ev (tOp (rI CPow fun i j => V.int (i ^ j.toNat)) (tC (.int i)) (tC (.int j))) σ H (.int (i ^ j.toNat)) := ev_op ev_c ev_c (rv_I hc)
end
section
variable {σ : L2.St} {H : Hp} {P : V → Hp → Prop} {ta : TA} {to : TE} {n i : Nat} {D : Ends} {tz : TS}
/-- x = [..], each of which P holds -/
theorem q_lstP (h : EvPs ta σ H P n) (m : Mono P) (hn : n ≤ 1000) (k : ∀ l xs H1, H l = none → Ex H H1 → H1 l = some (.lst xs) → (∀ v ∈ xs, P v H1) → xs.length = n → tz D (σ.set i (some (.ref l))) H1) : tSeq (tAsg (tLst ta) (gName i)) tz D σ H :=
  h H (Ex.refl H) _ fun xs H2 e2 ps hl => ⟨Nat.le_trans (by rw [hl]; exact hn) (show 1000 ≤ sizeLine by decide), fun l hl1 => k l xs _ (fresh_back e2 hl1) (e2.trans (Ex.new hl1)) upd_same (fun v hv => m _ _ _ (Ex.new hl1) (ps v hv)) hl⟩
/-- x.extend([..]) -/
theorem q_extP {K : PySem.W.Frag} {l : Addr} {xs : List V} (ho : Ev to σ H (.ref l)) (hL : H l = some (.lst xs)) (hx : xs.length ≤ 1000) (h : EvPs ta σ H P n) (m : Mono P) (hn : n ≤ 1000)
    (k : ∀ ys H1, Ex H H1 → (∀ v ∈ ys, P v H1) → ys.length = n → tz D σ (upd H1 l (.lst (xs ++ ys)))) : tSeq (tDrop (tBM K "list" rExtend to (tCons (tLst ta) tNil))) tz D σ H :=
  ho H (Ex.refl H) _ fun H1 e1 => ⟨.inl ⟨rfl, _, SqL.of (e1 _ _ hL)⟩, h H1 e1 _ fun ys H2 e2 ps hl => ⟨Nat.le_trans (by rw [hl]; exact hn) (show 1000 ≤ sizeLine by decide), fun b hb =>
    ⟨l, b, xs, ys, rfl, rfl, Ex.new hb _ _ (e2 _ _ (e1 _ _ hL)), upd_same, Nat.le_trans (by rw [hl]; omega) (show 2000 ≤ sizeLine by decide), k ys _ ((e1.trans e2).trans (Ex.new hb)) (fun v hv => m _ _ _ (Ex.new hb) (ps v hv)) hl⟩⟩⟩
end
theorem p30 : (10 : Int) ^ Int.toNat 30 = lim := by decide +kernel
theorem int30 : intV (.int ((10 : Int) ^ Int.toNat 30)) = false := by rw [p30]; decide +kernel
theorem int30n : intV (.int (-((10 : Int) ^ Int.toNat 30))) = false := by rw [p30]; decide +kernel
def spOdd : Sp := fun vs H Q _ => ∃ (p : Addr) (s o : Int), vs = [.ref p] ∧ H p = some (.tup [.int s, .int o]) ∧ ∀ l xs H', Ex H H' → H' l = some (.lst xs) → (∀ v ∈ xs, PlaceIs H' v false) → Q (.ref l) H'
section
variable {P : Program} {w : World} {K : PySem.W.Frag} {mg : Str → Option Value} {base : Heap} {CN fI CA FE : Addr}
theorem ok_law_odd (T : Txt P K mg CN fI CA FE) (D : Df K mg "_law_odd" s_law_odd) : DefOk P w K mg base CX0 1 "_law_odd" ["_law_place"] spOdd := by
  refine D.ok sc_law_odd (fun _ _ _ _ _ _ us hl => match us, hl with | [_], _ => rfl) (fun vs H Q E h => ?_) (fun f cdv A outer s H vs Q E hr h => ?_)
  · obtain ⟨p, s, o, rfl, _⟩ := h
    rfl
  · obtain ⟨p, s, o, rfl, hp, q⟩ := h
    refine ⟨_, (pss_cons (ps_asg (pv 0) (pg_tup (by rfl) (pgs_cons (pg_name (i := 1) sc_law_odd.nd rfl (Or.inl rfl)) (pgs_cons (pg_name (i := 2) sc_law_odd.nd rfl (Or.inl rfl)) pgs_nil))))
 (pss_cons (ps_set (i := 3) sc_law_odd.nd rfl (Or.inl rfl) (pe_lst (pa_cons (pe_tup (pa_cons (pv 1) pa_nil)) (pa_cons (pe_tup (pa_cons (pv 1) (pa_cons (pv 2) (pa_cons pe_int pa_nil)))) (pa_cons (pe_lst (pa_cons (pv 1) (pa_cons (pv 2) pa_nil))) (pa_cons (pe_tup (pa_cons (pv 1) (pa_cons pe_non pa_nil))) (pa_cons (pe_tup (pa_cons pe_str (pa_cons (pv 2) pa_nil))) (pa_cons (pe_tup (pa_cons pe_bl (pa_cons (pv 2) pa_nil))) (pa_cons (pe_tup (pa_cons (pv 1) (pa_cons pe_bl pa_nil))) pa_nil)))))))))
 (pss_cons (ps_expr (pe_bm PySem.F.plainAttrs_list PySem.F.slot_list_extend PySem.F.type_list_extend mt_extend (pv 3) (pa_cons (pe_lst (pa_cons (pe_tup (pa_cons (pe_op op_pow pe_int pe_int) (pa_cons (pv 2) pa_nil))) (pa_cons (pe_tup (pa_cons (pv 1) (pa_cons (pe_un un_neg (pe_op op_pow pe_int pe_int)) pa_nil))) (pa_cons (pe_tup (pa_cons (pe_tup (pa_cons (pv 1) (pa_cons (pv 2) pa_nil))) (pa_cons pe_int pa_nil))) (pa_cons (pe_tup pa_nil) (pa_cons pe_non (pa_cons pe_int (pa_cons pe_str (pa_cons pe_bl (pa_cons (pe_disp (pps_cons (pv 1) (pv 2) pps_nil) (by rfl) (by rfl) (fun z => by cases z) (by decide)) pa_nil)))))))))) pa_nil)))
 (pss_one (ps_ret (pv 3)))))), ?_⟩
    refine ⟨_, rfl, p, _, rfl, SqT.of hp, rfl, _, _, rfl, _, _, rfl, rfl, ?_⟩
    dsimp only
    refine q_lstP (n := 7) (P := NoPl) ?ha nopl_mono (by decide) fun l xs H1 hl e1 hL ps hn => ?_
    case ha =>
      have a1 : Ev (tVar 1) [some (.ref p), some (.int s), some (.int o), none] H (.int s) := ev_var rfl
      have a2 : Ev (tVar 2) [some (.ref p), some (.int s), some (.int o), none] H (.int o) := ev_var rfl
      refine eps_cons nopl_mono (np_tup (ea_cons a1 ea_nil) (by simp) (by simp)) (eps_cons nopl_mono (np_tup (ea_cons a1 (ea_cons a2 (ea_cons ev_c ea_nil))) (by simp) (by simp))
        (eps_cons nopl_mono (np_lst (ea_cons a1 (ea_cons a2 ea_nil)) (by simp)) (eps_cons nopl_mono (np_two (ea_cons a1 (ea_cons ev_c ea_nil)) (.int s) .non (Bool.and_false _))
        (eps_cons nopl_mono (np_two (ea_cons ev_c (ea_cons a2 ea_nil)) (.str _) (.int o) rfl) (eps_cons nopl_mono (np_two (ea_cons ev_c (ea_cons a2 ea_nil)) (.bl _) (.int o) rfl)
        (eps_cons nopl_mono (np_two (ea_cons a1 (ea_cons ev_c ea_nil)) (.int s) (.bl _) (Bool.and_false _)) eps_nil))))))
    refine q_extP (n := 9) (P := NoPl) (ev_var rfl) hL (by rw [hn]; decide) ?hb nopl_mono (by decide) fun ys H2 e2 qs hm => ?_
    case hb =>
      have g1 : Ev (tVar 1) [some (.ref p), some (.int s), some (.int o), some (.ref l)] H1 (.int s) := ev_var rfl
      have g2 : Ev (tVar 2) [some (.ref p), some (.int s), some (.int o), some (.ref l)] H1 (.int o) := ev_var rfl
      refine eps_cons nopl_mono (np_two (ea_cons (ev_pow (cpow 30 (by decide))) (ea_cons g2 ea_nil)) (.int _) (.int o) (by rw [int30]; rfl)) (eps_cons nopl_mono (np_two (ea_cons g1 (ea_cons (ev_un (ev_pow (cpow 30 (by decide))) ru_neg) ea_nil)) (.int s) (.int _) (by rw [int30n]; exact Bool.and_false _))
        (eps_cons nopl_mono (np_deep (tb := tNil) (ea_cons g1 (ea_cons g2 ea_nil)) (by simp) ev_c (.int 0)) (eps_cons nopl_mono (np_tup ea_nil (by decide) (by decide)) (eps_cons nopl_mono (np_val ev_c .non (by decide)) (eps_cons nopl_mono (np_val ev_c (.int 3) (by decide))
        (eps_cons nopl_mono (np_val ev_c (.str _) (by decide)) (eps_cons nopl_mono (np_val ev_c (.bl true) (by decide)) (eps_cons nopl_mono (np_dict g1 g2) eps_nil))))))))
    refine ⟨_, rfl, q l (xs ++ ys) _ ?_ upd_same ?_⟩
    · exact Ex.mut (e1.trans e2) hl
    · intro v hv
      refine PlaceIs.chg (e2 _ _ hL) ?_
      rcases List.mem_append.mp hv with hv | hv
      · exact (ps v hv).mono e2
      · exact qs v hv
end
end My
set_option maxHeartbeats 4000000
namespace My
open PySem L2 Lf Evl
abbrev s_law_one : Stmt := top 21
theorem sc_law_one : FnScope ["_law_cell", "_law_dice_here", "_law_place", "_law_number", "_law_found", "_law_value"] ["_law_cell"] (defScope s_law_one) := ⟨rfl, rfl, rfl, by decide +kernel, rfl, by decide +kernel, by decide +kernel⟩
abbrev s_law : Stmt := top 22
theorem sc_law : FnScope ["_law_script", "_law_cell", "_law_top"] ["_law_script"] (defScope s_law) := ⟨rfl, rfl, rfl, by decide +kernel, rfl, by decide +kernel, by decide +kernel⟩
def spOne : Sp := fun vs H Q _ => ∃ c : Int, vs = [.int c] ∧ ∀ H', Ex H H' → Q (.bl true) H'
def spLaw (K : PySem.W.Frag) : Sp := fun vs H Q _ => ∃ (a : Addr) (ns : List Int), vs = [.ref a] ∧ SqL K H a (ns.map V.int) ∧ ∀ H', Q (.bl true) H'
theorem int18 {z : Int} (h1 : -1000000000000000001 < z) (h2 : z < 1000000000000000002) : intV (.int z) = true := by
  show (decide (-lim < z) && decide (z < lim)) = true
  rw [Bool.and_eq_true]
  exact ⟨decide_eq_true (by show -1000000000000000000000000000000 < z; omega), decide_eq_true (by show z < 1000000000000000000000000000000; omega)⟩
/-- what the numbers' loop walks: a datum that is no integer -/
structure OddN (K : PySem.W.Frag) (H : Hp) (v : V) : Prop where
  kd : ∃ t, Kd H v t
  nv : intV v = false
  dt : ∃ d, Dp K H v d ∧ SeqAt.shaped (.tuple [.str "number", d]) = true
theorem dp_same {K : PySem.W.Frag} {H H' : Hp} (e : Ex H H') : ∀ (d : PyData) (v : V), Dp K H v d → Dp K H' v d
  | .none, _, h => by cases h; exact .non
  | .bool _, _, h => by cases h; exact .bl _
  | .int _, _, h => by cases h; exact .int _
  | .str _, _, h => by cases h; exact .str _
  | .list ds, _, h => by
    cases h with
    | lst q a => exact .lst (ex_l e q) (all e ds _ a)
  | .tuple ds, _, h => by
    cases h with
    | tup q a => exact .tup (ex_t e q) (all e ds _ a)
  | .dict _, _, h => by cases h
where
  all {K : PySem.W.Frag} {H H' : Hp} (e : Ex H H') : ∀ (ds : List PyData) (vs : List V), DpAll K H vs ds → DpAll K H' vs ds
  | [], _, h => by cases h; exact .nil
  | d :: ds, _, h => by
    cases h with
    | cons a b => exact .cons (dp_same e d _ a) (all e ds _ b)
theorem OddN.mono {K : PySem.W.Frag} : Mono (fun v H => OddN K H v) := fun v H H' e h => by
  obtain ⟨⟨t, k⟩, n, d, hd, hs⟩ := h
  exact ⟨⟨t, k.same e⟩, n, d, dp_same e d v hd, hs⟩
section
variable {σ : L2.St} {H : Hp} {K : PySem.W.Frag} {te : TE} {ta : TA} {v : V} {t : String} {d : PyData}
theorem on_val (h : Ev te σ H v) (k : Kd H v t) (hv : intV v = false) (hd : Dp K H v d) (hs : SeqAt.shaped (.tuple [.str "number", d]) = true) : EvP te σ H (fun v H => OddN K H v) := fun H1 e Q q => h H1 e _ fun H2 e2 => q v H2 e2 ⟨⟨t, k.same (e.trans e2)⟩, hv, d, dp_same (e.trans e2) d v hd, hs⟩
theorem on_tup (h : EvA ta σ H [.int 1]) : EvP (tTup ta) σ H (fun v H => OddN K H v) := fun H1 e Q q => h H1 e _ fun H2 e2 =>
  ⟨show 1 ≤ sizeLine by decide, fun p hp => q (.ref p) _ (e2.trans (Ex.new hp)) ⟨⟨_, .tup upd_same⟩, rfl, .tuple [.int 1], .tup (SqT.of upd_same) (.cons (.int 1) .nil), by decide +kernel⟩⟩
end
/-- for x in (..), each of which P holds -/
theorem q_forTP {K : PySem.W.Frag} {σ : L2.St} {H : Hp} {P : V → Hp → Prop} {ta : TA} {n : Nat} {D : Ends} {g : TG} {tb tz : TS} (h : EvPs ta σ H P n) (m : Mono P) (hn : n ≤ 1000)
    (k : ∀ tp ys H1, Ex H H1 → H1 tp = some (.tup ys) → (∀ v ∈ ys, P v H1) → ys.length = n → tFor (fun _ H R => R (Itt K tp) H) g tb { D with nx := tz D } σ H1) : tSeq (tFor (iTup K (tTup ta)) g tb) tz D σ H :=
  h H (Ex.refl H) _ fun ys H2 e2 ps hl => ⟨Nat.le_trans (by rw [hl]; exact hn) (show 1000 ≤ sizeLine by decide), fun tp htp => ⟨tp, rfl, ⟨_, SqT.of upd_same⟩, k tp ys _ (e2.trans (Ex.new htp)) upd_same (fun v hv => m _ _ _ (Ex.new htp) (ps v hv)) hl⟩⟩
section
variable {P : Program} {w : World} {K : PySem.W.Frag} {mg : Str → Option Value} {base : Heap} {CN fI CA FE : Addr}
theorem ok_law_one (T : Txt P K mg CN fI CA FE) (D : Df K mg "_law_one" s_law_one) (D_law_dice : DefOk P w K mg base CX0 1 "_law_dice" ["_law_cell"] spDice) (D_law_whole : DefOk P w K mg base CX0 3 "_law_whole" ["_law_dice_here"] (spDraw 1000000000000000000))
    (D_cell_of : DefOk P w K mg base (L2.CX P w) 4 "cell_of" ["place", "number"] (spCellOf CN CA)) (D_is_place : DefOk P w K mg base CX0 3 "is_place" ["value"] spIsPlace) (D_law_is_count : DefOk P w K mg base CX0 1 "_law_is_count" ["_law_value"] spIsNumber)
    (D_law_odd : DefOk P w K mg base CX0 1 "_law_odd" ["_law_place"] spOdd) (D_law_word : DefOk P w K mg base CX0 5 "_law_word" ["_law_place", "_law_number"] spWord) : DefOk P w K mg base CX0 6 "_law_one" ["_law_cell"] spOne := by
  refine D.ok sc_law_one (fun _ _ _ _ _ _ us hl => match us, hl with | [_], _ => rfl) (fun vs H Q E h => ?_) (fun f cdv A outer s H vs Q E hr h => ?_)
  · obtain ⟨c, rfl, _⟩ := h
    rfl
  · obtain ⟨c, rfl, q⟩ := h
    refine ⟨_, (pss_cons (ps_set (i := 1) sc_law_one.nd rfl (Or.inl rfl) (pe_callD D_law_dice (hr.mono (by decide)) pass0 (pa_cons (pv 0) pa_nil)))
 (pss_cons (ps_par (by rfl) sc_law_one.nd (i := 2) (j := 3) rfl rfl (by decide) rfl rfl (pa_cons (pe_tup (pa_cons (pe_callD D_law_whole (hr.mono (by decide)) pass0 (pa_cons (pv 1) pa_nil)) (pa_cons (pe_callD D_law_whole (hr.mono (by decide)) pass0 (pa_cons (pv 1) pa_nil)) pa_nil))) (pa_cons (pe_callD D_law_whole (hr.mono (by decide)) pass0 (pa_cons (pv 1) pa_nil)) pa_nil)) (by rfl))
 (pss_cons (ps_set (i := 4) sc_law_one.nd rfl (Or.inl rfl) (pe_callD D_cell_of (hr.mono (by decide)) passL (pa_cons (pv 2) (pa_cons (pv 3) pa_nil))))
 (pss_cons (ps_if (PW.pt (pw_or (pt_cmpR op_notBl (pe_callD D_is_place (hr.mono (by decide)) pass0 (pa_cons (pv 2) pa_nil)) pe_bl (nomark _)) (pw_or (pt_not (pt_val (pe_callD D_law_is_count (hr.mono (by decide)) pass0 (pa_cons (pv 4) pa_nil)))) (pw_or1 (pt_cmpR op_ne (pv 4) (pe_op op_add (pe_op op_mulW (pe_ix ix_tup (pv 2) pe_int (fun _ _ => rfl)) (pv 3)) (pe_ix ix_tup (pv 2) pe_int (fun _ _ => rfl))) (nomark _))))))
 (pss_one (ps_ret pe_bl))
 pss_nil)
 (pss_cons (ps_if (PW.pt (pw_or (pt_cmpR op_ne (pe_callD D_cell_of (hr.mono (by decide)) passL (pa_cons (pv 2) (pa_cons (pe_op op_add (pv 3) pe_int) pa_nil))) (pe_op op_add (pv 4) (pe_ix ix_tup (pv 2) pe_int (fun _ _ => rfl))) (nomark _)) (pw_or1 (pt_cmpR op_ne (pe_callD D_cell_of (hr.mono (by decide)) passL (pa_cons (pe_tup (pa_cons (pe_ix ix_tup (pv 2) pe_int (fun _ _ => rfl)) (pa_cons (pe_op op_add (pe_ix ix_tup (pv 2) pe_int (fun _ _ => rfl)) pe_int) pa_nil))) (pa_cons (pv 3) pa_nil))) (pe_op op_add (pv 4) pe_int) (nomark _)))))
 (pss_one (ps_ret pe_bl))
 pss_nil)
 (pss_cons (ps_for PassesOwn.never rfl (pi_list (pe_callD D_law_odd (hr.mono (by decide)) pass0 (pa_cons (pv 2) pa_nil))) (pg_name (i := 5) sc_law_one.nd rfl (Or.inl rfl))
 (pss_one (ps_if (PW.pt (pw_or (pt_cmpR op_notBl (pe_callD D_is_place (hr.mono (by decide)) pass0 (pa_cons (pv 5) pa_nil)) pe_bl (nomark _)) (pw_or1 (pt_cmpR (op_neD hr.units) (pe_callD D_law_word (hr.mono (by decide)) pass0 (pa_cons (pv 5) (pa_cons pe_str pa_nil))) (pe_tup (pa_cons pe_str (pa_cons pe_bl pa_nil))) (nomark _)))))
 (pss_one (ps_ret pe_bl))
 pss_nil)))
 (pss_cons (ps_for PassesOwn.never rfl (pi_tup (pe_tup (pa_cons pe_non (pa_cons pe_bl (pa_cons pe_str (pa_cons (pe_tup (pa_cons pe_int pa_nil)) (pa_cons (pe_op op_pow pe_int pe_int) (pa_cons (pe_un un_neg (pe_op op_pow pe_int pe_int)) pa_nil)))))))) (pg_name (i := 5) sc_law_one.nd rfl (Or.inl rfl))
 (pss_one (ps_if (pt_cmpR (op_neD hr.units) (pe_callD D_law_word (hr.mono (by decide)) pass0 (pa_cons (pv 2) (pa_cons (pv 5) pa_nil))) (pe_tup (pa_cons pe_str (pa_cons (pv 5) pa_nil))) (nomark _))
 (pss_one (ps_ret pe_bl))
 pss_nil)))
 (pss_one (ps_ret pe_bl))))))))), ?_⟩
    -- the die, the three numbers
    refine ⟨_, rfl, c, rfl, fun d x0 hd0 hx0 => ?_⟩
    refine ⟨_, rfl, d, x0, rfl, upd_same, hx0, fun st x1 s1 s2 hx1 => ?_⟩
    refine ⟨_, rfl, d, x1, rfl, upd_same, hx1, fun of x2 o1 o2 hx2 => ?_⟩
    refine ⟨show 2 ≤ sizeLine by decide, fun p hp => ?_⟩
    rw [upd_upd, upd_upd] at hp ⊢
    have npd : d ≠ p := ne_of_none (H := upd H d (.lst x2)) upd_same hp
    refine ⟨_, rfl, d, x2, rfl, by rw [upd_ne npd, upd_same], hx2, fun nu x3 n1 n2 hx3 => ⟨_, _, rfl, ?_⟩⟩
    obtain ⟨HH, hHH⟩ : ∃ HH, HH = upd (upd (upd H d (.lst x2)) p (.tup [.int st, .int of])) d (.lst x3) := ⟨_, rfl⟩
    rw [← hHH]
    have eH : Ex H HH := by
      rw [hHH]
      refine Ex.mut ((Ex.mut (Ex.refl H) hd0).trans (Ex.new hp)) hd0
    have hP : HH p = some (.tup [.int st, .int of]) := by rw [hHH, upd_ne npd.symm, upd_same]
    have is1 : intV (.int st) = true := int18 (by omega) (by omega)
    have io1 : intV (.int of) = true := int18 (by omega) (by omega)
    have in1 : intV (.int nu) = true := int18 (by omega) (by omega)
    have io2 : intV (.int (of + 1)) = true := int18 (by omega) (by omega)
    have in2 : intV (.int (nu + 1)) = true := int18 (by omega) (by omega)
    have pl : PlaceIs HH (.ref p) true := by
      have z := PlaceIs.two hP (.int st) (.int of)
      rw [is1, io1] at z
      exact z
    clear hHH
    -- the cell
    refine ⟨_, rfl, _, rfl, _, _, rfl, .inr (.inr ⟨p, st, of, nu, rfl, hP, rfl, is1, io1, in1, ?_⟩)⟩
    refine ⟨_, rfl, _, _, rfl, pl, _, _, rfl, rfl, _, rfl, if_no rfl ?_⟩
    refine ⟨_, rfl, _, _, rfl, .int _, _, rfl, if_no rfl ?_⟩
    refine ⟨_, rfl, _, rfl, _, _, _, _, rfl, rfl, SqT.of hP, rfl, _, rfl, _, _, rfl, rfl, wide_mul (lim_nat is1) (lim_nat in1) (by decide) (by decide) (by decide), _, rfl, _, _, _, _, rfl, rfl, SqT.of hP, rfl, _, _, rfl, rfl, rfl, _, rfl, if_no (by simp) ?_⟩
    refine ⟨_, rfl, _, rfl, _, _, rfl, rfl, _, _, rfl, .inr (.inr ⟨p, st, of, nu + 1, rfl, hP, rfl, is1, io1, in2, ?_⟩)⟩
    refine ⟨_, rfl, _, rfl, _, _, _, _, rfl, rfl, SqT.of hP, rfl, _, _, rfl, rfl, rfl, _, rfl, if_no ?_ ?_⟩
    · have e : st * (nu + 1) + of = st * nu + of + st := by rw [Int.mul_add, Int.mul_one]; omega
      rw [e]
      simp
    refine ⟨_, rfl, _, _, _, _, rfl, rfl, SqT.of hP, rfl, _, rfl, _, _, _, _, rfl, rfl, SqT.of hP, rfl, _, _, rfl, rfl, show 2 ≤ sizeLine by decide, fun p2 hp2 => ?_⟩
    refine ⟨_, rfl, _, _, rfl, .inr (.inr ⟨p2, st, of + 1, nu, rfl, upd_same, rfl, is1, io2, in1, ?_⟩)⟩
    refine ⟨_, rfl, _, _, rfl, rfl, rfl, _, rfl, if_no ?_ ?_⟩
    · have e : st * nu + (of + 1) = st * nu + of + 1 := by omega
      rw [e]
      simp
    -- the odd values
    refine ⟨_, rfl, p, st, of, rfl, Ex.new hp2 _ _ hP, fun l xs H2 e2 hl hx => ?_⟩
    have hP2 := e2 _ _ (Ex.new hp2 _ _ hP)
    refine ⟨l, rfl, ⟨_, SqL.of hl⟩, for_list (K := K) (a := l) (xs := xs) (fun i σ H' => Ex H2 H' ∧ ∃ v : Option V, σ = [some (.int c), some (.ref d), some (.ref p), some (.int nu), some (.int (st * nu + of)), v])
      ⟨Ex.refl _, none, rfl⟩ (fun i σ H' _ ⟨e, _⟩ => SqL.of (e _ _ hl)) ?_ ?_⟩
    · rintro i y σ H' hi ⟨e3, v, rfl⟩
      have py : PlaceIs H' y false := (hx y (List.mem_of_getElem? hi)).mono e3
      refine ⟨_, rfl, _, _, rfl, py, _, _, rfl, rfl, _, rfl, if_no rfl ?_⟩
      refine ⟨_, rfl, _, _, rfl, .inl ⟨py, fun t H4 e4 ht => ?_⟩⟩
      refine ⟨show 2 ≤ sizeLine by decide, fun u hu => ?_⟩
      refine ⟨.tuple [.str "argument", .bool true], .tuple [.str "argument", .bool true], .tup (SqT.of (Ex.new hu _ _ ht)) (.cons (.str _) (.cons (.bl _) .nil)), .tup (SqT.of upd_same) (.cons (.str _) (.cons (.bl _) .nil)), by decide +kernel, by decide +kernel, _, rfl, ?_⟩
      refine if_no (by decide +kernel) ?_
      exact ⟨(e3.trans e4).trans (Ex.new hu), _, rfl⟩
    · rintro σ H' ⟨e3, v, rfl⟩
      -- the odd numbers
      dsimp only
      refine q_forTP (n := 6) (P := fun v H => OddN K H v) ?hq OddN.mono (by decide) fun tp ys H3 e4 htp ps hn => ?_
      case hq =>
        exact eps_cons OddN.mono (on_val (K := K) (d := .none) ev_c .non rfl .non (by decide +kernel)) (eps_cons OddN.mono (on_val (d := .bool true) ev_c (.bl true) rfl (.bl true) (by decide +kernel)) (eps_cons OddN.mono (on_val (d := .str "1") ev_c (.str _) rfl (.str _) (by decide +kernel))
          (eps_cons OddN.mono (on_tup (ea_cons ev_c ea_nil)) (eps_cons OddN.mono (on_val (d := .int ((10 : Int) ^ Int.toNat 30)) (ev_pow (cpow 30 (by decide))) (.int _) int30 (.int _) (by decide +kernel)) (eps_cons OddN.mono (on_val (d := .int (-((10 : Int) ^ Int.toNat 30))) (ev_un (ev_pow (cpow 30 (by decide))) ru_neg) (.int _) int30n (.int _) (by decide +kernel)) eps_nil)))))
      refine for_tup (K := K) (a := tp) (xs := ys) (fun i σ H5 => Ex H3 H5 ∧ ∃ v : Option V, σ = [some (.int c), some (.ref d), some (.ref p), some (.int nu), some (.int (st * nu + of)), v])
        ⟨Ex.refl _, v, rfl⟩ (fun i σ H5 _ ⟨e, _⟩ => SqT.of (e _ _ htp)) ?_ ?_
      · rintro i y σ H5 hi ⟨e5, v, rfl⟩
        obtain ⟨⟨ty, ky⟩, ny, dd, hdd, hsd⟩ := OddN.mono _ _ _ e5 (ps y (List.mem_of_getElem? hi))
        have pl5 : PlaceIs H5 (.ref p) true := (((pl.mono (Ex.new hp2)).mono e2).mono e3).mono (e4.trans e5)
        refine ⟨_, rfl, _, rfl, _, _, rfl, .inr ⟨ty, pl5, ky, ny, fun t H6 e6 ht => ?_⟩⟩
        refine ⟨_, rfl, show 2 ≤ sizeLine by decide, fun u hu => ?_⟩
        have hd6 : Dp K (upd H6 u (.tup [.str "number", y])) y dd := dp_same (e6.trans (Ex.new hu)) dd y hdd
        refine ⟨.tuple [.str "number", dd], .tuple [.str "number", dd], .tup (SqT.of (Ex.new hu _ _ ht)) (.cons (.str _) (.cons hd6 .nil)), .tup (SqT.of upd_same) (.cons (.str _) (.cons hd6 .nil)), hsd, hsd, _, rfl, ?_⟩
        refine if_no (by rw [SeqAt.eqv_refl _ (SeqAt.canLay_of_shaped hsd)]; rfl) ?_
        exact ⟨(e5.trans e6).trans (Ex.new hu), _, rfl⟩
      · rintro σ H5 ⟨e5, v, rfl⟩
        exact q _ ((((eH.trans (Ex.new hp2)).trans e2).trans e3).trans (e4.trans e5))
end
end My
namespace My
open PySem L2 Lf Evl
section
variable {P : Program} {w : World} {K : PySem.W.Frag} {mg : Str → Option Value} {base : Heap} {CN fI CA FE : Addr}
theorem top30 : (10 : Int) ^ Int.toNat 30 - 1 = 999999999999999999999999999999 := by decide +kernel
theorem ok_law {f : Addr} {fd : FuncData} (T : Txt P K mg CN fI CA FE) (D : Fun K "law" "law" s_law f fd) (D_law_cells : DefOk P w K mg base CX0 1 "_law_cells" ["_law_script", "_law_most"] (spCells K)) (D_law_one : DefOk P w K mg base CX0 6 "_law_one" ["_law_cell"] spOne)
    (D_cell_of : DefOk P w K mg base (L2.CX P w) 4 "cell_of" ["place", "number"] (spCellOf CN CA)) (D_is_place : DefOk P w K mg base CX0 3 "is_place" ["value"] spIsPlace) : FnOk P w K mg base CX0 7 f fd ["_law_script"] (spLaw K) := by
  refine D.ok sc_law (fun vs H Q E h => ?_) (fun cdv A outer s H vs Q E hr h => ?_)
  · obtain ⟨a, ns, rfl, _⟩ := h
    rfl
  · obtain ⟨a, ns, rfl, hS, q⟩ := h
    refine ⟨_, (pss_cons (ps_for PassesOwn.never rfl (pi_list (pe_callD D_law_cells (hr.mono (by decide)) pass0 (pa_cons (pv 0) (pa_cons pe_int pa_nil)))) (pg_name (i := 1) sc_law.nd rfl (Or.inl rfl))
 (pss_one (ps_if (pt_not (pt_val (pe_callD D_law_one (hr.mono (by decide)) pass0 (pa_cons (pv 1) pa_nil))))
 (pss_one (ps_ret pe_bl))
 pss_nil)))
 (pss_cons (ps_set (i := 2) sc_law.nd rfl (Or.inl rfl) (pe_op op_sub (pe_op op_pow pe_int pe_int) pe_int))
 (pss_cons (ps_if (PW.pt (pw_or (pt_cmpR op_notBl (pe_callD D_is_place (hr.mono (by decide)) pass0 (pa_cons (pe_tup (pa_cons (pv 2) (pa_cons (pe_un un_neg (pv 2)) pa_nil))) pa_nil)) pe_bl (nomark _)) (pw_or1 (pt_cmpR op_ne (pe_callD D_cell_of (hr.mono (by decide)) passL (pa_cons (pe_tup (pa_cons (pv 2) (pa_cons (pe_un un_neg (pv 2)) pa_nil))) (pa_cons (pv 2) pa_nil))) (pe_op op_sub (pe_op op_mulW (pv 2) (pv 2)) (pv 2)) (nomark _)))))
 (pss_one (ps_ret pe_bl))
 pss_nil)
 (pss_one (ps_ret (pe_and (pe_cmpR op_eq (pe_callD D_cell_of (hr.mono (by decide)) passL (pa_cons (pe_tup (pa_cons (pe_un un_neg pe_int) (pa_cons pe_int pa_nil))) (pa_cons (pe_un un_neg pe_int) pa_nil))) pe_int (nomark _)) (pe_one (pe_cmpR op_isBl (pe_callD D_is_place (hr.mono (by decide)) pass0 (pa_cons (pe_tup (pa_cons pe_int (pa_cons pe_int pa_nil))) pa_nil)) pe_bl (nomark _))))))))), ?_⟩
    refine ⟨_, rfl, a, ns, rfl, hS, fun l cs H1 e1 hl => ?_⟩
    refine ⟨l, rfl, ⟨_, SqL.of hl⟩, for_list (K := K) (a := l) (xs := cs.map V.int) (fun i σ H' => Ex H1 H' ∧ ∃ v : Option V, σ = [some (.ref a), v, none]) ⟨Ex.refl _, none, rfl⟩ (fun i σ H' _ ⟨e, _⟩ => SqL.of (e _ _ hl)) ?_ ?_⟩
    · rintro i y σ H' hi ⟨e2, v, rfl⟩
      obtain ⟨z, rfl⟩ : ∃ z, y = V.int z := by
        rw [List.getElem?_map] at hi
        cases e : cs[i]? with
        | none => rw [e] at hi; cases hi
        | some z => rw [e] at hi; exact ⟨z, (Option.some.inj hi).symm⟩
      refine ⟨_, rfl, z, rfl, fun H3 e3 => ⟨_, rfl, if_no rfl ⟨e2.trans e3, _, rfl⟩⟩⟩
    · rintro σ H2 ⟨e2, v, rfl⟩
      have i1 : intV (.int 999999999999999999999999999999) = true := by decide +kernel
      have i2 : intV (.int (-999999999999999999999999999999)) = true := by decide +kernel
      refine ⟨_, _, rfl, rfl, cpow 30 (by decide), _, _, rfl, rfl, ?_⟩
      show tSeq _ _ _ [some (.ref a), v, some (.int ((10 : Int) ^ Int.toNat 30 - 1))] H2
      rw [top30]
      refine ⟨_, rfl, _, rfl, _, rfl, show 2 ≤ sizeLine by decide, fun p1 hp1 => ?_⟩
      have pl1 : PlaceIs (upd H2 p1 (.tup [.int 999999999999999999999999999999, .int (-999999999999999999999999999999)])) (.ref p1) true := by
        have z := PlaceIs.two (H := upd H2 p1 (.tup [.int 999999999999999999999999999999, .int (-999999999999999999999999999999)])) (a := p1) upd_same (.int _) (.int _)
        rw [i1, i2] at z
        exact z
      refine ⟨_, _, rfl, pl1, _, _, rfl, rfl, _, rfl, if_no rfl ?_⟩
      refine ⟨_, rfl, _, rfl, _, rfl, show 2 ≤ sizeLine by decide, fun p2 hp2 => ?_⟩
      refine ⟨_, rfl, _, _, rfl, .inr (.inr ⟨p2, _, _, _, rfl, upd_same, rfl, i1, i2, i1, ?_⟩)⟩
      refine ⟨_, rfl, _, rfl, _, _, rfl, rfl, wide_mul (lim_nat i1) (lim_nat i1) (by decide) (by decide) (by decide), _, rfl, _, _, rfl, rfl, rfl, _, rfl, if_no ?_ ?_⟩
      · rw [decide_eq_true (by congr 1)]
        rfl
      refine ⟨_, rfl, show 2 ≤ sizeLine by decide, fun p3 hp3 => ?_⟩
      refine ⟨_, rfl, _, _, rfl, .inr (.inr ⟨p3, _, _, _, rfl, upd_same, rfl, by decide +kernel, by decide +kernel, by decide +kernel, ?_⟩)⟩
      refine ⟨rfl, _, rfl, if_so (by decide) ?_⟩
      refine ⟨show 2 ≤ sizeLine by decide, fun p4 hp4 => ?_⟩
      have pl4 : ∀ H', PlaceIs (upd H' p4 (.tup [.int 0, .int 0])) (.ref p4) true := fun H' => by
        have z := PlaceIs.two (H := upd H' p4 (.tup [.int 0, .int 0])) (a := p4) upd_same (.int _) (.int _)
        have i0 : intV (.int 0) = true := by decide +kernel
        rw [i0] at z
        exact z
      refine ⟨_, _, rfl, pl4 _, _, _, rfl, rfl, ?_⟩
      exact q _
end
end My
set_option maxHeartbeats 8000000
namespace My
open PySem L2 Lf Evl
abbrev s_num : Stmt := inClass (top 3) 0
theorem fld_value : PySem.LfX.FldOk "value" := ⟨by decide +kernel, by decide +kernel, by decide +kernel, by decide +kernel, fun _ _ _ _ _ _ _ _ _ _ _ _ _ => .of_eq rfl⟩
theorem all_mk {P : Program} {w : World} {K : PySem.W.Frag} {h : Heap} {mg : Str → Option Value} {fa CN fI CA FE : Addr} (X : K.In h) (G : h.Ns mainGlobals mg) (hfa : mg "law" = some (.ref fa))
    {f0 : Addr} {od0 an0 : Option Addr} {sl0 : Array (Option Value)} {oc0 kV0 dc0 pm0 cd0 ct0 : Value}
    (a0 : PySem.W.nsIn K mainGlobals "is_number" = some (some (.ref f0))) (l0 : K.lookup f0 = some ⟨oc0, od0, .func (PySem.W.fnOf "is_number" "is_number" (defArgs s_is_number) (defBody s_is_number) (defScope s_is_number) .none kV0 dc0 pm0 an0 cd0 ct0), sl0⟩) (c0 : PySem.W.codeIn K cd0 "is_number" = true) (k0 : PySem.W.keepIn K (.ref f0) = true)
    {f1 : Addr} {od1 an1 : Option Addr} {sl1 : Array (Option Value)} {oc1 kV1 dc1 pm1 cd1 ct1 : Value}
    (a1 : PySem.W.nsIn K mainGlobals "is_integer" = some (some (.ref f1))) (l1 : K.lookup f1 = some ⟨oc1, od1, .func (PySem.W.fnOf "is_integer" "is_integer" (defArgs s_is_integer) (defBody s_is_integer) (defScope s_is_integer) .none kV1 dc1 pm1 an1 cd1 ct1), sl1⟩) (c1 : PySem.W.codeIn K cd1 "is_integer" = true) (k1 : PySem.W.keepIn K (.ref f1) = true)
    {f2 : Addr} {od2 an2 : Option Addr} {sl2 : Array (Option Value)} {oc2 kV2 dc2 pm2 cd2 ct2 : Value}
    (a2 : PySem.W.nsIn K mainGlobals "require_integer" = some (some (.ref f2))) (l2 : K.lookup f2 = some ⟨oc2, od2, .func (PySem.W.fnOf "require_integer" "require_integer" (defArgs s_require_integer) (defBody s_require_integer) (defScope s_require_integer) .none kV2 dc2 pm2 an2 cd2 ct2), sl2⟩) (c2 : PySem.W.codeIn K cd2 "require_integer" = true) (k2 : PySem.W.keepIn K (.ref f2) = true)
    {f3 : Addr} {od3 an3 : Option Addr} {sl3 : Array (Option Value)} {oc3 kV3 dc3 pm3 cd3 ct3 : Value}
    (a3 : PySem.W.nsIn K mainGlobals "is_place" = some (some (.ref f3))) (l3 : K.lookup f3 = some ⟨oc3, od3, .func (PySem.W.fnOf "is_place" "is_place" (defArgs s_is_place) (defBody s_is_place) (defScope s_is_place) .none kV3 dc3 pm3 an3 cd3 ct3), sl3⟩) (c3 : PySem.W.codeIn K cd3 "is_place" = true) (k3 : PySem.W.keepIn K (.ref f3) = true)
    {f4 : Addr} {od4 an4 : Option Addr} {sl4 : Array (Option Value)} {oc4 kV4 dc4 pm4 cd4 ct4 : Value}
    (a4 : PySem.W.nsIn K mainGlobals "cell_of" = some (some (.ref f4))) (l4 : K.lookup f4 = some ⟨oc4, od4, .func (PySem.W.fnOf "cell_of" "cell_of" (defArgs s_cell_of) (defBody s_cell_of) (defScope s_cell_of) .none kV4 dc4 pm4 an4 cd4 ct4), sl4⟩) (c4 : PySem.W.codeIn K cd4 "cell_of" = true) (k4 : PySem.W.keepIn K (.ref f4) = true)
    {f5 : Addr} {od5 an5 : Option Addr} {sl5 : Array (Option Value)} {oc5 kV5 dc5 pm5 cd5 ct5 : Value}
    (a5 : PySem.W.nsIn K mainGlobals "_law_dice" = some (some (.ref f5))) (l5 : K.lookup f5 = some ⟨oc5, od5, .func (PySem.W.fnOf "_law_dice" "_law_dice" (defArgs s_law_dice) (defBody s_law_dice) (defScope s_law_dice) .none kV5 dc5 pm5 an5 cd5 ct5), sl5⟩) (c5 : PySem.W.codeIn K cd5 "_law_dice" = true) (k5 : PySem.W.keepIn K (.ref f5) = true)
    {f6 : Addr} {od6 an6 : Option Addr} {sl6 : Array (Option Value)} {oc6 kV6 dc6 pm6 cd6 ct6 : Value}
    (a6 : PySem.W.nsIn K mainGlobals "_law_next" = some (some (.ref f6))) (l6 : K.lookup f6 = some ⟨oc6, od6, .func (PySem.W.fnOf "_law_next" "_law_next" (defArgs s_law_next) (defBody s_law_next) (defScope s_law_next) .none kV6 dc6 pm6 an6 cd6 ct6), sl6⟩) (c6 : PySem.W.codeIn K cd6 "_law_next" = true) (k6 : PySem.W.keepIn K (.ref f6) = true)
    {f7 : Addr} {od7 an7 : Option Addr} {sl7 : Array (Option Value)} {oc7 kV7 dc7 pm7 cd7 ct7 : Value}
    (a7 : PySem.W.nsIn K mainGlobals "_law_cells" = some (some (.ref f7))) (l7 : K.lookup f7 = some ⟨oc7, od7, .func (PySem.W.fnOf "_law_cells" "_law_cells" (defArgs s_law_cells) (defBody s_law_cells) (defScope s_law_cells) .none kV7 dc7 pm7 an7 cd7 ct7), sl7⟩) (c7 : PySem.W.codeIn K cd7 "_law_cells" = true) (k7 : PySem.W.keepIn K (.ref f7) = true)
    {f8 : Addr} {od8 an8 : Option Addr} {sl8 : Array (Option Value)} {oc8 kV8 dc8 pm8 cd8 ct8 : Value}
    (a8 : PySem.W.nsIn K mainGlobals "_law_great" = some (some (.ref f8))) (l8 : K.lookup f8 = some ⟨oc8, od8, .func (PySem.W.fnOf "_law_great" "_law_great" (defArgs s_law_great) (defBody s_law_great) (defScope s_law_great) .none kV8 dc8 pm8 an8 cd8 ct8), sl8⟩) (c8 : PySem.W.codeIn K cd8 "_law_great" = true) (k8 : PySem.W.keepIn K (.ref f8) = true)
    {f9 : Addr} {od9 an9 : Option Addr} {sl9 : Array (Option Value)} {oc9 kV9 dc9 pm9 cd9 ct9 : Value}
    (a9 : PySem.W.nsIn K mainGlobals "_law_whole" = some (some (.ref f9))) (l9 : K.lookup f9 = some ⟨oc9, od9, .func (PySem.W.fnOf "_law_whole" "_law_whole" (defArgs s_law_whole) (defBody s_law_whole) (defScope s_law_whole) .none kV9 dc9 pm9 an9 cd9 ct9), sl9⟩) (c9 : PySem.W.codeIn K cd9 "_law_whole" = true) (k9 : PySem.W.keepIn K (.ref f9) = true)
    {f10 : Addr} {od10 an10 : Option Addr} {sl10 : Array (Option Value)} {oc10 kV10 dc10 pm10 cd10 ct10 : Value}
    (a10 : PySem.W.nsIn K mainGlobals "_law_is_count" = some (some (.ref f10))) (l10 : K.lookup f10 = some ⟨oc10, od10, .func (PySem.W.fnOf "_law_is_count" "_law_is_count" (defArgs s_law_is_count) (defBody s_law_is_count) (defScope s_law_is_count) .none kV10 dc10 pm10 an10 cd10 ct10), sl10⟩) (c10 : PySem.W.codeIn K cd10 "_law_is_count" = true) (k10 : PySem.W.keepIn K (.ref f10) = true)
    {f11 : Addr} {od11 an11 : Option Addr} {sl11 : Array (Option Value)} {oc11 kV11 dc11 pm11 cd11 ct11 : Value}
    (a11 : PySem.W.nsIn K mainGlobals "_law_word" = some (some (.ref f11))) (l11 : K.lookup f11 = some ⟨oc11, od11, .func (PySem.W.fnOf "_law_word" "_law_word" (defArgs s_law_word) (defBody s_law_word) (defScope s_law_word) .none kV11 dc11 pm11 an11 cd11 ct11), sl11⟩) (c11 : PySem.W.codeIn K cd11 "_law_word" = true) (k11 : PySem.W.keepIn K (.ref f11) = true)
    {f12 : Addr} {od12 an12 : Option Addr} {sl12 : Array (Option Value)} {oc12 kV12 dc12 pm12 cd12 ct12 : Value}
    (a12 : PySem.W.nsIn K mainGlobals "_law_odd" = some (some (.ref f12))) (l12 : K.lookup f12 = some ⟨oc12, od12, .func (PySem.W.fnOf "_law_odd" "_law_odd" (defArgs s_law_odd) (defBody s_law_odd) (defScope s_law_odd) .none kV12 dc12 pm12 an12 cd12 ct12), sl12⟩) (c12 : PySem.W.codeIn K cd12 "_law_odd" = true) (k12 : PySem.W.keepIn K (.ref f12) = true)
    {f13 : Addr} {od13 an13 : Option Addr} {sl13 : Array (Option Value)} {oc13 kV13 dc13 pm13 cd13 ct13 : Value}
    (a13 : PySem.W.nsIn K mainGlobals "_law_one" = some (some (.ref f13))) (l13 : K.lookup f13 = some ⟨oc13, od13, .func (PySem.W.fnOf "_law_one" "_law_one" (defArgs s_law_one) (defBody s_law_one) (defScope s_law_one) .none kV13 dc13 pm13 an13 cd13 ct13), sl13⟩) (c13 : PySem.W.codeIn K cd13 "_law_one" = true) (k13 : PySem.W.keepIn K (.ref f13) = true)
    {f14 : Addr} {od14 an14 : Option Addr} {sl14 : Array (Option Value)} {oc14 kV14 dc14 pm14 cd14 ct14 : Value}
    (a14 : PySem.W.nsIn K mainGlobals "law" = some (some (.ref f14))) (l14 : K.lookup f14 = some ⟨oc14, od14, .func (PySem.W.fnOf "law" "law" (defArgs s_law) (defBody s_law) (defScope s_law) .none kV14 dc14 pm14 an14 cd14 ct14), sl14⟩) (c14 : PySem.W.codeIn K cd14 "law" = true) (k14 : PySem.W.keepIn K (.ref f14) = true)
    (n_isinstance : PySem.W.nsIn K mainGlobals "isinstance" = some none)
    (n_int : PySem.W.nsIn K mainGlobals "int" = some none)
    (n_bool : PySem.W.nsIn K mainGlobals "bool" = some none)
    (n_tuple : PySem.W.nsIn K mainGlobals "tuple" = some none)
    (n_len : PySem.W.nsIn K mainGlobals "len" = some none)
    (n_abs : PySem.W.nsIn K mainGlobals "abs" = some none)
    (n_max : PySem.W.nsIn K mainGlobals "max" = some none)
    (n_list : PySem.W.nsIn K mainGlobals "list" = some none)
    (n_range : PySem.W.nsIn K mainGlobals "range" = some none)
    (n_super : PySem.W.nsIn K mainGlobals "super" = some none)
    (n_ValueError : PySem.W.nsIn K mainGlobals "ValueError" = some none)
    {tl : Tok} (gL : PySem.W.nsIn K mainGlobals "LIMIT" = some (some (.int lim tl)))
    (eF : PySem.W.nsIn K mainGlobals "FoundryError" = some (some (.ref FE))) (eA : PySem.W.nsIn K mainGlobals "InvalidArgument" = some (some (.ref CA))) (eN : PySem.W.nsIn K mainGlobals "InvalidNumber" = some (some (.ref CN)))
    (xA : PySem.W.excIn K CA [.type "ValueError", .type "Exception", .type "BaseException", .type "object"] "ValueError.__new__" = true) (kA : PySem.W.keepIn K (.ref CA) = true) (bA : PySem.W.subIn K (.ref CA) (.type "BaseException") = some true) (tA : PySem.W.typeIn K (.ref CA) = some (.type "type"))
    {nm q : Str} {N : Addr} {bs : List Value} {sn : List Str} {sub : List Value} {ab : Bool} {col : Option Bool} {dd : Option Addr} {m0 m1 m2 m3 m5 : Option Value}
    (xN : K.lookup CN = some (excClassObj nm q CN N bs [.type "RuntimeError", .type "Exception", .type "BaseException", .type "object"] true sn sub ab col dd m0 m1 m2 m3 m5 "RuntimeError.__new__"))
    (sa : PySem.W.findIn K (.ref CN) "__setattr__" = some (some (.builtin "object.__setattr__"))) (nv : PySem.W.findIn K (.ref CN) "value" = some none) (iC : PySem.W.findIn K (.ref CN) "__init__" = some (some (.ref fI))) (tI : PySem.W.typeIn K (.ref fI) = some (.type "function"))
    (kN : PySem.W.keepIn K (.ref CN) = true) (bN : PySem.W.subIn K (.ref CN) (.type "BaseException") = some true) (sB : PySem.W.subIn K (.ref CN) (.type "RuntimeError") = some true) (sD : PySem.W.mroIn K CN (.ref CN) = some true) (sO : PySem.W.mroIn K CN (.type "object") = some true) (tN : PySem.W.typeIn K (.ref CN) = some (.type "type"))
    (op : PySem.W.nsIn K cStatics "thirdparty.any" = some none) (al : PySem.W.alongIn K "__init__" [.type "RuntimeError", .type "Exception", .type "BaseException", .type "object"] = some (some (.builtin "RuntimeError.__init__")))
    (htop : (P.main.scope.names.lookup ("super" : Str)).isSome = false)
    {oc : Value} {od : Option Addr} {doc pm : Value} {an : Option Addr} {cda : Addr} {ct : Value} {cc : Addr} {osl : Array (Option Value)} {ccl : Value} {cdd : Option Addr} {vs : Array Value} {ccs : Array (Option Value)} {cl : Value} {cld : Option Addr} {csl : Array (Option Value)} {file : Str} {tf : Tok}
    (lI : K.lookup fI = some ⟨oc, od, .func (PySem.W.ksFn "__init__" "InvalidNumber.__init__" (defArgs s_num) (defBody s_num) (defScope s_num) .none .none doc pm an (.ref cda) ct cc), osl⟩) (cI : PySem.W.codeIn K (.ref cda) "InvalidNumber.__init__" = true)
    (lc : K.lookup cda = some ⟨ccl, cdd, .fields vs, ccs⟩) (lz : K.lookup cc = some ⟨cl, cld, .cell (some (.ref CN)), csl⟩) (hvs : vs[2]? = some (.str file tf)) (hfile : ((P.main.file : Str) == file) = true)
    (aa : PySem.W.exmOne K (.ref CA) (.ref CA) = some true) (na : PySem.W.exmOne K (.ref CN) (.ref CA) = some false) (nn : PySem.W.exmOne K (.ref CN) (.ref CN) = some true) (y1 : PySem.W.kitOne K (.ref CA) (.ref FE) = some true) (y2 : PySem.W.kitOne K (.ref CA) (.type "ValueError") = some true)
    (z1 : PySem.W.findIn K (.ref CA) "__getattribute__" = some (some (.builtin "BaseException.__getattribute__"))) (z2 : PySem.W.findIn K (.ref CA) "__getattr__" = some none) (z3 : PySem.W.hasDictIn K CA = true) (z4 : PySem.W.findIn K (.ref CA) "__class__" = some (some (.builtin "object.__class__")))
    (z5 : PySem.W.specialIn K (.builtin "object.__class__") "__get__" = some (some (.builtin "getset_descriptor.__get__"))) (z6 : PySem.W.takesIn K (.builtin "object.__class__") = some true) (z7 : PySem.W.mroIn K CA (.type "object") = some true)
    (z8 : PySem.W.findIn K (.ref CN) "__getattribute__" = some (some (.builtin "BaseException.__getattribute__"))) (z9 : PySem.W.findIn K (.ref CN) "__getattr__" = some none) (z0 : PySem.W.hasDictIn K CN = true) :
    ∃ fd : FuncData, (∀ (s : Shared) (u : Value), BindsTo s fd ⟨[u], []⟩ [("_law_script", u)]) ∧ ∀ base : Heap, K.In base → base.Ns mainGlobals mg → FnOk P w K mg base CX0 7 fa fd ["_law_script"] (spLaw K) := by
  have e := hfa.symm.trans (PySem.W.mg_of X G a14)
  cases e
  have num : PySem.LfX.XTxt P K mg "InvalidNumber" "value" "RuntimeError" "RuntimeError.__init__" "RuntimeError.__new__" [.type "RuntimeError", .type "Exception", .type "BaseException", .type "object"] CN fI :=
    { fo := fld_value, gC := PySem.W.mg_of X G eN, cls := ⟨_, _, _, _, _, _, _, _, _, _, _, _, _, _, _, xN, fun _ => rfl, PySem.F.store_RuntimeError.passes, al⟩, sa := sa, noF := nv, iC := iC, tC := tI, kC := kN, exC := bN, sB := sB, sD := sD, sO := sO, tyC := tN, op := op,
      sup := PySem.W.mg_none_of X G n_super, top := htop, fn := ⟨_, _, _, _, _, _, _, _, _, _, _, _, _, _, _, _, _, _, _, _, _, _, _, _, _, _, _, _, _, _, _, _, _, lI, cI, lc, hvs, hfile, lz, by decide⟩ }
  have T : Txt P K mg CN fI CA FE := { n_isinstance := PySem.W.mg_none_of X G n_isinstance, n_int := PySem.W.mg_none_of X G n_int, n_bool := PySem.W.mg_none_of X G n_bool, n_tuple := PySem.W.mg_none_of X G n_tuple, n_len := PySem.W.mg_none_of X G n_len, n_abs := PySem.W.mg_none_of X G n_abs, n_max := PySem.W.mg_none_of X G n_max, n_list := PySem.W.mg_none_of X G n_list, n_range := PySem.W.mg_none_of X G n_range, g_LIMIT := ⟨tl, PySem.W.mg_of X G gL⟩, num := num, gA := PySem.W.mg_of X G eA, xA := xA, kA := kA, bA := bA, tA := tA }
  have R : ErrT K mg CN CA FE := ⟨PySem.W.mg_of X G eF, PySem.W.mg_none_of X G n_ValueError, PySem.W.mg_of X G eN, aa, na, nn, y1, y2, ⟨z1, z2, bA, z3, z4, z5, z6, z7⟩, ⟨z8, z9, bN, z0⟩, nv⟩
  have F_is_number := fun_mk (st := s_is_number) l0 c0 k0
  have E_is_number : Df K mg "is_number" s_is_number := ⟨_, _, F_is_number, PySem.W.mg_of X G a0⟩
  have F_is_integer := fun_mk (st := s_is_integer) l1 c1 k1
  have E_is_integer : Df K mg "is_integer" s_is_integer := ⟨_, _, F_is_integer, PySem.W.mg_of X G a1⟩
  have F_require_integer := fun_mk (st := s_require_integer) l2 c2 k2
  have E_require_integer : Df K mg "require_integer" s_require_integer := ⟨_, _, F_require_integer, PySem.W.mg_of X G a2⟩
  have F_is_place := fun_mk (st := s_is_place) l3 c3 k3
  have E_is_place : Df K mg "is_place" s_is_place := ⟨_, _, F_is_place, PySem.W.mg_of X G a3⟩
  have F_cell_of := fun_mk (st := s_cell_of) l4 c4 k4
  have E_cell_of : Df K mg "cell_of" s_cell_of := ⟨_, _, F_cell_of, PySem.W.mg_of X G a4⟩
  have F_law_dice := fun_mk (st := s_law_dice) l5 c5 k5
  have E_law_dice : Df K mg "_law_dice" s_law_dice := ⟨_, _, F_law_dice, PySem.W.mg_of X G a5⟩
  have F_law_next := fun_mk (st := s_law_next) l6 c6 k6
  have E_law_next : Df K mg "_law_next" s_law_next := ⟨_, _, F_law_next, PySem.W.mg_of X G a6⟩
  have F_law_cells := fun_mk (st := s_law_cells) l7 c7 k7
  have E_law_cells : Df K mg "_law_cells" s_law_cells := ⟨_, _, F_law_cells, PySem.W.mg_of X G a7⟩
  have F_law_great := fun_mk (st := s_law_great) l8 c8 k8
  have E_law_great : Df K mg "_law_great" s_law_great := ⟨_, _, F_law_great, PySem.W.mg_of X G a8⟩
  have F_law_whole := fun_mk (st := s_law_whole) l9 c9 k9
  have E_law_whole : Df K mg "_law_whole" s_law_whole := ⟨_, _, F_law_whole, PySem.W.mg_of X G a9⟩
  have F_law_is_count := fun_mk (st := s_law_is_count) l10 c10 k10
  have E_law_is_count : Df K mg "_law_is_count" s_law_is_count := ⟨_, _, F_law_is_count, PySem.W.mg_of X G a10⟩
  have F_law_word := fun_mk (st := s_law_word) l11 c11 k11
  have E_law_word : Df K mg "_law_word" s_law_word := ⟨_, _, F_law_word, PySem.W.mg_of X G a11⟩
  have F_law_odd := fun_mk (st := s_law_odd) l12 c12 k12
  have E_law_odd : Df K mg "_law_odd" s_law_odd := ⟨_, _, F_law_odd, PySem.W.mg_of X G a12⟩
  have F_law_one := fun_mk (st := s_law_one) l13 c13 k13
  have E_law_one : Df K mg "_law_one" s_law_one := ⟨_, _, F_law_one, PySem.W.mg_of X G a13⟩
  have F_law := fun_mk (st := s_law) l14 c14 k14
  have E_law : Df K mg "law" s_law := ⟨_, _, F_law, PySem.W.mg_of X G a14⟩
  refine ⟨PySem.W.fnOf "law" "law" (defArgs s_law) (defBody s_law) (defScope s_law) .none kV14 dc14 pm14 an14 cd14 ct14, fun s u => .of_eq rfl, fun base _ _ => ?_⟩
  have D1 : DefOk P w K mg base CX0 1 "is_number" ["value"] spIsNumber := ok_is_number T E_is_number
  have D2 : DefOk P w K mg base CX0 2 "is_integer" ["value"] spIsInteger := ok_is_integer T E_is_integer D1
  have D3 : DefOk P w K mg base (L2.CX P w) 3 "require_integer" ["value"] (spReqInt CN) := ok_require_integer T E_require_integer D2
  have D4 : DefOk P w K mg base CX0 3 "is_place" ["value"] spIsPlace := ok_is_place T E_is_place D2
  have D5 : DefOk P w K mg base (L2.CX P w) 4 "cell_of" ["place", "number"] (spCellOf CN CA) := ok_cell_of T E_cell_of D4 D3
  have D6 : DefOk P w K mg base CX0 1 "_law_dice" ["_law_cell"] spDice := ok_law_dice T E_law_dice
  have D7 : DefOk P w K mg base CX0 1 "_law_next" ["_law_dice_here", "_law_many"] spNext := ok_law_next T E_law_next
  have D8 : DefOk P w K mg base CX0 1 "_law_cells" ["_law_script", "_law_most"] (spCells K) := ok_law_cells T E_law_cells
  have D9 : DefOk P w K mg base CX0 2 "_law_great" ["_law_dice_here"] (spDraw 1000000000000000000) := ok_law_great T E_law_great D7
  have D10 : DefOk P w K mg base CX0 3 "_law_whole" ["_law_dice_here"] (spDraw 1000000000000000000) := ok_law_whole T E_law_whole D7 D9
  have D11 : DefOk P w K mg base CX0 1 "_law_is_count" ["_law_value"] spIsNumber := ok_law_is_count T E_law_is_count
  have D12 : DefOk P w K mg base CX0 5 "_law_word" ["_law_place", "_law_number"] spWord := ok_law_word T R E_law_word D5
  have D13 : DefOk P w K mg base CX0 1 "_law_odd" ["_law_place"] spOdd := ok_law_odd T E_law_odd
  have D14 : DefOk P w K mg base CX0 6 "_law_one" ["_law_cell"] spOne := ok_law_one T E_law_one D6 D10 D5 D4 D11 D13 D12
  exact ok_law T F_law D8 D14 D5 D4
end My
open PySem PySem.W PyProof.Rows
theorem PySem.Challenge.cw_loopfoundry_k09_cells_of_places_holds : PySem.Challenge.rw_loopfoundry_k09_cells_of_places.Holds := by
  w_on; o_law; k_head; (case hw => w_witness2)
  k_fill
  refine L2.walk_ofK (l := PySem.Challenge.rw_loopfoundry_k09_cells_of_places) (k := 7) (CX := L2.CX0) (x := "_law_script") (sp := My.spLaw) rfl (by decide) rfl ⟨rfl, by decide, by decide⟩ (fun w h Y => PySem.W.kIn_of Y) ?F (fun K H a ns hl _ hS => ⟨a, ns, rfl, hS, fun _ => rfl⟩) (fun _ _ _ _ z => z)
  case F =>
    intro w mg fa h KX G hmg
    refine' My.all_mk KX G hmg ?a0 ?l0 ?c0 ?k0 ?a1 ?l1 ?c1 ?k1 ?a2 ?l2 ?c2 ?k2 ?a3 ?l3 ?c3 ?k3 ?a4 ?l4 ?c4 ?k4 ?a5 ?l5 ?c5 ?k5 ?a6 ?l6 ?c6 ?k6 ?a7 ?l7 ?c7 ?k7 ?a8 ?l8 ?c8 ?k8 ?a9 ?l9 ?c9 ?k9 ?a10 ?l10 ?c10 ?k10 ?a11 ?l11 ?c11 ?k11 ?a12 ?l12 ?c12 ?k12 ?a13 ?l13 ?c13 ?k13 ?a14 ?l14 ?c14 ?k14 ?n_isinstance ?n_int ?n_bool ?n_tuple ?n_len ?n_abs ?n_max ?n_list ?n_range ?n_super ?n_ValueError ?gL ?eF ?eA ?eN ?xA ?kA ?bA ?tA ?xN ?sa ?nv ?iC ?tI ?kN ?bN ?sB ?sD ?sO ?tN ?op ?al ?htop ?lI ?cI ?lc ?lz ?hvs ?hfile ?aa ?na ?nn ?y1 ?y2 ?z1 ?z2 ?z3 ?z4 ?z5 ?z6 ?z7 ?z8 ?z9 ?z0
    (case a0 => first | k_is | kernel_rfl)
    (case l0 => first | k_is | kernel_rfl)
    (case c0 => first | k_is | kernel_rfl)
    (case k0 => first | k_is | kernel_rfl)
    (case a1 => first | k_is | kernel_rfl)
    (case l1 => first | k_is | kernel_rfl)
    (case c1 => first | k_is | kernel_rfl)
    (case k1 => first | k_is | kernel_rfl)
    (case a2 => first | k_is | kernel_rfl)
    (case l2 => first | k_is | kernel_rfl)
    (case c2 => first | k_is | kernel_rfl)
    (case k2 => first | k_is | kernel_rfl)
    (case a3 => first | k_is | kernel_rfl)
    (case l3 => first | k_is | kernel_rfl)
    (case c3 => first | k_is | kernel_rfl)
    (case k3 => first | k_is | kernel_rfl)
    (case a4 => first | k_is | kernel_rfl)
    (case l4 => first | k_is | kernel_rfl)
    (case c4 => first | k_is | kernel_rfl)
    (case k4 => first | k_is | kernel_rfl)
    (case a5 => first | k_is | kernel_rfl)
    (case l5 => first | k_is | kernel_rfl)
    (case c5 => first | k_is | kernel_rfl)
    (case k5 => first | k_is | kernel_rfl)
    (case a6 => first | k_is | kernel_rfl)
    (case l6 => first | k_is | kernel_rfl)
    (case c6 => first | k_is | kernel_rfl)
    (case k6 => first | k_is | kernel_rfl)
    (case a7 => first | k_is | kernel_rfl)
    (case l7 => first | k_is | kernel_rfl)
    (case c7 => first | k_is | kernel_rfl)
    (case k7 => first | k_is | kernel_rfl)
    (case a8 => first | k_is | kernel_rfl)
    (case l8 => first | k_is | kernel_rfl)
    (case c8 => first | k_is | kernel_rfl)
    (case k8 => first | k_is | kernel_rfl)
    (case a9 => first | k_is | kernel_rfl)
    (case l9 => first | k_is | kernel_rfl)
    (case c9 => first | k_is | kernel_rfl)
    (case k9 => first | k_is | kernel_rfl)
    (case a10 => first | k_is | kernel_rfl)
    (case l10 => first | k_is | kernel_rfl)
    (case c10 => first | k_is | kernel_rfl)
    (case k10 => first | k_is | kernel_rfl)
    (case a11 => first | k_is | kernel_rfl)
    (case l11 => first | k_is | kernel_rfl)
    (case c11 => first | k_is | kernel_rfl)
    (case k11 => first | k_is | kernel_rfl)
    (case a12 => first | k_is | kernel_rfl)
    (case l12 => first | k_is | kernel_rfl)
    (case c12 => first | k_is | kernel_rfl)
    (case k12 => first | k_is | kernel_rfl)
    (case a13 => first | k_is | kernel_rfl)
    (case l13 => first | k_is | kernel_rfl)
    (case c13 => first | k_is | kernel_rfl)
    (case k13 => first | k_is | kernel_rfl)
    (case a14 => first | k_is | kernel_rfl)
    (case l14 => first | k_is | kernel_rfl)
    (case c14 => first | k_is | kernel_rfl)
    (case k14 => first | k_is | kernel_rfl)
    (case n_isinstance => first | k_is | kernel_rfl)
    (case n_int => first | k_is | kernel_rfl)
    (case n_bool => first | k_is | kernel_rfl)
    (case n_tuple => first | k_is | kernel_rfl)
    (case n_len => first | k_is | kernel_rfl)
    (case n_abs => first | k_is | kernel_rfl)
    (case n_max => first | k_is | kernel_rfl)
    (case n_list => first | k_is | kernel_rfl)
    (case n_range => first | k_is | kernel_rfl)
    (case n_super => first | k_is | kernel_rfl)
    (case n_ValueError => first | k_is | kernel_rfl)
    (case gL => first | k_is | kernel_rfl)
    (case eF => first | k_is | kernel_rfl)
    (case eA => first | k_is | kernel_rfl)
    (case eN => first | k_is | kernel_rfl)
    (case xA => k_exc)
    (case kA => first | k_is | kernel_rfl)
    (case bA => first | k_is | kernel_rfl)
    (case tA => first | k_is | kernel_rfl)
    (case xN => first | k_is | kernel_rfl)
    (case sa => first | k_is | kernel_rfl)
    (case nv => first | k_is | kernel_rfl)
    (case iC => first | k_is | kernel_rfl)
    (case tI => first | k_is | kernel_rfl)
    (case kN => first | k_is | kernel_rfl)
    (case bN => first | k_is | kernel_rfl)
    (case sB => first | k_is | kernel_rfl)
    (case sD => first | k_is | kernel_rfl)
    (case sO => first | k_is | kernel_rfl)
    (case tN => first | k_is | kernel_rfl)
    (case op => first | k_is | kernel_rfl)
    (case al => first | k_is | kernel_rfl)
    (case htop => decide +kernel)
    (case lI => first | k_is | kernel_rfl)
    (case cI => first | k_is | kernel_rfl)
    (case lc => first | k_is | kernel_rfl)
    (case lz => first | k_is | kernel_rfl)
    (case hvs => rfl)
    (case hfile => decide +kernel)
    (case aa => first | k_is | kernel_rfl)
    (case na => first | k_is | kernel_rfl)
    (case nn => first | k_is | kernel_rfl)
    (case y1 => first | k_is | kernel_rfl)
    (case y2 => first | k_is | kernel_rfl)
    (case z1 => first | k_is | kernel_rfl)
    (case z2 => first | k_is | kernel_rfl)
    (case z3 => first | k_is | kernel_rfl)
    (case z4 => first | k_is | kernel_rfl)
    (case z5 => first | k_is | kernel_rfl)
    (case z6 => first | k_is | kernel_rfl)
    (case z7 => first | k_is | kernel_rfl)
    (case z8 => first | k_is | kernel_rfl)
    (case z9 => first | k_is | kernel_rfl)
    (case z0 => first | k_is | kernel_rfl)
#print axioms PySem.Challenge.cw_loopfoundry_k09_cells_of_places_holds
