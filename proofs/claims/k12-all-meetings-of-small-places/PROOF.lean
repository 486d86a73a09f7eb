import PyProof.Rows.All
import Wide.All
import OpenK.AllK
import Wide.FinOn
import HandS.ForExc
import KE.KExcSuper
import HandS.ForMost
import HandS.ExcField
import HandS.ExcIs
import HandS.IsInst
import HandS.Style
import HandS.Wide
import HandS.Property
import HandS.Evl
import HandS.SlotsOwn
import HandS.GenList
import HandS.Zip
import HandS.Records
import HandS.Flow
import HandS.OwnEq
import HandS.More
import HandS.Star
import HandS.Defaults
import HandS.MakeKwOnly
import HandS.Deep
import HandS.Conv
import PySem.Challenge.RW_loopfoundry_k12_all_meetings_of_small_pl
set_option Elab.async false
set_option linter.all false
set_option maxRecDepth 100000
set_option maxHeartbeats 4000000
/-! try: body / except A as n: .. / except B as n: .. : several clauses with names -/
namespace L2
open PySem PySem.Spec PyProof.Rows
/-- the ends of a suite whose name stands in slot i -/
def sufEnds (i : Nat) (D : Ends) : Ends := { nx := fun σ' H' => D.nx (σ'.set i none) H', rt := D.rt, bk := fun σ' H' => D.bk (σ'.set i none) H', ct := fun σ' H' => D.ct (σ'.set i none) H' }
/-- what the clauses wish of an exception of the body, one behind the other: its class, the name's slot, the suite -/
def wAsM (K : PySem.W.Frag) (Wout : WX) (D : Ends) : List (Value × Nat × (Addr → Value → Option Addr → TS)) → WX
  | [] => Wout
  | (c, i, ts) :: r => fun cls d σ H => ∃ b, PySem.W.exmOne K cls c = some b ∧ (b = true → ∀ a, H a = none → ts a cls d (sufEnds i D) (σ.set i (some (.ref a))) H) ∧ (b = false → wAsM K Wout D r cls d σ H)
inductive HdA (X : Cx) : List ExceptHandler → List (Value × Nat × (Addr → Value → Option Addr → TS)) → Prop
  | nil : HdA X [] []
  | cons {x n : Str} {c : Value} {i : Nat} {ts : Addr → Value → Option Addr → TS} {b₀ : Stmt} {suite : List Stmt} {np pos' : Pos} {hds : List ExceptHandler} {l : List (Value × Nat × (Addr → Value → Option Addr → TS))}
      (hi : X.N[i]? = some n) (hln : X.env.kindOf n = some .local) (hc : Names X x c)
      (hsu : ∀ (a : Addr) (oe : Obj) (cls : Value) (d : Option Addr) (pn : List (Addr × Obj)), Zc cls d oe → (∃ vs, oe.data = .fields vs) → PSs (X.suite a ((a, oe) :: pn)) (b₀ :: suite) (ts a cls d)) (r : HdA X hds l) :
      HdA X (.ExceptHandler (some (.Name x np)) (some n) (b₀ :: suite) pos' :: hds) ((c, i, ts) :: l)
section
variable {X : Cx} {body : List Stmt} {h₀ : ExceptHandler} {hds : List ExceptHandler} {l : List (Value × Nat × (Addr → Value → Option Addr → TS))} {pos : Pos} {tb : WX → TS} {Wout : WX}
theorem ps_try_asM (hs : X.stack = X.env :: X.outer) (hf : X.env.frame = some X.env.locals) (hN : X.N.Nodup) (tk : Takes X Wout)
    (hb : ∀ (W : WX) (pn : List (Addr × Obj)) (xe : Value → Shared → Prop), Takes (X.tr pn xe) W → PassesOwn (model X.prog X.w) X.A X.env xe → PSs (X.tr pn xe) body (tb W))
    (hh : HdA X (h₀ :: hds) l) : PS X (.Try body (h₀ :: hds) [] [] pos) (fun D σ H => tb (wAsM X.K Wout D l) D σ H) := by
  refine ⟨fun pins s σ H D I h => ?_⟩
  have ok := I.ok
  have hfr : X.A.frames = some (X.env :: X.outer) := by rw [ok.frames, hs]
  refine wpAny_Try_except ?_
  refine wpAny_mono ((hb (wAsM X.K Wout D l) (X.pn ++ pins) (fun e s₁ => wpAny (model X.prog X.w) X.A (noteFrame e X.env) (fun _ s₂ => wpAny (model X.prog X.w) X.A (setFlight e none) (fun _ s₃ =>
    wpAny (model X.prog X.w) X.A (handleBy e X.env (h₀ :: hds)) (SP X pins D) X.xe s₃) X.xe s₂) X.xe s₁) (fun u s' xx => ?_) PassesOwn.looking).run [] s σ H D (I.toTry _) h) (fun f s1 hsp => ?_) (fun e s1 he => he)
  · obtain ⟨a, B, sI, pins', σ', H', cls, d, rfl, J', nb, up, sky, na, os, ag, w⟩ := xx
    have J : Inv X pins σ' H' sI := J'.ofTry ok
    have sky' : Sky B (X.env :: X.outer) a (Zc cls d) X.env.locals s'.heap := by rw [← hs]; exact sky
    show wpAny (model X.prog X.w) X.A (noteFrame (.ref a) X.env) _ _ _
    refine Sky.land Zc.steady hfr hf sky' fun h3 fl3 up3 => ?_
    have J3 : Inv X pins σ' H' { s' with heap := h3 } := J.landed nb fl3.1 (up.trans up3) os ag
    obtain ⟨oe3, vs3, he3, hz3, hd3⟩ := fl3.there
    have nfr : a ∉ frs (X.env :: X.outer) := fun hm => by
      obtain ⟨_, o', e', hnf⟩ := fl3.2.2.1.mem hm
      rw [he3] at e'; cases e'
      exact hnf _ hd3
    have nL : a ≠ X.env.locals := fun z => nfr (List.mem_filterMap.mpr ⟨X.env, List.mem_cons_self, by rw [hf, z]⟩)
    have nF : a ∉ X.fs := fun hm => by
      obtain ⟨e, he, q⟩ := List.mem_filterMap.mp hm
      exact nfr (List.mem_filterMap.mpr ⟨e, List.mem_cons_of_mem _ he, q⟩)
    have S3 := J3.suite he3 hd3 na nL nF
    have go : ∀ {hds' : List ExceptHandler} {l' : List (Value × Nat × (Addr → Value → Option Addr → TS))}, HdA X hds' l' → wAsM X.K Wout D l' cls d σ' H' →
        wpAny (model X.prog X.w) X.A (handleBy (.ref a) X.env hds') (SP X pins D) X.xe { s' with heap := h3 } := by
      intro hds' l' hk
      induction hk with
      | nil =>
        intro w
        refine wpAny_handleBy_nil ?_
        obtain ⟨k1, k2, k3, oe, vs, T, oT, ts', he, hz, hd, h1, hr⟩ := id fl3
        unfold PySem.passOn
        refine wpAny_bind (wpAny_field he hd h1 ?_)
        rw [if_neg (show ¬ ((Value.ref T == Value.none) = true) from by simp)]
        have fin : wpAny (model X.prog X.w) X.A (setFlight (.ref a) X.env.frame) (fun _ s4 => wpAny (model X.prog X.w) X.A (throw (.ref a) : Sem Flow) (SP X pins D) X.xe s4) X.xe { s' with heap := h3 } := by
          rw [hf]
          refine HandSPX.setFlight_upZ fl3 fun h4 hh4 up4 => wpAny_throw (tk _ _ ?_)
          exact ⟨a, B, sI, pins, σ', H', cls, d, rfl, J, nb, (up.trans up3).trans up4, .inr (.inr (by rw [hs]; exact hh4)), na, os, ag, w⟩
        first
          | exact wpAny_bind (wpAny_pure (wpAny_bind fin))
          | exact wpAny_bind fin
      | @cons x n c i ts b₀ suite np pos' hds2 l2 hi hln hc hsu r ih =>
        intro w
        obtain ⟨b, hb1, hyes, hno⟩ := w
        have hloc : Loc X.env.scope n := .inl hln
        refine wpAny_handleBy_cons (codeAny_handlers_test ?_) (by intro q; cases q)
        have LT : PySem.W.Looks (model X.prog X.w) h3 (typeOf (.ref a)) cls := fun A Q E s k q => wpAny_typeOf_ref (k _ _ he3) (by rw [hz3.1]; exact q)
        have LM := PySem.W.exm_one (M := model X.prog X.w) (J3.kIn) LT hb1
        have test : ∀ {Q : Value → Shared → Prop} {E : Value → Shared → Prop}, Q c { s' with heap := h3 } → wpAny (model X.prog X.w) (X.A.mark (some (.ref a))) (eval (.Name x np) X.env) Q E { s' with heap := h3 } := fun {Q E} q => by
          obtain ⟨hg, hdbg, hm | ⟨hm, hv, hnn⟩⟩ := hc
          · exact ld_glob (X := X.suite a ((a, oe3) :: (X.pn ++ pins))) S3 hg hm q hdbg
          · exact ld_blt (X := X.suite a ((a, oe3) :: (X.pn ++ pins))) S3 hg hm hv q hnn hdbg
        refine test (LM.here ?_)
        cases b with
        | true =>
          refine codeAny_handlers_suite_as ?_
          refine HandSPX.lands_againZ fl3 fun h4 fl4 up4 => ?_
          have J4 : Inv X pins σ' H' { s' with heap := h4 } := J.landed nb fl4.1 ((up.trans up3).trans up4) os ag
          obtain ⟨oe4, vs4, he4, hz4, hd4⟩ := fl4.there
          have S4 := J4.suite he4 hd4 na nL nF
          refine store_ok (X := X.suite a ((a, oe4) :: (X.pn ++ pins))) (v := .ref a) S4 hN hi hloc rfl (fun s5 S5 => ?_) (.inr hln)
          refine wpAny_mono ((hsu a oe4 cls d (X.pn ++ pins) hz4 ⟨_, hd4⟩).run [] s5 _ H' _ S5 (hyes rfl a na)) (fun f s6 hsp => ?_) (fun _ _ z => False.elim z)
          have end_ : ∀ {σ6 : St} {H6 : Hp} {Q : Shared → Prop}, Inv (X.suite a ((a, oe4) :: (X.pn ++ pins))) [] σ6 H6 s6 → (∀ s7, Inv X pins (σ6.set i none) H6 s7 → Q s7) →
              wpAny (model X.prog X.w) X.A (do bindName X.env n .none; unbindBehindTheSuite X.env n pos') (fun _ s7 => Q s7) X.xe s6 := fun {σ6 H6 Q} S6 hq => gone_ok (S6.unsuite ok) hN hi hln hq
          cases f with
          | next =>
            obtain ⟨σ6, H6, S6, q6⟩ := hsp
            exact end_ S6 fun s7 J7 => ⟨_, _, J7, q6⟩
          | brk =>
            obtain ⟨σ6, H6, S6, q6⟩ := hsp
            exact end_ S6 fun s7 J7 => ⟨_, _, J7, q6⟩
          | cont =>
            obtain ⟨σ6, H6, S6, q6⟩ := hsp
            exact end_ S6 fun s7 J7 => ⟨_, _, J7, q6⟩
          | ret u =>
            obtain ⟨v6, σ6, H6, S6, r6, q6⟩ := hsp
            exact end_ S6 fun s7 J7 => ⟨_, _, _, J7, r6, q6⟩
        | false =>
          show wpAny _ X.A (handleBy (.ref a) X.env hds2) _ _ _
          exact ih (hno rfl)
    exact go hh w
  · cases f with
    | next =>
      obtain ⟨σ', H', J', q⟩ := hsp
      exact wpAny_execs_nil ⟨σ', H', J'.ofTry ok, q⟩
    | brk =>
      obtain ⟨σ', H', J', q⟩ := hsp
      exact ⟨σ', H', J'.ofTry ok, q⟩
    | cont =>
      obtain ⟨σ', H', J', q⟩ := hsp
      exact ⟨σ', H', J'.ofTry ok, q⟩
    | ret u =>
      obtain ⟨v, σ', H', J', r, q⟩ := hsp
      exact ⟨v, σ', H', J'.ofTry ok, r, q⟩
end
end L2
set_option maxHeartbeats 4000000
/-! An own error over a built-in one: __init__(self, f): super().__init__('..'); self.f = f -/
namespace PySem
namespace LfX
open PySem.W PySem.Calls PyProof.Rows PySem.HandSPX
def xA (f : Str) (p1 p2 : Pos) : Arguments := { posonlyargs := [], args := [{ arg := "self", annotation := none, pos := p1 }, { arg := f, annotation := none, pos := p2 }], vararg := none, kwonlyargs := [], kw_defaults := [], kwarg := none, defaults := [] }
def xB (f m : Str) (j : Nat) (q1 q2 q3 q4 q5 q6 q7 q8 q9 q10 : Pos) : List Stmt :=
  [.Expr (.Call (.Attribute (.Call (.Name "super" q1) [] [] q2) "__init__" q3) [.Constant (.str m) j q4] [] q5) q6, .Assign [.Attribute (.Name "self" q7) f q8] (.Name f q9) q10]
def xS (f : Str) : Scope := { kind := .function, names := [(PySem.Str.ofString "self", .local), (f, .local), (PySem.Str.ofString "__class__", .free), (PySem.Str.ofString "super", .globalImplicit)], isGenerator := false, isCoroutine := false, more := [] }
/-- the name of the field stands apart from the three others -/
structure FldOk (f : Str) : Prop where
  e1 : (f == PySem.Str.ofString "self") = false
  e2 : (PySem.Str.ofString "__class__" == f) = false
  e3 : (PySem.Str.ofString "super" == f) = false
  e4 : (f == ("__debug__" : Str)) = false
  bd : ∀ (qn : Str) (p1 p2 : Pos) (b : List Stmt) (doc pm : Value) (an : Option Addr) (cdv ct : Value) (cc : Addr) (s : Shared) (x v : Value),
    BindsTo s (ksFn "__init__" qn (xA f p1 p2) b (xS f) .none .none doc pm an cdv ct cc) ⟨[x, v], []⟩ [("self", x), (f, v)]
/-- what the written part says of such a class, at C, and of its __init__, at fI -/
structure XTxt (prog : Program) (K : Frag) (mg : Str → Option Value) (x f : Str) (B i newId : String) (bmB : List Value) (C fI : Addr) : Prop where
  fo : FldOk f
  gC : mg x = some (.ref C)
  cls : ∃ nm q N bs bm sn sub ab col dd k0 k1 k2 k3 k5, K.lookup C = some (excClassObj nm q C N bs bm true sn sub ab col dd k0 k1 k2 k3 k5 newId) ∧ (∀ X : String, bm.contains (.type X) = bmB.contains (.type X)) ∧
    (∀ self : Value, refuseLoop self "__setattr__" bm = pure ()) ∧ alongIn K "__init__" bm = some (some (.builtin i))
  sa : findIn K (.ref C) "__setattr__" = some (some (.builtin "object.__setattr__"))
  noF : findIn K (.ref C) f = some none
  iC : findIn K (.ref C) "__init__" = some (some (.ref fI))
  tC : typeIn K (.ref fI) = some (.type "function")
  kC : keepIn K (.ref C) = true
  exC : subIn K (.ref C) (.type "BaseException") = some true
  sB : subIn K (.ref C) (.type B) = some true
  sD : mroIn K C (.ref C) = some true
  sO : mroIn K C (.type "object") = some true
  tyC : typeIn K (.ref C) = some (.type "type")
  op : nsIn K cStatics "thirdparty.any" = some none
  sup : mg "super" = none
  top : (prog.main.scope.names.lookup ("super" : Str)).isSome = false
  fn : ∃ (oc : Value) (od : Option Addr) (doc pm : Value) (an : Option Addr) (cda : Addr) (ct : Value) (cc : Addr) (osl : Array (Option Value)) (qn m : Str) (j : Nat) (p1 p2 q1 q2 q3 q4 q5 q6 q7 q8 q9 q10 : Pos)
      (ccl : Value) (cdd : Option Addr) (vs : Array Value) (ccs : Array (Option Value)) (file : Str) (tf : Tok) (cl : Value) (cld : Option Addr) (csl : Array (Option Value)),
    K.lookup fI = some ⟨oc, od, .func (ksFn "__init__" qn (xA f p1 p2) (xB f m j q1 q2 q3 q4 q5 q6 q7 q8 q9 q10) (xS f) .none .none doc pm an (.ref cda) ct cc), osl⟩ ∧ codeIn K (.ref cda) qn = true ∧
    K.lookup cda = some ⟨ccl, cdd, .fields vs, ccs⟩ ∧ vs[2]? = some (.str file tf) ∧ ((prog.main.file : Str) == file) = true ∧ K.lookup cc = some ⟨cl, cld, .cell (some (.ref C)), csl⟩ ∧ (q3.endLine == q5.line) = true
section
variable {f : Str}
theorem xS_self : (xS f).names.lookup ("self" : Str) = some .local := by simp [xS, List.lookup]
theorem xS_f (o : FldOk f) : (xS f).names.lookup f = some .local := by simp [xS, List.lookup, o.e1]
theorem xS_class (o : FldOk f) : (xS f).names.lookup ("__class__" : Str) = some .free := by
  have h1 : ((PySem.Str.ofString "__class__") == (PySem.Str.ofString "self")) = false := by decide +kernel
  simp [xS, List.lookup, o.e2, h1]
theorem xS_super (o : FldOk f) : (xS f).names.lookup ("super" : Str) = some .globalImplicit := by
  have h1 : ((PySem.Str.ofString "super") == (PySem.Str.ofString "self")) = false := by decide +kernel
  have h2 : ((PySem.Str.ofString "super") == (PySem.Str.ofString "__class__")) = false := by decide +kernel
  simp [xS, List.lookup, o.e3, h1, h2]
end
theorem own_drop (C : Addr) (l : List Value) : ((Value.ref C :: l).dropWhile (· != .ref C)).drop 1 = l := by simp [List.dropWhile_cons]
/-- what __init__ leaves of a fresh exception at x -/
structure InitEnd (f : Str) (h h' : Heap) (x C dx : Addr) (v : Value) : Prop where
  keep : ∀ b o, b ≠ x → h.get? b = some o → h'.get? b = some o
  obj : ∃ t1, h'.get? x = some { cls := .ref C, dict := some dx, data := .fields #[.ref t1, .none, .none, .none, .bool false, .none] }
  dbig : h.objs.size ≤ dx
  dne : dx ≠ x
  ns : h'.Ns1 dx (fun y => if y = f then some v else none)
/-- a made one -/
structure XMade (f : Str) (h h' : Heap) (e C d : Addr) (v : Value) : Prop where
  keep : ∀ b o, h.get? b = some o → h'.get? b = some o
  new : h.objs.size ≤ e
  obj : ∃ oe vs, h'.get? e = some oe ∧ oe.cls = .ref C ∧ oe.dict = some d ∧ oe.data = .fields vs ∧ vs[1]? = some .none
  dbig : h.objs.size ≤ d
  dne : d ≠ e
  ns : h'.Ns1 d (fun y => if y = f then some v else none)
section
open Builtin Builtin.ObjectAttr
variable {prog : Program} {w : World} {A : Around} {E : Value → Shared → Prop} {R : Result → Shared → Prop} {hp : Heap} {g : Array GenState} {d : Drawn} {t : Nat} {os : OsState}
/-- self.name = v on an exception without a dict, by what its classes let -/
theorem osa_first {K : Frag} {name : Str} {tk : Tok} {v : Value} {x C : Addr} {fv : Array Value} {cd : ClassData}
    (X : K.In hp) (hx : hp.get? x = some { cls := .ref C, data := .fields fv }) (hcd : clsIn K C = some cd) (hob : mroIn K C (.type "object") = some true) (hpass : refuseLoop (.ref x) "__setattr__" cd.mro = pure ()) (hh : cd.hasDict = true) (ha : findIn K (.ref C) name = some none)
    (hq : ∀ h' tk' dx, (∀ b o, b ≠ x → hp.get? b = some o → h'.get? b = some o) → hp.objs.size ≤ dx → dx ≠ x → h'.get? x = some { cls := .ref C, dict := some dx, data := .fields fv } →
      h'.Ns1 dx (fun y => if y = name then some v else none) → R (.ok (.ret .none)) ⟨h', g, d, tk', os⟩) :
    codeAny (model prog w) A (.call (.builtin "object.__setattr__") ⟨[.ref x, .str name tk, v], []⟩) R ⟨hp, g, d, t, os⟩ := by
  have I : InstAt hp x { cls := .ref C, data := .fields fv } C none := ⟨hx, rfl, rfl, trivial⟩
  have hxs : x ≠ hp.objs.size := Nat.ne_of_lt (Heap.lt_size hx)
  have SF := F.store_object
  have sub : Looks (model prog w) hp (isInstance (.ref x) (.type "object")) true := I.type.andThen (looks_mroIn X hob)
  refine codeAny_call_builtin SF.slot.plain SF.entry (@check_slot (model prog w) _ _ ⟨hp, g, d, t, os⟩ "object.__setattr__" "object" "__setattr__" (.ref x) [.str name tk, v] [] _ SF.kind SF.split sub (SF.args (.ref x) (.str name tk) v) ?_)
  have hmr : Looks (model prog w) hp (mroOf (.ref C)) cd.mro := (looks_clsIn X hcd).andThen .now
  have L3 : Looks (model prog w) hp (storeTaker? none) none := .now
  have hcls : Looks (model prog w) hp (classData C) cd := looks_clsIn X hcd
  rw [osa_eq, refuse_eq]
  refine wpAny_bind (wpAny_bind (I.type.at (wpAny_bind (hmr.at ?_))))
  rw [hpass]
  refine wpAny_pure (wpAny_bind (I.type.at (wpAny_bind ((looks_findIn X ha).at (wpAny_bind (L3.at ?_))))))
  show wpAny _ _ (storeInOwnDict (.ref x) (.ref C) (.str name tk) name v false) _ _ _
  obtain ⟨nm, bs, mro, ns, qn, hd, sn, sb, ab, col, del⟩ := cd
  dsimp only at hh
  subst hh
  unfold storeInOwnDict ownDictForStores
  repeat (first | with_reducible refine HandSPX.store_in_new ?_ ?_ | with_reducible refine wpAny_loadPart_at hx ?_ | with_reducible refine hcls.at ?_ | wp_step)
  · exact ⟨_, #[], _, (Heap.get?_update_ne _ _ _ _ hxs.symm).trans (Heap.get?_push_at rfl rfl), rfl, fun e he => absurd he (by simp), fun _ => rfl⟩
  · intro h' tk' hn' hs
    have hx₁ : (hp.push { cls := .type "dict", data := .dict #[] }).get? x = some { cls := .ref C, data := .fields fv } := Heap.get?_push_of_some _ hx
    refine hq h' tk' hp.objs.size (fun b o hb ho => ?_) (Nat.le_refl _) hxs.symm ?_ hn'
    · exact (hs.2 b (Nat.ne_of_lt (Heap.lt_size ho))).trans ((Heap.get?_update_ne _ _ _ _ hb).trans (Heap.get?_push_of_some _ ho))
    · exact (hs.2 x hxs).trans (Heap.get?_update_self _ hx₁ rfl)
/-- the bound built-in __init__ called: the args are laid anew -/
theorem call_mw {nm q : Str} {C N : Addr} {bs bm bmB : List Value} {hdct : Bool} {sn : List Str} {sub : List Value} {ab : Bool} {col : Option Bool} {dd : Option Addr} {k0 k1 k2 k3 k5 : Option Value} {B newId i : String}
    {u e t0 : Addr} {rest : List Value} {Q : Value → Shared → Prop} (FB : ExcBaseFacts B newId i bmB)
    (hC : hp.get? C = some (excClassObj nm q C N bs bm hdct sn sub ab col dd k0 k1 k2 k3 k5 newId)) (he : hp.get? e = some (excO C t0)) (hu : hp.get? u = some (kxs_mw i e)) (hrest : rest.length ≤ sizeLine)
    (hq : ∀ h' t1, (∀ b o, b ≠ e → hp.get? b = some o → h'.get? b = some o) → h'.get? e = some (excO C t1) → Q .none ⟨h', g, d, t, os⟩) :
    wpAny (model prog w) A (call (.ref u) rest) Q E ⟨hp, g, d, t, os⟩ := by
  refine wpAny_call (codeAny_of_tree ?_)
  show wpAny _ A.in1 (callAny (.ref u) ⟨rest, []⟩) _ _ _
  simp only [callAny]
  refine wpAny_bind (wpAny_load hu ?_)
  simp only [kxs_mw, show (Value.type "method-wrapper" == Value.type "method" || Value.type "method-wrapper" == Value.type "builtin_function_or_method" || Value.type "method-wrapper" == Value.type "method-wrapper") = true by decide, if_true]
  refine KFB.if_so (by decide) ?_
  refine wpAny_bind (check_bound_init FB.toExcCallFacts hC he rfl ?_)
  refine wpAny_bind (wpAny_pure (wpAny_pure ?_))
  refine ⟨plainId_quiet FB.init.plain _, codeAny_builtin FB.initEntry ?_⟩
  exact exc_init_tree (cls := .ref C) (t0 := t0) (dv := none) (c2 := .none) (c3 := .none) (b4 := .bool false) he hrest fun h' k e' t' => hq h' _ k e'
end
section
variable {prog : Program} {w : World} {A : Around} {E : Value → Shared → Prop} {R : Result → Shared → Prop} {s : Shared} {K : Frag} {mg : Str → Option Value} {nx f : Str} {B i newId : String} {bmB : List Value} {C fI : Addr}
theorem x_init (T : XTxt prog K mg nx f B i newId bmB C fI) (FB : ExcBaseFacts B newId i bmB) (KF : KxsFacts B i) {x t0 : Addr} {v : Value} (X : K.In s.heap) (G : s.heap.Ns mainGlobals mg) (Bl : ∃ mb, s.heap.Ns builtinsNs mb ∧ ∀ x : Str, x ≠ "__name__" → mb x = bootBuiltins x)
    (hlim : s.heap.NoLimit) (hx : s.heap.get? x = some (excO C t0)) (hnx : K.lookup x = none) (hroom : A.depth < recursionLimit)
    (hq : ∀ h' tk dx, InitEnd f s.heap h' x C dx v → R (.ok (.ret .none)) { s with heap := h', toks := tk }) :
    codeAny (model prog w) A (.call (.ref fI) ⟨[.ref x, v], []⟩) R s := by
  obtain ⟨oc, od, doc, pm, an, cda, ct, cc, osl, qn, m, j, p1, p2, q1, q2, q3, q4, q5, q6, q7, q8, q9, q10, ccl, cdd, vs, ccs, file, tf, cl, cld, csl, ho, hcd, hcda, hvs, hfile, hcc, hln⟩ := T.fn
  obtain ⟨nm, q, N, bs, bm, sn, sub, ab, col, dd, k0, k1, k2, k3, k5, hC, hT, hpass, hal⟩ := T.cls
  obtain ⟨mb, hB, hBB⟩ := Bl
  have hcl : clsIn K C = some { name := nm, bases := bs, mro := .ref C :: bm, ns := N, qualname := q, hasDict := true, slotNames := sn, subclasses := sub, abstract := ab, collection := col, hasDel := false } := by unfold clsIn; rw [hC] <;> rfl
  refine ks_codeAny_call_defAt (fd := ksFn "__init__" qn (xA f p1 p2) (xB f m j q1 q2 q3 q4 q5 q6 q7 q8 q9 q10) (xS f) .none .none doc pm an (.ref cda) ct cc) (binds := [("self", .ref x), (f, v)]) hroom (X _ _ ho) rfl hlim (codeRec_of X hcd) rfl (T.fo.bd qn p1 p2 _ doc pm an _ ct cc s (.ref x) v) ?_ ?_ (fun h₁ hns k => ?_) rfl rfl rfl
  · intro y hy
    simp only [xS, List.mem_cons, List.not_mem_nil, or_false] at hy
    rcases hy with rfl | rfl | rfl | rfl <;> (intro z; cases z)
  · intro y hy
    simp only [List.mem_cons, List.not_mem_nil, or_false] at hy
    rcases hy with rfl | rfl
    · exact xS_self
    · exact xS_f T.fo
  · have X₁ : K.In h₁ := X.keeps k
    have hx₁ := k _ _ hx
    have hself : (fun y => List.lookup y ([(("self" : Str), Value.ref x), (f, v)].reverse)) ("self" : Str) = some (.ref x) := by
      have h1 : (("self" : Str) == f) = false := by rw [BEq.comm]; exact T.fo.e1
      simp [List.lookup, h1]
    have hval : (fun y => List.lookup y ([(("self" : Str), Value.ref x), (f, v)].reverse)) f = some v := by
      simp [List.lookup]
    have hCC : h₁.get? C = some _ := X₁ _ _ hC
    refine ks_wpAt_execs_cons (ks_wpAt_Expr_any (ks_wpAt_MethodCall (pl := do return (← importBound (.Call (.Name "super" q1) [] [] q2) (callEnv (ksFn "__init__" qn (xA f p1 p2) (xB f m j q1 q2 q3 q4 q5 q6 q7 q8 q9 q10) (xS f) .none .none doc pm an (.ref cda) ct cc) s.heap.objs.size fI)).getD true) ?_ ?_) rfl rfl)
    rotate_left
    · have e1 : ∀ (o : Expr) (env : Env), methodCallPos true o env q3 q5 = pure q5 := fun o env => by
        unfold methodCallPos
        rw [hln]
        rfl
      show (attributeBase _ _ _ _ >>= fun ov => standAt q3.atName >>= fun _ => (holding [ov] (calleeOf true _ _ ov _)) >>= fun x => methodCallPos true (.Call (.Name "super" q1) [] [] q2) (callEnv (ksFn "__init__" qn (xA f p1 p2) (xB f m j q1 q2 q3 q4 q5 q6 q7 q8 q9 q10) (xS f) .none .none doc pm an (.ref cda) ct cc) s.heap.objs.size fI) q3 q5 >>= fun cp => callWith cp x.1 x.2 _ _) = _
      rw [e1]
      rfl
    refine ks_wpAt_super_base (f := fI) (cc := cda) (file := file) (tf := tf) (xS_super T.fo) (xS_class T.fo) (by decide) rfl (X₁ _ _ ho) rfl rfl rfl (X₁ _ _ hcda) rfl hvs hfile T.top ?_
    refine ks_loadName_global rfl (xS_super T.fo) (loadGlobal_builtin (G.keeps k) T.sup (hB.keeps k) ((hBB _ (by decide +kernel)).trans (by first | boot_by_name | rfl | kernel_rfl)) ⟨rfl, ?_⟩)
    refine wpAny_loadName_free rfl (xS_class T.fo) rfl ⟨_, X₁ _ _ hcc, rfl⟩ ?_
    refine wpAny_loadName_local rfl xS_self hns hself ?_
    refine ks_wpAny_isType_cls hCC rfl ⟨rfl, ?_⟩
    refine ks_wpAny_call_super hCC rfl hx₁ rfl (fun c e => by cases e) (looks_mroIn X₁ T.sD) (fun h₂ hso k₂ => ?_)
    have X₂ : K.In h₂ := X₁.keeps k₂
    have hx₂ := k₂ _ _ hx₁
    have I₂ : InstAt h₂ x (excO C t0) C none := ⟨hx₂, rfl, rfl, trivial⟩
    have hxC : x ≠ C := fun z => by rw [z, hC] at hnx; cases hnx
    refine kxs_getMethod (l₀ := .ref C :: bm) KF hso (looks_opaque X₂ T.op) ((looks_clsIn X₂ hcl).andThen .now) rfl X₂ (by rw [own_drop]; exact hal) (I₂.type.andThen (looks_subIn X₂ T.sB)) hxC (by decide) ?_
    have k₃ : ∀ b o, h₂.get? b = some o → (h₂.push (kxs_mw i x)).get? b = some o := fun b o e => Heap.get?_push_of_some _ e
    refine kxs_callWith (i := i) (x := x) rfl ?_
    refine evalArgs_plain (Calls.spliced_cons ?_)
    refine Calls.Constant_str (x := m) (k := j) (pos := q4) (Calls.spliced_nil ?_)
    have hu : (h₂.push (kxs_mw i x)).get? h₂.objs.size = some (kxs_mw i x) := Heap.get?_push_at rfl rfl
    refine ⟨hu, ?_⟩
    show wpAny _ _ (call (.ref h₂.objs.size) [_]) _ _ _
    refine call_mw FB (k₃ _ _ (X₂ _ _ hC)) (k₃ _ _ hx₂) hu (by show 1 ≤ sizeLine; rw [sizeLine_eq]; decide) (fun h₄ t1 k₄ hx₄ => ?_)
    have kx : ∀ b o, b ≠ x → s.heap.get? b = some o → h₄.get? b = some o := fun b o hb e => k₄ b o hb (k₃ b o (k₂ b o (k b o e)))
    have X₄ : K.In h₄ := fun b o e => kx b o (fun z => by rw [z, hnx] at e; cases e) (X b o e)
    have hxL : x ≠ s.heap.objs.size := Nat.ne_of_lt (Heap.lt_size hx)
    have hns₄ : h₄.Ns s.heap.objs.size (fun y => List.lookup y ([(("self" : Str), Value.ref x), (f, v)].reverse)) := by
      obtain ⟨oL, es, ep, hL, r⟩ := hns
      exact ⟨oL, es, ep, k₄ _ _ hxL.symm (k₃ _ _ (k₂ _ _ hL)), r⟩
    refine ks_wpAt_execs_cons (_root_.PySem.wpAt_of_wpAny (plainObj_wpAny_Assign_Attribute ?_))
    refine wpAny_Name (wpAny_loadName_local rfl (xS_f T.fo) hns₄ hval ?_) T.fo.e4
    refine wpAny_Name (wpAny_loadName_local rfl xS_self hns₄ hself ?_) (by decide)
    refine set_plain X₄ (ox := excO C t1) (od := none) ⟨hx₄, rfl, rfl, trivial⟩ T.sa ?_
    refine osa_first X₄ hx₄ hcl T.sO (by rw [refuseLoop_ref]; exact hpass _) rfl T.noF (fun h₅ tk₅ dx k₅ dn dne hx₅ hn₅ => ?_)
    refine _root_.PySem.wpAt_of_wpAny (wpAny_execs_nil ?_)
    refine hq h₅ tk₅ dx ⟨fun b o hb e => k₅ b o hb (kx b o hb e), ⟨t1, hx₅⟩, ?_, dne, hn₅⟩
    exact Nat.le_trans (Nat.le_of_lt hns₄.lt) dn
theorem x_made (T : XTxt prog K mg nx f B i newId bmB C fI) (FB : ExcBaseFacts B newId i bmB) (KF : KxsFacts B i) {v : Value} (X : K.In s.heap) (G : s.heap.Ns mainGlobals mg) (Bl : ∃ mb, s.heap.Ns builtinsNs mb ∧ ∀ x : Str, x ≠ "__name__" → mb x = bootBuiltins x)
    (hlim : s.heap.NoLimit) (hroom : A.depth + 1 < recursionLimit)
    (hq : ∀ h' tk e d, XMade f s.heap h' e C d v → R (.ok (.ret (.ref e))) { s with heap := h', toks := tk }) :
    codeAny (model prog w) A (.call (.ref C) ⟨[v], []⟩) R s := by
  obtain ⟨nm, q, N, bs, bm, sn, sub, ab, col, dd, k0, k1, k2, k3, k5, hC, hT, hpass, hal⟩ := T.cls
  obtain ⟨mb, hB, hBB⟩ := Bl
  obtain ⟨hp, g, dr, tk, os⟩ := s
  have k : ∀ b o, hp.get? b = some o → ((hp.push (kdv_tup [v])).push (excO C hp.objs.size)).get? b = some o := fun b o e => Heap.get?_push_of_some _ (Heap.get?_push_of_some _ e)
  have hget : ((hp.push (kdv_tup [v])).push (excO C hp.objs.size)).get? (hp.objs.size + 1) = some (excO C hp.objs.size) := by heap_get
  have hnx : K.lookup (hp.objs.size + 1) = none := by
    cases e : K.lookup (hp.objs.size + 1) with
    | none => rfl
    | some o =>
      have z : hp.get? (hp.objs.size + 1) = some o := X _ _ e
      exact absurd (Nat.lt_of_succ_lt (Heap.lt_size z)) (Nat.lt_irrefl _)
  refine call_own FB hT (X _ _ hC) (looks_findIn X T.iC) (fun self => bind_fn X self T.tC) (by show 1 ≤ sizeLine; rw [sizeLine_eq]; decide) ?_
  refine x_init (s := ⟨(hp.push (kdv_tup [v])).push (excO C hp.objs.size), g, dr, tk, os⟩) T FB KF (X.keeps k) (G.keeps k) ⟨mb, hB.keeps k, hBB⟩ (hlim.keeps k) hget hnx ?_ fun h' tk' dx ⟨k', ⟨t1, hx⟩, dn, dne, hns⟩ => ?_
  · show A.depth + 1 < recursionLimit
    exact hroom
  · have old : ∀ b o, hp.get? b = some o → h'.get? b = some o := fun b o e => k' b o (Nat.ne_of_lt (Nat.lt_succ_of_lt (Heap.lt_size e))) (k b o e)
    have z : hp.objs.size + 1 + 1 ≤ dx := by
      have q := dn
      rw [Heap.size_push, Heap.size_push] at q
      exact q
    exact ⟨rfl, hq h' tk' (hp.objs.size + 1) dx ⟨old, Nat.le_succ _, ⟨_, _, hx, rfl, rfl, rfl, rfl⟩, Nat.le_trans (Nat.le_trans (Nat.le_succ _) (Nat.le_succ _)) z, dne, hns⟩⟩
end
end LfX
end PySem
namespace L2
open PySem PySem.Spec PyProof.Rows
theorem relO_one {f : Str} {v : V} {v' : Value} (r : RelV v v') (y : Str) : RelO (List.lookup y [(f, v)]) (if y = f then some v' else none) := by
  by_cases hw : y = f
  · subst hw
    rw [if_pos rfl]
    have q : List.lookup y [(y, v)] = some v := by simp [List.lookup]
    rw [q]
    exact r
  · rw [if_neg hw]
    have qw : (y == f) = false := by simpa using hw
    have q2 : List.lookup y [(f, v)] = none := by simp [List.lookup, qw]
    rw [q2]
    trivial
section
variable {X : Cx} {C fI : Addr} {nx f : Str} {B i newId : String} {bmB : List Value}
/-- C(e) for such a class -/
def tMkX (C : Addr) (f : Str) (ta : TA) : L2.St → Hp → XK → Prop := fun σ H Q => ta σ H fun vs H1 => ∃ v, vs = [v] ∧ ∀ d, H1 d = none → Q (.ref C) (some d) (upd H1 d (.xd [(f, v)]))
theorem pmk_x {a : Expr} {ta : TA} {p pos : Pos} {k : Nat} (T : PySem.LfX.XTxt X.prog X.K X.mg nx f B i newId bmB C fI) (FB : ExcBaseFacts B newId i bmB) (KF : PySem.W.KxsFacts B i) (hr : Room k X.A) (ha : PA X [a] ta) (hg : Gl X nx := by rfl) (hdb : (nx == ("__debug__" : Str)) = false := by decide)
    (he : starEach (a :: []) X.env = (false, eval a X.env) :: starEach [] X.env := by rfl) (hpl : (backTo pos (starEach [] X.env)).any (·.1) = false := by rfl) :
    PMk X (.Call (.Name nx p) [a] [] pos) (tMkX C f ta) := by
  intro pins s σ H Q I h
  refine wpAny_Call_Name_kw (ld_glob I hg T.gC ?_ hdb)
  refine PySem.W.callWith_K (h₀ := X.base) I.ok.mod.kin T.kC (thn (ha.run pos pins s σ H _ I h) fun us s1 hh => ?_) he hpl
  obtain ⟨vs, H1, I1, r1, v, ev, q1⟩ := hh
  subst ev
  refine ⟨I1.kIn, ?_⟩
  cases r1 with
  | cons rv rn =>
    rename_i v' us'
    cases rn
    show wpAny _ _ (call (.ref C) [v']) _ _ _
    have hlim := I1.nolimit
    have hG : s1.heap.Ns mainGlobals X.mg := I1.ok.mod.glob.keeps I1.bk
    have hB : ∃ mb, s1.heap.Ns builtinsNs mb ∧ ∀ x : Str, x ≠ "__name__" → mb x = bootBuiltins x := by
      obtain ⟨mb, b1, b2⟩ := I1.ok.mod.blt
      exact ⟨mb, b1.keeps I1.bk, b2⟩
    obtain ⟨hp, g, dr, tk, os⟩ := s1
    refine wpAny_call (PySem.LfX.x_made T FB KF I1.kIn hG hB hlim (by have := hr.dp; omega) fun h' tk' e d M => ?_)
    show MkP X pins σ Q (.ref e) ⟨h', g, dr, tk', os⟩
    obtain ⟨oe, fv, hoe, hc, hd, hdat, h1⟩ := M.obj
    have hns := M.ns
    obtain ⟨G', g1, g2⟩ := restrict h' fun b => decide (b ≠ e)
    have gk : ∀ b, b ≠ e → G'.get? b = h'.get? b := fun b hb => g1 b (decide_eq_true hb)
    have ge : G'.get? e = none := g2 e (by simp)
    have old : ∀ b o, hp.get? b = some o → G'.get? b = some o := fun b o q => (gk b (Nat.ne_of_lt (Nat.lt_of_lt_of_le (Heap.lt_size q) M.new))).trans (M.keep b o q)
    have ob : ObjOk X.prog X.w (upd H1 d (.xd [(f, v)])) G' d (.xd [(f, v)]) :=
      ⟨_, hns.at (fun o q => (gk d M.dne).trans q), fun y => relO_one rv y⟩
    have J : Inv X pins σ (upd H1 d (.xd [(f, v)])) ⟨G', g, dr, tk', os⟩ := I1.laid (t' := tk') old M.dbig ob
    refine ⟨e, oe, fv, ⟨G', g, dr, tk', os⟩, _, .ref C, some d, rfl, J, fun b o q => ?_, ge, hoe, ⟨hc, hd⟩, hdat, h1, ?_, rfl, I1.bare, raises_own T.exC T.tyC, q1 d (I1.hok.fresh M.dbig)⟩
    · by_cases hb : b = e
      · have q' : G'.get? b = some o := q
        rw [hb, ge] at q'; cases q'
      · exact (gk b hb).symm.trans q
    · rw [upd_ne (Ne.symm M.dne)]
      exact I1.hok.fresh M.new
end
end L2
set_option maxHeartbeats 4000000
/-! A def of the text as one fact, and its call -/
namespace L2
open PySem PySem.Spec PyProof.Rows
/-- the def x of the text stands at its name -/
def Df (K : PySem.W.Frag) (mg : Str → Option Value) (x : Str) (st : Stmt) : Prop := ∃ f fd, Fun K x x st f fd ∧ mg x = some (.ref f)
/-- the def x keeps the promise sp -/
def DefOk (P : Program) (w : World) (K : PySem.W.Frag) (mg : Str → Option Value) (base : Heap) (CX : CXT) (k : Nat) (x : Str) (ps : List Str) (sp : Sp) : Prop :=
  ∃ f fd, mg x = some (.ref f) ∧ PySem.W.keepIn K (.ref f) = true ∧ Binds K fd ps [] ∧ FnOk P w K mg base CX k f fd ps sp
section
variable {P : Program} {w : World} {K : PySem.W.Frag} {mg : Str → Option Value} {base : Heap} {x : Str} {st : Stmt} {N ps : List Str} {k : Nat} {sp : Sp}
theorem Df.ok (D : Df K mg x st) (S : FnScope N ps (defScope st))
    (bd : ∀ (kV doc pm : Value) (an : Option Addr) (cdv ct : Value) (us : List Value), us.length = ps.length → bindArgs (PySem.W.fnOf x x (defArgs st) (defBody st) (defScope st) .none kV doc pm an cdv ct) ⟨us, []⟩ = pure (ps.zip us))
    (len : ∀ vs H Q E, sp vs H Q E → vs.length = ps.length)
    (hbody : ∀ (f : Addr) (cdv : Value) (A : Around) (outer : List Env) (s : Shared) (H : Hp) (vs : List V) (Q : VK) (E : XK), Room k (A.deeper (envOfC x (defScope st) s.heap.objs.size f cdv)) → sp vs H Q E →
      ∃ t, PSs (cxOf CX0 P w K mg base N x (defScope st) f cdv A outer s H E).nox (defBody st) t ∧ t { nx := fun _ H' => Q .non H', rt := Q } (start N vs) H) : DefOk P w K mg base CX0 (k + 1) x ps sp := by
  obtain ⟨f, fd, F, hm⟩ := D
  exact ⟨f, fd, hm, F.kp, F.binds bd, F.ok S len (hbody f)⟩
theorem Df.okX (D : Df K mg x st) (S : FnScope N ps (defScope st))
    (bd : ∀ (kV doc pm : Value) (an : Option Addr) (cdv ct : Value) (us : List Value), us.length = ps.length → bindArgs (PySem.W.fnOf x x (defArgs st) (defBody st) (defScope st) .none kV doc pm an cdv ct) ⟨us, []⟩ = pure (ps.zip us))
    (len : ∀ vs H Q E, sp vs H Q E → vs.length = ps.length)
    (hbody : ∀ (f : Addr) (cdv : Value) (A : Around) (outer : List Env) (s : Shared) (H : Hp) (vs : List V) (Q : VK) (E : XK), Room k (A.deeper (envOfC x (defScope st) s.heap.objs.size f cdv)) → sp vs H Q E →
      ∃ t, PSs (cxOf (L2.CX P w) P w K mg base N x (defScope st) f cdv A outer s H E) (defBody st) t ∧ t { nx := fun _ H' => Q .non H', rt := Q } (start N vs) H) : DefOk P w K mg base (L2.CX P w) (k + 1) x ps sp := by
  obtain ⟨f, fd, F, hm⟩ := D
  exact ⟨f, fd, hm, F.kp, F.binds bd, F.okX S len (hbody f)⟩
end
section
variable {X : Cx} {CX : CXT} {k : Nat} {ps : List Str} {sp : Sp} {E : XK} {ES : St → XK} {x : Str} {p pos : Pos} {e : Expr} {es : List Expr} {t : TA}
def tCallD (sp : Sp) (E : XK) (t : TA) : TE := fun σ H Q => t σ H fun vs H1 => sp vs H1 Q E
theorem pe_callD (D : DefOk X.prog X.w X.K X.mg X.base CX k x ps sp) (hr : Room k X.A) (hx : Passes CX X E) (ha : PA X (e :: es) t) (hg : Gl X x := by rfl) (hdb : (x == ("__debug__" : Str)) = false := by decide)
    (he : starEach (e :: es) X.env = (false, eval e X.env) :: starEach es X.env := by rfl) (hpl : (backTo pos (starEach es X.env)).any (·.1) = false := by rfl) :
    PE X (.Call (.Name x p) (e :: es) [] pos) (tCallD sp E t) := by
  obtain ⟨f, fd, hm, hk, hb, F⟩ := D
  refine ⟨fun pins s σ H Q I h => (pe_call F hr hg hm hk hb (.nil) hx ha hdb he hpl).run pins s σ H Q I ?_⟩
  have q : (fun vs H1 => sp vs H1 Q E) = fun vs H1 => sp (vs ++ []) H1 Q E := by
    funext vs H1
    rw [List.append_nil]
  show t σ H (fun vs H1 => sp (vs ++ []) H1 Q E)
  rw [← q]
  exact h
theorem pe_callDS (D : DefOk X.prog X.w X.K X.mg X.base CX k x ps sp) (hr : Room k X.A) (hx : ∀ σ, PassesAt CX X σ (ES σ)) (ha : PA X (e :: es) t) (hg : Gl X x := by rfl) (hdb : (x == ("__debug__" : Str)) = false := by decide)
    (he : starEach (e :: es) X.env = (false, eval e X.env) :: starEach es X.env := by rfl) (hpl : (backTo pos (starEach es X.env)).any (·.1) = false := by rfl) :
    PE X (.Call (.Name x p) (e :: es) [] pos) (tCallS sp ES t) := by
  obtain ⟨f, fd, hm, hk, hb, F⟩ := D
  exact pe_callS F hr hg hm hk hb hx ha hdb he hpl
/-- a module's int -/
theorem pe_gInt {n : Int} (hg : Gl X x) (h : ∃ t, X.mg x = some (.int n t)) (hd : (x == ("__debug__" : Str)) = false := by decide) : PE X (.Name x pos) (tC (.int n)) := by
  obtain ⟨t, hm⟩ := h
  exact pe_glob hg hm ⟨t, rfl⟩ hd
theorem pe_gStr {n : Str} (hg : Gl X x) (h : ∃ t, X.mg x = some (.str n t)) (hd : (x == ("__debug__" : Str)) = false := by decide) : PE X (.Name x pos) (tC (.str n)) := by
  obtain ⟨t, hm⟩ := h
  exact pe_glob hg hm ⟨t, rfl⟩ hd
end
end L2
set_option maxHeartbeats 4000000
/-! Kinds of values, numbers; the defs is_number, is_integer, require_integer -/
namespace Lf
open PySem L2
/-- the built-in kind of a value -/
inductive Kd (H : Hp) : V → String → Prop
  | non : Kd H .non "NoneType"
  | bl (b : Bool) : Kd H (.bl b) "bool"
  | int (i : Int) : Kd H (.int i) "int"
  | str (x : Str) : Kd H (.str x) "str"
  | lst {a : Addr} {xs : List V} (e : H a = some (.lst xs)) : Kd H (.ref a) "list"
  | tup {a : Addr} {xs : List V} (e : H a = some (.tup xs)) : Kd H (.ref a) "tuple"
  | dic {a : Addr} {kvs : List (Key × V)} (e : H a = some (.dK kvs)) : Kd H (.ref a) "dict"
theorem Kd.ty {H : Hp} {v : V} {t : String} (K : PySem.W.Frag) (k : Kd H v t) : TyX K H v (.type t) := by
  cases k with
  | non => exact .base .non
  | bl b => exact .base (.bl b)
  | int i => exact .base (.int i)
  | str x => exact .base (.str x)
  | lst e => exact .base (.lst e)
  | tup e => exact .base (.tup e)
  | dic e => exact .base (.dK e)
theorem Kd.same {H H' : Hp} {v : V} {t : String} (s : Same H H') (k : Kd H v t) : Kd H' v t := by
  cases k with
  | non => exact .non
  | bl b => exact .bl b
  | int i => exact .int i
  | str x => exact .str x
  | lst e => exact .lst (s _ _ e)
  | tup e => exact .tup (s _ _ e)
  | dic e => exact .dic (s _ _ e)
def numV : V → Bool
  | .int _ => true
  | _ => false
def lim : Int := 1000000000000000000000000000000
def intV : V → Bool
  | .int i => decide (-lim < i) && decide (i < lim)
  | _ => false
theorem Kd.int_ {H : Hp} {v : V} {t : String} (k : Kd H v t) : kitB t "int" = some (numV v || t == "bool") := by
  cases k <;> (first | rfl | decide +kernel)
theorem Kd.bool_ {H : Hp} {v : V} {t : String} (k : Kd H v t) : kitB t "bool" = some (t == "bool") := by
  cases k <;> (first | rfl | decide +kernel)
theorem Kd.tuple_ {H : Hp} {v : V} {t : String} (k : Kd H v t) : kitB t "tuple" = some (t == "tuple") := by
  cases k <;> (first | rfl | decide +kernel)
theorem Kd.num_ {H : Hp} {v : V} {t : String} (k : Kd H v t) : (if (numV v || t == "bool") = true then (!(t == "bool")) else false) = numV v := by
  cases k <;> (first | rfl | decide +kernel)
theorem if_so {c : Bool} {A B : Prop} (hc : c = true) (h : A) : if c = true then A else B := by
  rw [if_pos hc]
  exact h
theorem if_no {c : Bool} {A B : Prop} (hc : c = false) (h : B) : if c = true then A else B := by
  rw [hc, if_neg Bool.false_ne_true]
  exact h
def spIsNumber : Sp := fun vs H Q _ => ∃ v t, vs = [v] ∧ Kd H v t ∧ Q (.bl (numV v)) H
def spIsInteger : Sp := fun vs H Q _ => ∃ v t, vs = [v] ∧ Kd H v t ∧ Q (.bl (intV v)) H
def spReqInt (CN : Addr) : Sp := fun vs H Q E => ∃ v t, vs = [v] ∧ Kd H v t ∧ (intV v = true → Q .non H) ∧
  (intV v = false → ∀ d, H d = none → E (.ref CN) (some d) (upd H d (.xd [("value", v)])))
/-- the builtins' names that are not bound by the text, the constants -/
structure NumT (K : PySem.W.Frag) (mg : Str → Option Value) : Prop where
  n_isinstance : mg "isinstance" = none
  n_int : mg "int" = none
  n_bool : mg "bool" = none
  g_LIMIT : ∃ t, mg "LIMIT" = some (.int lim t)
section
variable {P : Program} {w : World} {K : PySem.W.Frag} {mg : Str → Option Value} {base : Heap} {st : Stmt}
end
end Lf
set_option maxHeartbeats 4000000
/-! Methods and properties as one fact each; sizes of ints -/
namespace L2
open PySem PySem.Spec PyProof.Rows
/-- the method m of the class at C, by its text -/
def Dm (K : PySem.W.Frag) (C : Addr) (m qual : Str) (st : Stmt) : Prop := ∃ f fd, Fun K m qual st f fd ∧ Meth K C m f
/-- the property m of the class at C, by its getter's text -/
def Dp_ (K : PySem.W.Frag) (C : Addr) (m qual : Str) (st : Stmt) : Prop := ∃ p f fd, Fun K m qual st f fd ∧ PropOf K C m p f
def MethOk (P : Program) (w : World) (K : PySem.W.Frag) (mg : Str → Option Value) (base : Heap) (CX : CXT) (k : Nat) (C : Addr) (m : Str) (ps : List Str) (sp : Sp) : Prop :=
  ∃ f fd, Meth K C m f ∧ Binds K fd ps [] ∧ FnOk P w K mg base CX k f fd ps sp
def PropOk (P : Program) (w : World) (K : PySem.W.Frag) (mg : Str → Option Value) (base : Heap) (CX : CXT) (k : Nat) (C : Addr) (m : Str) (ps : List Str) (sp : Sp) : Prop :=
  ∃ p f fd, PropOf K C m p f ∧ Binds K fd ps [] ∧ FnOk P w K mg base CX k f fd ps sp
section
variable {P : Program} {w : World} {K : PySem.W.Frag} {mg : Str → Option Value} {base : Heap} {C : Addr} {x qual : Str} {st : Stmt} {N ps : List Str} {k : Nat} {sp : Sp}
theorem Dm.ok (D : Dm K C x qual st) (S : FnScope N ps (defScope st))
    (bd : ∀ (kV doc pm : Value) (an : Option Addr) (cdv ct : Value) (us : List Value), us.length = ps.length → bindArgs (PySem.W.fnOf x qual (defArgs st) (defBody st) (defScope st) .none kV doc pm an cdv ct) ⟨us, []⟩ = pure (ps.zip us))
    (len : ∀ vs H Q E, sp vs H Q E → vs.length = ps.length)
    (hbody : ∀ (f : Addr) (cdv : Value) (A : Around) (outer : List Env) (s : Shared) (H : Hp) (vs : List V) (Q : VK) (E : XK), Room k (A.deeper (envOfC qual (defScope st) s.heap.objs.size f cdv)) → sp vs H Q E →
      ∃ t, PSs (cxOf CX0 P w K mg base N qual (defScope st) f cdv A outer s H E).nox (defBody st) t ∧ t { nx := fun _ H' => Q .non H', rt := Q } (start N vs) H) : MethOk P w K mg base CX0 (k + 1) C x ps sp := by
  obtain ⟨f, fd, F, hm⟩ := D
  exact ⟨f, fd, hm, F.binds bd, F.ok S len (hbody f)⟩
theorem Dp_.ok (D : Dp_ K C x qual st) (S : FnScope N ps (defScope st))
    (bd : ∀ (kV doc pm : Value) (an : Option Addr) (cdv ct : Value) (us : List Value), us.length = ps.length → bindArgs (PySem.W.fnOf x qual (defArgs st) (defBody st) (defScope st) .none kV doc pm an cdv ct) ⟨us, []⟩ = pure (ps.zip us))
    (len : ∀ vs H Q E, sp vs H Q E → vs.length = ps.length)
    (hbody : ∀ (f : Addr) (cdv : Value) (A : Around) (outer : List Env) (s : Shared) (H : Hp) (vs : List V) (Q : VK) (E : XK), Room k (A.deeper (envOfC qual (defScope st) s.heap.objs.size f cdv)) → sp vs H Q E →
      ∃ t, PSs (cxOf CX0 P w K mg base N qual (defScope st) f cdv A outer s H E).nox (defBody st) t ∧ t { nx := fun _ H' => Q .non H', rt := Q } (start N vs) H) : PropOk P w K mg base CX0 (k + 1) C x ps sp := by
  obtain ⟨p, f, fd, F, hm⟩ := D
  exact ⟨p, f, fd, hm, F.binds bd, F.ok S len (hbody f)⟩
end
section
variable {X : Cx} {CX : CXT} {k : Nat} {C : Addr} {ps : List Str} {sp : Sp} {E : XK} {m : Str} {p pos apos : Pos} {o e : Expr} {es : List Expr} {ta : TE} {t : TA}
def tMethD (C : Addr) (m : Str) (sp : Sp) (E : XK) (ta : TE) (t : TA) : TE := fun σ H Q => ta σ H fun x H1 => ∃ a dx fs, x = .ref a ∧ H1 a = some (.ins C dx fs) ∧ fs.lookup m = none ∧ t σ H1 fun vs H2 => sp (x :: vs) H2 Q E
theorem meth_nil {ta : TE} {t : TA} {σ : St} {H : Hp} {Q : VK} (h : tMethD C m sp E ta t σ H Q) : tMeth C m sp [] E ta t σ H Q := by
  have e : tMethD C m sp E ta t = tMeth C m sp [] E ta t := by
    funext σ H Q
    unfold tMethD tMeth
    simp only [List.append_nil]
  rw [← e]
  exact h
theorem pe_methD {pl : Sem Bool} (he : PE X o ta) (c : Cls X.K C) (D : MethOk X.prog X.w X.K X.mg X.base CX k C m ps sp) (hr : Room k X.A) (hx : Passes CX X E) (ha : PA X (e :: es) t)
    (hst : starEach (e :: es) X.env = (false, eval e X.env) :: starEach es X.env := by rfl) (hpl : (backTo pos (starEach es X.env)).any (·.1) = false := by rfl)
    (ht : eval (.Call (.Attribute o m apos) (e :: es) [] pos) X.env = (do
      let ov ← eval o X.env
      standAt apos.atName
      let (f, first) ← holding [ov] (getMethod ov m pl)
      callWith pos f first (backTo pos (starEach (e :: es) X.env)) (backToKw pos (keywordEach [] X.env))) := by rfl) :
    PE X (.Call (.Attribute o m apos) (e :: es) [] pos) (tMethD C m sp E ta t) := by
  obtain ⟨f, fd, hm, hb, F⟩ := D
  exact ⟨fun pins s σ H Q I h => (pe_meth he c hm F hr hb .nil hx ha hst hpl ht).run pins s σ H Q I (meth_nil h)⟩
theorem pe_methD0 {pl : Sem Bool} (he : PE X o ta) (c : Cls X.K C) (D : MethOk X.prog X.w X.K X.mg X.base CX k C m ps sp) (hr : Room k X.A) (hx : Passes CX X E)
    (ht : eval (.Call (.Attribute o m apos) [] [] pos) X.env = (do
      let ov ← eval o X.env
      standAt apos.atName
      let (f, first) ← holding [ov] (getMethod ov m pl)
      callWith pos f first (backTo pos (starEach [] X.env)) (backToKw pos (keywordEach [] X.env))) := by rfl) :
    PE X (.Call (.Attribute o m apos) [] [] pos) (tMethD C m sp E ta tNil) := by
  obtain ⟨f, fd, hm, hb, F⟩ := D
  exact ⟨fun pins s σ H Q I h => (pe_meth0 he c hm F hr hb .nil hx ht).run pins s σ H Q I (meth_nil h)⟩
/-- e.f, a property -/
theorem pe_propD (he : PE X e ta) (c : Cls X.K C) (D : PropOk X.prog X.w X.K X.mg X.base CX k C m ps sp) (hr : Room (k + 1) X.A) (hx : Passes CX X.nox E)
    (hab : attributeBase e m X.env (eval e X.env) = eval e X.env := by rfl) : PE X (.Attribute e m pos) (tProp C sp [] E ta) := by
  obtain ⟨p, f, fd, hm, hb, F⟩ := D
  exact pe_prop he c hm F hr hb .nil hx hab
/-- // by any great divisor but 0 -/
def CDivV (_ j : Int) : Prop := j ≠ 0 ∧ j.natAbs.log2 < 9000
theorem op_fdivV : OpR X (binaryOp .FloorDiv) (rI CDivV fun i j => .int (i.fdiv j)) := opI fun _ _ _ _ _ _ _ hc q => floordiv_int hc.1 q (.inl (PyProof.noPylong_of_log2 hc.2))
end
end L2
namespace Lf
open PySem L2
/-! ### sizes -/
def Bd (n : Nat) (i : Int) : Prop := i.natAbs < 2 ^ n
theorem Bd.mono {n m : Nat} {i : Int} (h : Bd n i) (hm : n ≤ m) : Bd m i := Nat.lt_of_lt_of_le h (Nat.pow_le_pow_right (by decide) hm)
theorem Bd.add {n m : Nat} {i j : Int} (h : Bd n i) (h' : Bd n j) (hm : n + 1 ≤ m) : Bd m (i + j) := by
  refine Bd.mono (n := n + 1) ?_ hm
  unfold Bd at *
  have := Int.natAbs_add_le i j
  rw [Nat.pow_succ]
  omega
theorem Bd.neg {n : Nat} {i : Int} (h : Bd n i) : Bd n (-i) := by
  unfold Bd at *
  rw [Int.natAbs_neg]
  exact h
theorem Bd.sub {n m : Nat} {i j : Int} (h : Bd n i) (h' : Bd n j) (hm : n + 1 ≤ m) : Bd m (i - j) := by
  rw [Int.sub_eq_add_neg]
  exact Bd.add h h'.neg hm
theorem Bd.mul {n m k : Nat} {i j : Int} (h : Bd n i) (h' : Bd m j) (hk : n + m ≤ k) : Bd k (i * j) := Bd.mono (wide_lt h h') hk
theorem Bd.ok {n m : Nat} {i j : Int} (h : Bd n i) (h' : Bd m j) (h0 : 0 < n) (h1 : 0 < m) (hs : n + m ≤ 1000000) : CMulW i j := wide_mul h h' h0 h1 hs
theorem Bd.div {n : Nat} {i j : Int} (h : Bd n i) : Bd n (i / j) := Nat.lt_of_le_of_lt (Int.natAbs_ediv_le_natAbs i j) h
theorem Bd.dok {n : Nat} {i j : Int} (h : Bd n j) (hj : j ≠ 0) (h0 : 0 < n) (h9 : n ≤ 9000) : CDivV i j := ⟨hj, Nat.lt_of_lt_of_le (PySem.Flt.log2_lt_of h0 h) h9⟩
theorem Bd.dpos {n : Nat} {i j : Int} (h : Bd n j) (hj : 0 < j) (h0 : 0 < n) (h9 : n ≤ 9000) : CDivW i j := wide_div hj h h0 h9
theorem Bd.lit {n : Nat} {i : Int} (h : i.natAbs < 2 ^ n) : Bd n i := h
end Lf
set_option maxHeartbeats 4000000
/-! bool(x), x an instance whose class has a __bool__ of its own -/
namespace LfB
open PySem PySem.Spec PyProof.Rows
section
variable {prog : Program} {w : World} {A : Around} {E : Value → Shared → Prop} {s : Shared} {K : PySem.W.Frag} {x C D f : Addr} {ox od : Obj} {odd : Option Obj}
theorem truthy_own {Q : Bool → Shared → Prop} (X : K.In s.heap) (I : PySem.W.InstAt s.heap x ox C odd) (hs : PySem.W.findIn K (.ref C) "__bool__" = some (some (.ref f))) (hf : PySem.W.isFn K (.ref f) = true)
    (h : wpAny (model prog w) A (call (.ref f) [.ref x]) (fun r s₁ => ∃ b, r = Value.bool b ∧ Q b s₁) E s) : wpAny (model prog w) A (truthy (.ref x)) Q E s := by
  unfold truthy
  have key : wpAny (model prog w) A (callSpecial? (.ref x) (Str.ofString "__bool__")) (fun r s₁ => ∃ b, r = some (Value.bool b) ∧ Q b s₁) E s :=
    PySem.W.special_fn X I hs (beq_iff_eq.mp hf) (wpAny_mono h (fun r s' ⟨b, e, q⟩ => ⟨b, by rw [e], q⟩) fun _ _ y => y)
  first
    | refine wpAny_bind (wpAny_mono key (fun r s' hr => ?_) fun _ _ y => y)
    | refine wpAny_bind (wpAny_pure (wpAny_bind (wpAny_mono key (fun r s' hr => ?_) fun _ _ y => y)))
  obtain ⟨b, rfl, q⟩ := hr
  first
    | exact wpAny_pure q
    | exact wpAny_bind (wpAny_pure q)
theorem type_bool : isType (.type "bool") = pure true := rfl
theorem bool_own {Q : Value → Shared → Prop} (X : K.In s.heap) (I : PySem.W.InstAt s.heap x ox C odd) (hs : PySem.W.findIn K (.ref C) "__bool__" = some (some (.ref f))) (hf : PySem.W.isFn K (.ref f) = true)
    (h : wpAny (model prog w) A.in1.in1 (call (.ref f) [.ref x]) (fun r s₁ => ∃ b, r = Value.bool b ∧ Q r s₁) E s) : wpAny (model prog w) A (call (.type "bool") [.ref x]) Q E s := by
  refine callType_codes (T := "bool") (Bi := Builtin.«object.__init__») (Q₁ := fun r s₁ => ∃ b, r = Value.bool b ∧ Q r s₁) PySem.F.called_bool (PySem.F.typeCall_bool_1 _) PySem.F.entry_object_init ?_ ?_
  · refine codeAny_of_tree ?_
    show wpAny _ A.in1.in1 (do checkBuiltinCall "bool.__new__" ⟨[.type "bool", .ref x], []⟩; again (.builtin "bool.__new__" ⟨[.type "bool", .ref x], []⟩)) _ _ s
    refine wpAny_bind (wpAny_of_eq (PySem.F.newCall_bool_1 _) (wpAny_pure ⟨plainId_quiet (by decide +kernel) _, codeAny_builtin PySem.F.entry_bool_new ?_⟩))
    rw [Around.under_plainId (by decide +kernel) _]
    unfold Builtin.«bool.__new__»
    refine wpAny_bind (wpAny_of_eq (a := true) type_bool ?_)
    refine PySem.W.KFB.if_not rfl ?_
    refine wpAny_bind (wpAny_of_eq (a := true) PySem.F.conv_sub_bool ?_)
    refine PySem.W.KFB.if_not rfl ?_
    refine wpAny_bind (wpAny_of_eq (a := [.ref x]) rfl ?_)
    refine wpAny_bind (truthy_own X I hs hf (wpAny_mono h (fun r s₁ hr => ?_) fun _ _ y => y))
    obtain ⟨b, rfl, hq⟩ := hr
    refine ⟨b, rfl, ?_⟩
    exact wpAny_pure ⟨b, rfl, hq⟩
  · rintro obj s₁ ⟨b, rfl, hq⟩
    exact ⟨PySem.typeIs_bool _ _, PySem.F.args_object_init_2 _ _, object_init_meets PySem.F.called_bool.init.lookup PySem.F.called_bool.made (by decide) prog w A.in1 _ s₁ ⟨PySem.typeIs_bool _ _, rfl, hq⟩⟩
end
end LfB
namespace L2
open PySem PySem.Spec PyProof.Rows
section
variable {X : Cx} {CX : CXT} {pins : List (Addr × Obj)} {σ : St} {H : Hp} {s : Shared} {C : Addr} {ps : List Str} {m : Str} {n : Nat} {sp : Sp} {E : XK}
theorem run_fnAt {A : Around} {Q : VK} {g : Addr} {fd : FuncData} {us : List Value} {ws : List V} (F : FnOk X.prog X.w X.K X.mg X.base CX n g fd ps sp) (hb : Binds X.K fd ps []) (hr : Room n A) (e0 : Env0 X.prog X.w X.K X.mg X.base A X.stack s H) (hx : Passes CX X E) (I : Inv X pins σ H s) (r : Vals ws us) (h : sp ws H Q E) :
    codeAny (model X.prog X.w) A (.call (.ref g) ⟨us, []⟩) (fun r s' => match r with | .ok (.ret v) => EP X pins σ Q v s' | .ok _ => False | .error e => X.xe e s') s := by
  have hl : us.length = ps.length := by rw [← r.length]; exact F.len _ _ _ _ h
  have b := hb s us I.kIn (by rw [List.append_nil]; exact hl)
  rw [List.append_nil] at b
  refine codeAny_mono (F.run A X.stack s H ⟨us, []⟩ us ws Q E hr e0 b r h) fun r s' hq => ?_
  cases r with
  | error e => exact hx pins σ H s e s' I hq
  | ok fl =>
    cases fl with
    | ret u => exact I.after hq
    | next => exact False.elim hq
    | brk => exact False.elim hq
    | cont => exact False.elim hq
/-- bool(x) of an instance with an own __bool__ -/
def rBoolOwn (C : Addr) (sp : Sp) (E : XK) : List V → Hp → VK → Prop := fun xs H Q => ∃ a dx fs, xs = [V.ref a] ∧ H a = some (.ins C dx fs) ∧ sp [.ref a] H (fun z H' => ∃ b, z = .bl b ∧ Q z H') E
theorem call_boolOwn (D : MethOk X.prog X.w X.K X.mg X.base CX n C "__bool__" ps sp) (hr : Room (n + 2) X.A) (hx : Passes CX X E) : CallR X (.type "bool") (rBoolOwn C sp E) := by
  obtain ⟨f, fd, hm, hb, F⟩ := D
  intro pins s σ H xs us Q I r h
  obtain ⟨a, dx, fs, rfl, hsl, q⟩ := h
  obtain ⟨u, rfl, ru⟩ := r.one
  cases (show u = Value.ref a from ru)
  obtain ⟨mA, O, _⟩ := ins_get I.hok hsl
  obtain ⟨od, J, _⟩ := O.look
  have hr2 : Room n X.A.in1.in1 := (show Room (n + 1) X.A.in1 from Room.in1 hr).in1
  refine LfB.bool_own I.kIn J hm.at_ hm.fn (wpAny_mono (wpAny_call (run_fnAt (us := [.ref a]) (ws := [.ref a]) F hb hr2 I.env0.in1.in1 hx I (.cons rfl .nil) q)) (fun w s' z => ?_) fun _ _ x => x)
  obtain ⟨z', H', I', rz, b, eb, qz⟩ := z
  subst eb
  cases (show w = Value.bool b from rz)
  exact ⟨b, rfl, .bl b, H', I', rfl, qz⟩
end
end L2
set_option maxHeartbeats 4000000
/-! A generator whose consumer changes several objects of its own between two items, and may stop asking (the library's GenBody, GenYield, GenCall serve a consumer that fills one list) -/
namespace GZ
open PySem PySem.Spec PyProof.Rows GenW L2

/-- while the generator sleeps: the consumer's own objects at Ws change, its list at S gets v -/
structure SleptW (Ws : List Addr) (S : Addr) (v : Value) (s s' : Shared) : Prop where
  os : s'.os = s.os
  bare : AllBare s'.gens
  keep : ∀ b o, b ∉ Ws → s.heap.get? b = some o → s'.heap.get? b = some o
  ws : ∀ b ∈ Ws, ∃ o, s'.heap.get? b = some o ∧ ∀ v, o.data ≠ .cell v
  own : ∀ acc c, s.heap.get? S = some (lstObj acc c) → ∃ c', s'.heap.get? S = some (lstObj (acc.push v) c')
structure ApartW (X : Cx) (Ws : List Addr) (S : Addr) : Prop where
  mem : S ∈ Ws
  yng : ∀ b ∈ Ws, X.s_0.heap.objs.size ≤ b
  loc : ∀ b ∈ Ws, b ≠ X.env.locals
  cel : ∀ b ∈ Ws, ∀ x c, X.env.cells.lookup x = some c → c ≠ b
  pn : ∀ b ∈ Ws, ∀ p ∈ X.pn, p.1 ≠ b
/-- running since the waking at s₀: ys is out and stands in the consumer's list -/
structure GIw (X : Cx) (Ws : List Addr) (S : Addr) (s₀ : Shared) (ys : List V) (σ : L2.St) (H : Hp) (s : Shared) : Prop where
  there : ∀ b ∈ Ws, ∃ o, s₀.heap.get? b = some o
  lst : ∃ (acc : Array Value) (c : Nat), Vals ys acc.toList ∧ s₀.heap.get? S = some (lstObj acc c)
  inv : Inv X (pinsAt Ws s₀.heap) σ H s
section
variable {X : Cx} {Ws : List Addr} {S : Addr} {s₀ s s' : Shared} {ys : List V} {σ : L2.St} {H : Hp}
theorem GIw.at (h : GIw X Ws S s₀ ys σ H s) {b : Addr} (hb : b ∈ Ws) : ∃ o, s₀.heap.get? b = some o ∧ s.heap.get? b = some o ∧ H b = none ∧ b ≠ X.env.locals ∧ b ∉ X.fs := by
  obtain ⟨o, e⟩ := h.there b hb
  obtain ⟨h1, h2, h3, h4, _⟩ := h.inv.pin (b, o) (List.mem_append_right _ (mem_pinsAt hb e))
  exact ⟨o, e, h1, h2, h3, h4⟩
theorem GIw.woken {x : V} {v : Value} (hA : ApartW X Ws S) (h : GIw X Ws S s₀ ys σ H s) (rv : RelV x v) (z : SleptW Ws S v s s') : GIw X Ws S s' (ys ++ [x]) σ H s' := by
  have I := h.inv
  have nt : ∀ b u, H b = some u → b ∉ Ws := fun b u q hb => by
    obtain ⟨_, _, _, hn, _⟩ := h.at hb
    rw [hn] at q; cases q
  obtain ⟨z1, z2, z3, z5, z4⟩ := z
  obtain ⟨hh, g, d, t, o⟩ := s'
  have ho : o = s.os := z1
  subst ho
  have I0 : Inv X [] σ H s := I.pins_of fun p hp => (by simp at hp)
  have J : Inv X [] σ H { s with heap := hh, gens := g, drawn := d, toks := t } := by
    refine I0.step (g' := g) (t' := t) (d' := d) (ch := Ws) (fun b hb => ?_)
      (fun b ob _ _ hc q _ => z3 b ob hc q) (fun b ob _ _ hc q _ => ⟨ob.slots, z3 b ob hc q⟩) (fun _ _ _ _ n => n) (fun b ob hc q => ⟨ob, z3 b ob hc q⟩)
      (fun _ _ q => q) (fun _ _ _ q => q) (fun b ps q => ⟨#[], by rw [q]; simp⟩) (fun m hm => ?_) (fun b u q => ?_) z2
    · refine ⟨.inr (hA.yng b hb), hA.loc b hb, hA.cel b hb, fun p hp => ?_⟩
      rw [List.append_nil] at hp
      exact hA.pn b hb p hp
    · obtain ⟨ob, es, ep, ho, r⟩ := hm
      exact ⟨ob, es, ep, z3 _ ob (fun q => hA.loc _ q rfl) ho, r⟩
    · refine (I0.hok b u q).stay (fun c v hc y => z3 c v ?_ y) (fun _ y => y) fun _ _ y => y
      rcases hc with y | y
      · rw [y]; exact nt b u q
      · exact nt c _ y
  refine ⟨fun b hb => ?_, ?_, J.pins_of fun p hp => ?_⟩
  · obtain ⟨o, e, _⟩ := z5 b hb
    exact ⟨o, e⟩
  · obtain ⟨acc, c, r, e⟩ := h.lst
    obtain ⟨o', e1, e2, _⟩ := h.at hA.mem
    rw [e] at e1; cases e1
    obtain ⟨c', e3⟩ := z4 acc c e2
    refine ⟨acc.push v, c', ?_, e3⟩
    rw [Array.toList_push]
    exact r.append (.cons rv .nil)
  · obtain ⟨hb, e⟩ := of_pinsAt hp
    obtain ⟨o', e1, hd⟩ := z5 p.1 hb
    rw [show ({ s with heap := hh, gens := g, drawn := d, toks := t } : Shared).heap = hh from rfl] at *
    obtain ⟨_, _, _, h2, h3, h4⟩ := h.at hb
    refine ⟨e, h2, h3, h4, ?_⟩
    have e2 : hh.get? p.1 = some o' := e1
    have e3 : hh.get? p.1 = some p.2 := e
    rw [e3] at e2; cases e2
    exact hd
end

/-! ### the protocol -/
def GYw (X : Cx) (Ws : List Addr) (S : Addr) (N : Nat) (YP : List V → Hp → Prop) : Protocol := fun n s₀ v s kap =>
  ∃ ys x σ H, n + 1 + ys.length = N ∧ RelV x v ∧ GIw X Ws S s₀ ys σ H s ∧ YP (ys ++ [x]) H ∧ (ys.length + 1 < N → ∀ s', SleptW Ws S v s s' → kap (.send .none) s')
/-- the end: all is out -/
def GRw (X : Cx) (Ws : List Addr) (S : Addr) (Q : List V → Hp → Prop) : GenEnd := fun n s₀ r s => ∃ ys σ H, r = .ok (.ret .none) ∧ GIw X Ws S s₀ ys σ H s ∧ Q ys H
/-- what is wanted behind a statement of a generator; the list: what is out so far; N: more is not asked for; yl: at each item -/
structure GEw where
  N : Nat
  yl : List V → Hp → Prop
  nx : List V → L2.St → Hp → Prop
  rt : List V → VK
  bk : List V → L2.St → Hp → Prop := fun _ _ _ => False
  ct : List V → L2.St → Hp → Prop := fun _ _ _ => False
abbrev TGw := GEw → List V → L2.St → Hp → Prop
def GEw.at (D : GEw) (ys : List V) : Ends := { nx := D.nx ys, rt := D.rt ys, bk := D.bk ys, ct := D.ct ys }
def GSPw (X : Cx) (Ws : List Addr) (S : Addr) (D : GEw) (ys : List V) (s₀ : Shared) (f : Flow) (s : Shared) : Prop :=
  match f with
  | .next => ∃ σ H, GIw X Ws S s₀ ys σ H s ∧ D.nx ys σ H
  | .brk => ∃ σ H, GIw X Ws S s₀ ys σ H s ∧ D.bk ys σ H
  | .cont => ∃ σ H, GIw X Ws S s₀ ys σ H s ∧ D.ct ys σ H
  | .ret u => ∃ v σ H, GIw X Ws S s₀ ys σ H s ∧ RelV v u ∧ D.rt ys v H
/-- where the generator's code stands; nothing leaves it as an exception -/
structure GCw (X : Cx) (Ws : List Addr) (S : Addr) (A : Around) (c : Code) (fs : List Frame) (gd : Bool → Bool) : Prop where
  apart : ApartW X Ws S
  over : A.over c fs = X.A
  split : splitAtGen fs = none
  guard : fs.any Frame.guarded = false
  gd : gd false = false
  nox : ∀ e s, ¬ X.xe e s
structure GKw (X : Cx) (Ws : List Addr) (S : Addr) (A : Around) (R : GenEnd) (c : Code) (fs : List Frame) (K : Flow → Sem PySem.Fin) (D : GEw) : Prop where
  ok : ∀ (n : Nat) (ys : List V) (s₀ s : Shared) (f : Flow), n + ys.length = D.N → ys.length < D.N → GSPw X Ws S D ys s₀ f s → Seg (model X.prog X.w) A R (GYw X Ws S D.N D.yl) n s₀ c (K f) fs s
structure GSw (X : Cx) (st : Stmt) (t : TGw) : Prop where
  run : ∀ (A : Around) (Ws : List Addr) (S : Addr) (R : GenEnd) (n : Nat) (ys : List V) (s₀ : Shared) (c : Code) (fs : List Frame) (K : Flow → Sem PySem.Fin) (J : Value → Sem PySem.Fin) (gd : Bool → Bool) (lv : List Value → List Value) (s : Shared) (σ : L2.St) (H : Hp) (D : GEw),
    GCw X Ws S A c fs gd → n + ys.length = D.N → ys.length < D.N → GKw X Ws S A R c fs K D → GIw X Ws S s₀ ys σ H s → t D ys σ H →
    Seg (model X.prog X.w) A R (GYw X Ws S D.N D.yl) n s₀ c ((exec st X.env).wrap K J gd lv) fs s
structure GSsw (X : Cx) (st : List Stmt) (t : TGw) : Prop where
  run : ∀ (A : Around) (Ws : List Addr) (S : Addr) (R : GenEnd) (n : Nat) (ys : List V) (s₀ : Shared) (c : Code) (fs : List Frame) (K : Flow → Sem PySem.Fin) (J : Value → Sem PySem.Fin) (gd : Bool → Bool) (lv : List Value → List Value) (s : Shared) (σ : L2.St) (H : Hp) (D : GEw),
    GCw X Ws S A c fs gd → n + ys.length = D.N → ys.length < D.N → GKw X Ws S A R c fs K D → GIw X Ws S s₀ ys σ H s → t D ys σ H →
    Seg (model X.prog X.w) A R (GYw X Ws S D.N D.yl) n s₀ c ((execs st X.env).wrap K J gd lv) fs s

section
variable {X : Cx} {st : Stmt} {rest : List Stmt}
def tPlainW (t : TS) : TGw := fun D ys σ H => t (D.at ys) σ H
theorem sp_gspw {Ws : List Addr} {S : Addr} {s₀ s s1 : Shared} {σ : L2.St} {H : Hp} {D : GEw} {ys : List V} {f : Flow} (g : GIw X Ws S s₀ ys σ H s1) (h : SP X (pinsAt Ws s₀.heap) (D.at ys) f s) : GSPw X Ws S D ys s₀ f s := by
  cases f with
  | next => obtain ⟨σ, H, I, q⟩ := h; exact ⟨σ, H, ⟨g.there, g.lst, I⟩, q⟩
  | brk => obtain ⟨σ, H, I, q⟩ := h; exact ⟨σ, H, ⟨g.there, g.lst, I⟩, q⟩
  | cont => obtain ⟨σ, H, I, q⟩ := h; exact ⟨σ, H, ⟨g.there, g.lst, I⟩, q⟩
  | ret u => obtain ⟨v, σ, H, I, r1, q⟩ := h; exact ⟨v, σ, H, ⟨g.there, g.lst, I⟩, r1, q⟩
theorem gsw_ps {t : TS} (h : PS X st t) : GSw X st (tPlainW t) := by
  refine ⟨fun A Ws S R n ys s₀ c fs K J gd lv s σ H D g hn hlt k hI ht => ?_⟩
  refine seg_wrap ?_
  rw [g.over]
  exact wpAny_mono (h.run _ s σ H (D.at ys) hI.inv ht) (fun f s' hs => k.ok n ys s₀ s' f hn hlt (sp_gspw hI hs)) fun x s' hx => (g.nox x s' hx).elim
theorem gssw_pss {t : TS} (h : PSs X rest t) : GSsw X rest (tPlainW t) := by
  refine ⟨fun A Ws S R n ys s₀ c fs K J gd lv s σ H D g hn hlt k hI ht => ?_⟩
  refine seg_wrap ?_
  rw [g.over]
  exact wpAny_mono (h.run _ s σ H (D.at ys) hI.inv ht) (fun f s' hs => k.ok n ys s₀ s' f hn hlt (sp_gspw hI hs)) fun x s' hx => (g.nox x s' hx).elim
def tG0w : TGw := fun D ys σ H => D.nx ys σ H
theorem gssw_nil : GSsw X [] tG0w := by
  refine ⟨fun A Ws S R n ys s₀ c fs K J gd lv s σ H D g hn hlt k hI ht => ?_⟩
  exact seg_execs_nil (k.ok n ys s₀ s .next hn hlt ⟨σ, H, hI, ht⟩)
def tGThenW (t u : TGw) : TGw := fun D ys σ H => t { D with nx := fun ys' σ' H' => u D ys' σ' H' } ys σ H
theorem gssw_cons {t u : TGw} (a : GSw X st t) (b : GSsw X rest u) : GSsw X (st :: rest) (tGThenW t u) := by
  refine ⟨fun A Ws S R n ys s₀ c fs K J gd lv s σ H D g hn hlt k hI ht => ?_⟩
  refine seg_execs_cons ?_
  refine a.run A Ws S R n ys s₀ c fs _ J gd lv s σ H { D with nx := fun ys' σ' H' => u D ys' σ' H' } g hn hlt ⟨fun n' ys' s₀' s' f hn' hlt' hs => ?_⟩ hI ht
  cases f with
  | next =>
    obtain ⟨σ', H', I', q⟩ := hs
    exact b.run A Ws S R n' ys' s₀' c fs K J gd lv s' σ' H' D g hn' hlt' k I' q
  | brk => exact k.ok n' ys' s₀' s' .brk hn' hlt' hs
  | cont => exact k.ok n' ys' s₀' s' .cont hn' hlt' hs
  | ret u => exact k.ok n' ys' s₀' s' (.ret u) hn' hlt' hs

/-! ### if -/
def tGIfW (c : TT) (t u : TGw) : TGw := fun D ys σ H => c σ H fun b H1 => if b = true then t D ys σ H1 else u D ys σ H1
theorem gsw_if {test : Expr} {a b : List Stmt} {pos : Pos} {tc : TT} {t u : TGw} (hc : PT X test tc) (ha : GSsw X a t) (hb : GSsw X b u) : GSw X (.If test a b pos) (tGIfW tc t u) := by
  refine ⟨fun A Ws S R n ys s₀ c fs K J gd lv s σ H D g hn hlt k hI ht => ?_⟩
  rw [exec_If]
  show Seg _ _ _ _ n s₀ c (.at pos fun _ => (isTrue test X.env (eval test X.env) >>= fun d => if d = true then execs a X.env else execs b X.env).wrap K J gd lv) fs s
  refine seg_at (seg_bind_wrap ?_)
  rw [g.over]
  refine wpAny_mono (hc.run _ s σ H _ hI.inv ht) (fun d s' hs => ?_) fun x s' hx => (g.nox x s' hx).elim
  obtain ⟨H1, I1, q1⟩ := hs
  cases d with
  | true => exact ha.run A Ws S R n ys s₀ c fs K J gd lv s' σ H1 D g hn hlt k ⟨hI.there, hI.lst, I1⟩ q1
  | false => exact hb.run A Ws S R n ys s₀ c fs K J gd lv s' σ H1 D g hn hlt k ⟨hI.there, hI.lst, I1⟩ q1

/-! ### while -/
def tGWhileW (c : TT) (tb : TGw) : TGw := fun D ys σ H => ∃ W : Nat → List V → L2.St → Hp → Prop, (∃ m, W m ys σ H) ∧ ∀ m ys σ H, W m ys σ H →
  c σ H fun b H1 => if b = true then ∃ Nx : List V → L2.St → Hp → Prop, (∀ ys' σ' H', ys'.length < D.N → Nx ys' σ' H' → ∃ m', m' < m ∧ W m' ys' σ' H') ∧ tb { D with nx := Nx, ct := Nx, bk := D.nx } ys σ H1 else D.nx ys σ H1
theorem gcw_loop {Ws : List Addr} {S : Addr} {A : Around} {c c' : Code} {fs : List Frame} {gd : Bool → Bool} {k : Result → Sem PySem.Fin} {l kp : List Value} {p : Pos} (g : GCw X Ws S A c fs gd) (hw : c'.weight = 0) (hu : c'.cUnits = 0) :
    GCw X Ws S A c' (.ret k none (gd false) l c p kp :: fs) id where
  apart := g.apart
  over := (over_loop hw hu).trans g.over
  split := by
    show (splitAtGen fs).map _ = none
    rw [g.split]; rfl
  guard := by
    show (gd false || fs.any Frame.guarded) = false
    rw [g.gd, g.guard]; rfl
  gd := rfl
  nox := g.nox
theorem gsw_while {test : Expr} {body : List Stmt} {pos : Pos} {tc : TT} {tb : TGw} (hc : PT X test tc) (hb : GSsw X body tb) : GSw X (.While test body [] pos) (tGWhileW tc tb) := by
  refine ⟨fun A Ws S R n ys s₀ c fs K J gd lv s σ H D g hn hlt k hI ht => ?_⟩
  obtain ⟨W, ⟨m0, w0⟩, turn⟩ := ht
  refine seg_While fun p => ?_
  have gl := fun (kk : Result → Sem PySem.Fin) => gcw_loop (k := kk) (c' := .whileLoop test body [] X.env) (l := lv []) (kp := []) (p := p) g rfl rfl
  have loop : ∀ (m n : Nat) (ys : List V) (s₀ s : Shared) (σ : L2.St) (H : Hp), n + ys.length = D.N → ys.length < D.N → W m ys σ H → GIw X Ws S s₀ ys σ H s →
      Seg (model X.prog X.w) A R (GYw X Ws S D.N D.yl) n s₀ (.whileLoop test body [] X.env) ((model X.prog X.w).den (.whileLoop test body [] X.env))
        (.ret (fun r => ((match r with | .ok f => (.pure f : Sem Flow) | .error e => .raise e).onRaise (cameBack X.env)).wrap K J gd lv) none (gd false) (lv []) c p [] :: fs) s := by
    intro m
    induction m using Nat.strongRecOn with
    | ind m ih =>
      intro n ys s₀ s σ H hn hlt w hI
      refine seg_whileLoop ?_
      rw [(gl _).over]
      refine wpAny_mono (hc.run _ s σ H _ hI.inv (turn m ys σ H w)) (fun b s' hb' => ?_) fun x s' hx => (g.nox x s' hx).elim
      obtain ⟨H2, I2, q2⟩ := hb'
      cases b with
      | true =>
        obtain ⟨Nx, hN, q2⟩ := q2
        rw [if_pos rfl]
        refine hb.run A Ws S R n ys s₀ _ _ _ _ id id s' σ H2 { D with nx := Nx, ct := Nx, bk := D.nx } (gl _) hn hlt ⟨fun n' ys' s₀' s3 f hn' hlt' hs => ?_⟩ ⟨hI.there, hI.lst, I2⟩ q2
        cases f with
        | next =>
          obtain ⟨σ3, H3, I3, n3⟩ := hs
          obtain ⟨m', hm, w3⟩ := hN ys' σ3 H3 hlt' n3
          exact seg_again rfl (ih m' hm n' ys' s₀' s3 σ3 H3 hn' hlt' w3 I3)
        | cont =>
          obtain ⟨σ3, H3, I3, n3⟩ := hs
          obtain ⟨m', hm, w3⟩ := hN ys' σ3 H3 hlt' n3
          exact seg_again rfl (ih m' hm n' ys' s₀' s3 σ3 H3 hn' hlt' w3 I3)
        | brk => exact seg_leaf (.ok .next) (k.ok n' ys' s₀' s3 .next hn' hlt' hs)
        | ret v => exact seg_leaf (.ok (.ret v)) (k.ok n' ys' s₀' s3 (.ret v) hn' hlt' hs)
      | false =>
        rw [if_neg Bool.false_ne_true]
        refine seg_execs_nil ?_
        exact seg_leaf (.ok .next) (k.ok n ys s₀ s' .next hn hlt ⟨σ, H2, ⟨hI.there, hI.lst, I2⟩, q2⟩)
  exact loop m0 n ys s₀ s σ H hn hlt w0 hI

/-! ### yield -/
def tGYieldW (te : TE) : TGw := fun D ys σ H => te σ H fun x H1 => D.yl (ys ++ [x]) H1 ∧ (ys.length + 1 < D.N → D.nx (ys ++ [x]) σ H1)
theorem gsw_yield {e : Expr} {yp pos : Pos} {te : TE} (he : PE X e te) (hco : X.env.scope.isCoroutine = false := by rfl) (hi : interactive X.env = false := by rfl) : GSw X (.Expr (.Yield (some e) yp) pos) (tGYieldW te) := by
  refine ⟨fun A Ws S R n ys s₀ c fs K J gd lv s σ H D g hn hlt k hI ht => ?_⟩
  obtain ⟨n, rfl⟩ : ∃ m, n = m + 1 := ⟨n - 1, by omega⟩
  refine seg_Expr_Yield g.split g.gd g.guard ?_ hco hi
  rw [g.over]
  refine wpAny_mono (he.run _ s σ H _ hI.inv ht) (fun v s' hv => ?_) fun x s' hx => (g.nox x s' hx).elim
  obtain ⟨x, H1, I1, rv, qy, q⟩ := hv
  have G1 : GIw X Ws S s₀ ys σ H1 s' := ⟨hI.there, hI.lst, I1⟩
  intro kap hk
  refine ⟨ys, x, σ, H1, hn, rv, G1, qy, fun hl s'' z => hk .none s'' ?_⟩
  have e1 : (ys ++ [x]).length = ys.length + 1 := by rw [List.length_append, List.length_singleton]
  exact k.ok n (ys ++ [x]) s'' s'' .next (by rw [e1]; omega) (by rw [e1]; exact hl) ⟨σ, H1, G1.woken g.apart rv z, q hl⟩
end
end GZ
set_option maxHeartbeats 4000000
/-! The promise of a generator def by its body, for such a consumer -/
namespace GZ
open PySem PySem.Spec PyProof.Rows GenW L2

/-- the context of the generator def's body: no exception leaves it; pn: the generator's own object -/
def gcxW (P : Program) (w : World) (K : PySem.W.Frag) (mg : Str → Option Value) (base : Heap) (N : List Str) (qual : Str) (scope : Scope) (f : Addr) (cd : Value) (A : Around) (outer : List Env) (s : Shared) (H : Hp) (pn : List (Addr × Obj)) : Cx :=
  { (cxOf CX0 P w K mg base N qual scope f cd A outer s H (fun _ _ _ => False)).nox with pn := pn }
/-- all is out -/
def REndW (P : Program) (w : World) (outer : List Env) (H : Hp) (s : Shared) (Ws : List Addr) (S : Addr) (Q : List V → Hp → Prop) : GenEnd := fun n s₀ r s1 =>
  r = .ok (.ret .none) ∧ ∃ H' ys acc c, s1.os = s.os ∧ AllBare s1.gens ∧ Un (frs outer) [] H H' s.heap s1.heap ∧ HOk P w H' s1.heap ∧ (∀ b ∈ Ws, H' b = none ∧ s1.heap.get? b = s₀.heap.get? b) ∧ s₀.heap.get? S = some (lstObj acc c) ∧ Vals ys acc.toList ∧ Q ys H'
/-- an item is handed out -/
def YItemW (P : Program) (w : World) (outer : List Env) (H : Hp) (s : Shared) (Ws : List Addr) (S a : Addr) (g N : Nat) (YP : List V → Hp → Prop) : Protocol := fun n s₀ v s1 kap =>
  s1.os = s.os ∧ AllBare s1.gens ∧ s1.heap.NoLimit ∧ s1.heap.IsGen a g ∧ ∃ H' ys x acc c, n + 1 + ys.length = N ∧ RelV x v ∧ Vals ys acc.toList ∧ s₀.heap.get? S = some (lstObj acc c) ∧ Un (frs outer) [] H H' s.heap s1.heap ∧ HOk P w H' s1.heap ∧
    (∀ b ∈ Ws, H' b = none ∧ s1.heap.get? b = s₀.heap.get? b) ∧ YP (ys ++ [x]) H' ∧ (ys.length + 1 < N → ∀ s', SleptW Ws S v s1 s' → kap (.send .none) s')
/-- what a call of a generator def gives: a generator that has not begun -/
def GMadeW (P : Program) (w : World) (k : Nat) (outer : List Env) (H : Hp) (s : Shared) (N : Nat) (YP Q : List V → Hp → Prop) (u : Value) (s' : Shared) : Prop :=
  ∃ (a : Addr) (g : Nat) (c : Code), u = .ref a ∧ s.heap.objs.size ≤ a ∧ a < s'.heap.objs.size ∧ s'.heap.IsGen a g ∧ s'.gens[g]? = some (.fresh c) ∧ s'.os = s.os ∧ AllBare s'.gens ∧ s'.heap.NoLimit ∧ (∀ b o, s.heap.get? b = some o → s'.heap.get? b = some o) ∧
    ∀ (A : Around) (Ws : List Addr) (S : Addr) (s2 : Shared), Room k A → A.frames = some outer → S ∈ Ws → (∀ b ∈ Ws, s'.heap.objs.size ≤ b ∧ ∃ o, s2.heap.get? b = some o ∧ ∀ v, o.data ≠ .cell v) → (∀ b o, s'.heap.get? b = some o → s2.heap.get? b = some o) →
      (∃ c, s2.heap.get? S = some (lstObj #[] c)) → s2.os = s.os → AllBare s2.gens → 0 < N →
      Seg (model P w) A (REndW P w outer H s Ws S Q) (YItemW P w outer H s Ws S a g N YP) N s2 c ((model P w).den c) [] s2
/-- a generator def's promise: the arguments, the heap, how many items are asked for at most, what is wanted at each item, and at the end -/
abbrev SpGw := List V → Hp → Nat → (List V → Hp → Prop) → (List V → Hp → Prop) → Prop
structure GFnW (P : Program) (w : World) (K : PySem.W.Frag) (mg : Str → Option Value) (base : Heap) (k : Nat) (f : Addr) (fd : FuncData) (ps : List Str) (sp : SpGw) : Prop where
  len : ∀ vs H N Y Q, sp vs H N Y Q → vs.length = ps.length
  run : ∀ (A : Around) (outer : List Env) (s : Shared) (H : Hp) (args : Args) (us : List Value) (vs : List V) (N : Nat) (Y Q : List V → Hp → Prop), Room k A → Env0 P w K mg base A outer s H → BindsTo s fd args (ps.zip us) → Vals vs us → sp vs H N Y Q →
    codeAny (model P w) A (.call (.ref f) args) (fun r s' => match r with | .ok (.ret u) => GMadeW P w k outer H s N Y Q u s' | _ => False) s

theorem inv_gcxW {P : Program} {w : World} {K : PySem.W.Frag} {mg : Str → Option Value} {base : Heap} {N : List Str} {qual : Str} {scope : Scope} {f : Addr} {cd : Value} {A : Around} {outer : List Env} {s s1 : Shared} {H H' : Hp} {E : XK} {pn pins : List (Addr × Obj)} {σ : L2.St}
    (I : Inv (gcxOf P w K mg base N qual scope f cd A outer s H E []) [] σ H' s1)
    (h : ∀ p ∈ pn ++ pins, s1.heap.get? p.1 = some p.2 ∧ H' p.1 = none ∧ p.1 ≠ (envOfC qual scope s.heap.objs.size f cd).locals ∧ p.1 ∉ frs outer ∧ ∀ v, p.2.data ≠ .cell v) :
    Inv (gcxW P w K mg base N qual scope f cd A outer s H pn) pins σ H' s1 :=
  ⟨⟨I.ok.mod, I.ok.kind, I.ok.glob, I.ok.blt, I.ok.above, I.ok.inj, I.ok.has, I.ok.cab, I.ok.hd, I.ok.frames, I.ok.stk, I.ok.exf, I.ok.bs, I.ok.bsz, I.ok.noex, I.ok.exfs, I.ok.funs, I.ok.frf⟩, I.os, I.bare, I.base, I.loc, I.cell, I.free, I.freeC, h, I.hok, I.len⟩

/-- THE RULE: a generator def, by its body -/
theorem gfnW_of {P : Program} {w : World} {K : PySem.W.Frag} {mg : Str → Option Value} {base : Heap} {k : Nat} {f : Addr} {name qual : Str} {params : Arguments} {body : List Stmt} {scope : Scope} {dV kV doc pm cdv ct oc : Value} {an od : Option Addr}
    {osl : Array (Option Value)} {N ps : List Str} {sp : SpGw} (lk : K.lookup f = some ⟨oc, od, .func (PySem.W.fnOf name qual params body scope dV kV doc pm an cdv ct), osl⟩) (hcd : PySem.W.codeIn K cdv qual = true) (S : GScope N ps scope)
    (len : ∀ vs H M Y Q, sp vs H M Y Q → vs.length = ps.length)
    (hbody : ∀ (A : Around) (outer : List Env) (s : Shared) (H : Hp) (vs : List V) (M : Nat) (Y Q : List V → Hp → Prop) (pn : List (Addr × Obj)), Room k (A.deeper (envOfC qual scope s.heap.objs.size f cdv)) → sp vs H M Y Q →
      ∃ t, GSsw (gcxW P w K mg base N qual scope f cdv A outer s H pn) body t ∧ t { N := M, yl := Y, nx := fun ys _ H' => Q ys H', rt := fun ys v H' => v = .non ∧ Q ys H' } [] (start N vs) H) :
    GFnW P w K mg base (k + 1) f (PySem.W.fnOf name qual params body scope dV kV doc pm an cdv ct) ps sp := by
  refine ⟨len, fun A outer s H args us vs M Y Q hr e0 hb r hsp => ?_⟩
  have hl := len _ _ _ _ _ hsp
  have KX : K.In s.heap := e0.mod.kin.keeps fun b o e => (e0.bs b o e).1
  have lim : s.heap.NoLimit := e0.mod.nolimit.keeps fun b o e => (e0.bs b o e).1
  have hkind : ∀ y ∈ ps.zip us, scope.names.lookup y.1 = some .local ∨ (scope.names.lookup y.1 = some .cell ∧ ((cellsFrom (s.heap.objs.size + 1) scope.names []).lookup y.1).isSome = true) := fun ⟨n, v⟩ hy => by
    rcases S.par n (List.of_mem_zip hy).1 with q | q
    · exact .inl q
    · exact .inr ⟨q, PySem.W.cellsFrom_some _ _ _ (.inl q)⟩
  refine codeAny_call_generator hr.depth (KX _ _ lk) rfl S.co S.gen rfl (PySem.W.codeRec_of KX hcd) (hb _ _ _ _ ?_)
  refine wpAny_newFunctionEnv_cells S.kind hkind fun env he s1 x => ?_
  subst he
  have lim1 : s1.heap.NoLimit := lim.keeps x.toInCall.keep
  refine ⟨lim1, ?_⟩
  obtain ⟨h1, tk, es1, hk1⟩ := x.done
  have os1 : s1.os = s.os := by rw [es1]
  have gen1 : s1.gens = s.gens := by rw [es1]
  have lt1 : s.heap.objs.size < s1.heap.objs.size := x.toInCall.ns.lt
  have sz1 : s.heap.objs.size ≤ s1.heap.objs.size := Nat.le_of_lt lt1
  have kp1 : ∀ b o, s.heap.get? b = some o → s1.heap.get? b = some o := x.toInCall.keep
  have main : ∀ (go : Obj) (nm qn : Value) (tk2 : Nat), go.cls = .type "generator" → go.data = .fields #[.int s1.gens.size 0, nm, qn] → go.slots = #[] → (∀ h : Heap, (h.push go).get? h.objs.size = some go) →
      GMadeW P w (k + 1) outer H s M Y Q (.ref s1.heap.objs.size) { s1 with gens := s1.gens.push (.fresh (.func body (envOfC qual scope s.heap.objs.size f cdv))), toks := tk2, heap := s1.heap.push go } := by
    intro go nm qn tk2 hgc hgd0 hgs hgp
    have hgen : ∀ h : Heap, h.get? s1.heap.objs.size = some go → h.IsGen s1.heap.objs.size s1.gens.size := fun h e => ⟨go, nm, qn, e, hgc, hgd0, hgs⟩
    have hpushed : (s1.heap.push go).get? s1.heap.objs.size = some go := hgp _
    refine ⟨s1.heap.objs.size, s1.gens.size, _, rfl, sz1, ?_, hgen _ hpushed, Array.getElem?_push_size .., os1, ?_, lim1.keeps fun b o e => Heap.get?_push_of_some _ e, fun b o e => Heap.get?_push_of_some _ (kp1 b o e), ?_⟩
    · show _ < (s1.heap.push _).objs.size
      rw [Heap.size_push]; exact Nat.lt_succ_self _
    · exact AllBare.push (by rw [gen1]; exact e0.bare) rfl
    intro Aw Ws Sx s2 hrw hfr hSm hWs hk2 hSo hos hba hM
    have e0w : Env0 P w K mg base Aw outer s H := ⟨hfr, e0.mod, e0.bs, e0.bsz, e0.funs, e0.frf, e0.hok, e0.bare⟩
    obtain ⟨t, ht, hq⟩ := hbody Aw outer s H vs M Y Q [(s1.heap.objs.size, go)] (hrw.deeper _) hsp
    have I1 : Inv (gcxOf P w K mg base N qual scope f cdv Aw outer s H (fun _ _ _ => False) []) [] (start N vs) H s1 := inv_startG S hrw.hd e0w hl r x
    have kp2 : ∀ b o, s1.heap.get? b = some o → s2.heap.get? b = some o := fun b o e => hk2 b o (Heap.get?_push_of_some _ e)
    have I2 : Inv (gcxOf P w K mg base N qual scope f cdv Aw outer s H (fun _ _ _ => False) []) [] (start N vs) H s2 :=
      I1.call' (ch := []) (hos.trans os1.symm) (Un.kept kp2) (I1.hok.kept kp2) hba fun b z => by simp at z
    have hWz : ∀ b ∈ Ws, s1.heap.objs.size < b := fun b hb => by
      have q : (s1.heap.push go).objs.size ≤ b := (hWs b hb).1
      rw [Heap.size_push] at q
      exact q
    obtain ⟨cS, heS⟩ := hSo
    have hea : s2.heap.get? s1.heap.objs.size = some go := hk2 s1.heap.objs.size go hpushed
    have hgd : ∀ v, go.data ≠ .cell v := fun v q => by rw [hgd0] at q; cases q
    have young : ∀ b, s1.heap.objs.size ≤ b → H b = none ∧ b ≠ s.heap.objs.size ∧ b ∉ frs outer ∧ s.heap.objs.size ≤ b ∧ ∀ y c, (cellsFrom (s.heap.objs.size + 1) scope.names []).lookup y = some c → c ≠ b := fun b hb => by
      refine ⟨I1.hok.fresh hb, Nat.ne_of_gt (Nat.lt_of_lt_of_le lt1 hb), I1.nofs hb, Nat.le_trans sz1 hb, fun y c e z => ?_⟩
      obtain ⟨v, ob, ho, _⟩ := I1.cell y c e
      have := Heap.lt_size ho
      rw [z] at this
      exact absurd (Nat.lt_of_lt_of_le this hb) (Nat.lt_irrefl _)
    have hG : GIw (gcxW P w K mg base N qual scope f cdv Aw outer s H [(s1.heap.objs.size, go)]) Ws Sx s2 [] (start N vs) H s2 := by
      refine ⟨fun b hb => ?_, ⟨#[], cS, .nil, heS⟩, inv_gcxW I2 fun p hp => ?_⟩
      · obtain ⟨_, o, e, _⟩ := hWs b hb
        exact ⟨o, e⟩
      rcases List.mem_append.mp hp with z | z
      · rw [List.mem_singleton.mp z]
        obtain ⟨y1, y2, y3, _, _⟩ := young s1.heap.objs.size (Nat.le_refl _)
        exact ⟨hea, y1, y2, y3, hgd⟩
      · obtain ⟨hb, e⟩ := of_pinsAt z
        obtain ⟨_, o, e2, hd⟩ := hWs p.1 hb
        rw [e] at e2; cases e2
        obtain ⟨y1, y2, y3, _, _⟩ := young p.1 (Nat.le_of_lt (hWz p.1 hb))
        exact ⟨e, y1, y2, y3, hd⟩
    have hAp : ApartW (gcxW P w K mg base N qual scope f cdv Aw outer s H [(s1.heap.objs.size, go)]) Ws Sx := by
      refine ⟨hSm, fun b hb => ?_, fun b hb => ?_, fun b hb => ?_, fun b hb p hp => ?_⟩
      · exact (young b (Nat.le_of_lt (hWz b hb))).2.2.2.1
      · exact (young b (Nat.le_of_lt (hWz b hb))).2.1
      · exact (young b (Nat.le_of_lt (hWz b hb))).2.2.2.2
      · have hp : p ∈ [(s1.heap.objs.size, go)] := hp
        rw [List.mem_singleton.mp hp]
        exact Nat.ne_of_lt (hWz b hb)
    have wsk : ∀ {s₀ s' : Shared} {ys : List V} {σ' : L2.St} {H' : Hp}, GIw (gcxW P w K mg base N qual scope f cdv Aw outer s H [(s1.heap.objs.size, go)]) Ws Sx s₀ ys σ' H' s' → ∀ b ∈ Ws, H' b = none ∧ s'.heap.get? b = s₀.heap.get? b := fun {s₀ s' ys σ' H'} hI b hb => by
      obtain ⟨o, e1, e2, hn, _⟩ := hI.at hb
      exact ⟨hn, by rw [e1, e2]⟩
    refine seg_func ?_
    refine seg_imp (R := GRw (gcxW P w K mg base N qual scope f cdv Aw outer s H [(s1.heap.objs.size, go)]) Ws Sx Q)
      (Y := GYw (gcxW P w K mg base N qual scope f cdv Aw outer s H [(s1.heap.objs.size, go)]) Ws Sx M Y) (fun n s₀ r s1' hR => ?_) (fun n s₀ v s1' kap kap' hkk hY => ?_) M ?_
    · obtain ⟨ys, σ', H', rfl, hI, hQ⟩ := hR
      obtain ⟨acc, cc, ra, ea⟩ := hI.lst
      exact ⟨rfl, H', ys, acc, cc, hI.inv.os, hI.inv.bare, hI.inv.base, hI.inv.hok, wsk hI, ea, ra, hQ⟩
    · obtain ⟨ys, xx, σ', H', hn, h2, hI, hy, h3⟩ := hY
      obtain ⟨acc, cc, ra, ea⟩ := hI.lst
      exact ⟨hI.inv.os, hI.inv.bare, hI.inv.nolimit, hgen _ (hI.inv.pin (s1.heap.objs.size, go) (List.mem_append_left _ (List.mem_singleton.mpr rfl))).1, H', ys, xx, acc, cc, hn, h2, ra, ea, hI.inv.base, hI.inv.hok, wsk hI, hy, fun hl s' z => hkk _ _ (h3 hl s' z)⟩
    · refine ht.run Aw Ws Sx _ M [] s2 _ [] _ _ id id s2 (start N vs) H { N := M, yl := Y, nx := fun ys _ H' => Q ys H', rt := fun ys v H' => v = .non ∧ Q ys H' } ⟨hAp, over_func, rfl, rfl, rfl, fun _ _ h => h⟩ (Nat.add_zero _) hM ⟨fun n ys s₀ s' fl hn hlt hs => ?_⟩ hG hq
      cases fl with
      | next =>
        obtain ⟨σ', H', hI, hQ⟩ := hs
        exact seg_end (.ok (.ret .none)) ⟨ys, σ', H', rfl, hI, hQ⟩
      | brk => obtain ⟨_, _, _, q⟩ := hs; exact False.elim q
      | cont => obtain ⟨_, _, _, q⟩ := hs; exact False.elim q
      | ret u =>
        obtain ⟨v, σ', H', hI, rv, ev, hQ⟩ := hs
        subst ev
        have eu : u = Value.none := rv
        subst eu
        exact seg_end (.ok (.ret .none)) ⟨ys, σ', H', rfl, hI, hQ⟩
  exact main _ _ _ _ rfl rfl rfl fun h => Heap.get?_push_size _ rfl

/-! ### an expression whose value is such a generator -/
abbrev TGenW := L2.St → Hp → Nat → (List V → Hp → Prop) → (List V → Hp → Prop) → Prop
structure PGenW (X : Cx) (k : Nat) (e : Expr) (tg : TGenW) : Prop where
  run : ∀ (pins : List (Addr × Obj)) (s : Shared) (σ : L2.St) (H : Hp) (N : Nat) (Y Q : List V → Hp → Prop), Inv X pins σ H s → tg σ H N Y Q → wpAny (model X.prog X.w) X.A (eval e X.env)
    (fun u s' => ∃ H1 sc, Inv X pins σ H1 sc ∧ GMadeW X.prog X.w k X.stack H1 sc N Y Q u s') X.xe s
section
variable {X : Cx} {k : Nat} {f C : Addr} {fd : FuncData} {ps : List Str} {sp : SpGw} {m : Str} {pos' apos : Pos} {o : Expr} {ta : TE}
def tMethGW (C : Addr) (m : Str) (sp : SpGw) (ta : TE) : TGenW := fun σ H N Y Q => ta σ H fun x H1 => ∃ a dx fs, x = .ref a ∧ H1 a = some (.ins C dx fs) ∧ fs.lookup m = none ∧ sp [x] H1 N Y Q
theorem pgenW_meth0 {pl : Sem Bool} (he : PE X o ta) (c : Cls X.K C) (hm : Meth X.K C m f) (F : GFnW X.prog X.w X.K X.mg X.base k f fd ps sp) (hr : Room k X.A) (hb : Binds X.K fd ps [])
    (ht : eval (.Call (.Attribute o m apos) [] [] pos') X.env = (do
      let ov ← eval o X.env
      standAt apos.atName
      let (f, first) ← holding [ov] (getMethod ov m pl)
      callWith pos' f first (backTo pos' (starEach [] X.env)) (backToKw pos' (keywordEach [] X.env))) := by rfl) :
    PGenW X k (.Call (.Attribute o m apos) [] [] pos') (tMethGW C m sp ta) := by
  refine ⟨fun pins s σ H N Y Q I h => ?_⟩
  refine PySem.W.methodCall_KW (pl := pl) (thn (he.run pins s σ H _ I h) fun u s1 ⟨x, H1, I1, rx, a, dx, fs, ex, ea, l, q⟩ => ?_) ht
  subst ex
  obtain rfl : u = Value.ref a := rx
  refine getmeth_ok I1 ea c hm l ?_
  refine PySem.W.callWith_K0 (first := [.ref a]) I1.kIn hm.kp ?_
  have r2 : Vals [V.ref a] [Value.ref a] := .cons rfl .nil
  have hl2 : ([Value.ref a] ++ []).length = ps.length := by
    have := F.len _ _ _ _ _ q
    exact this
  refine wpAny_call (codeAny_mono (F.run X.A X.stack s1 H1 ⟨[.ref a], []⟩ [.ref a] [.ref a] N Y Q hr I1.env0 (hb s1 [.ref a] I1.kIn hl2) r2 q) fun r s' hq => ?_)
  cases r with
  | error e => exact False.elim hq
  | ok fl =>
    cases fl with
    | ret u => exact ⟨H1, s1, I1, hq⟩
    | next => exact False.elim hq
    | brk => exact False.elim hq
    | cont => exact False.elim hq
end
end GZ
set_option maxHeartbeats 4000000
/-! zip(range(n), generator): one turn -/
namespace GZ
open PySem PySem.Spec PyProof.Rows GenW L2 RZ
section
variable {P : Program} {w : World} {A : Around} {E : Value → Shared → Prop} {s : Shared}
theorem nextOf_rng_item {it : Addr} {x left step : Int} {Q : Value → Shared → Prop} (hit : IsRangeIter s.heap it x left step) (hleft : 0 < left)
    (hQ : ∀ h', IsRangeIter h' it (x + step) (left - 1) step → Heap.SameBut it s.heap h' → Q (.int x s.toks) { s with heap := h', toks := s.toks + 1 }) :
    wpAny (model P w) A (Builtin.SmallTypes.nextOf (.ref it)) Q E s := by
  have hT : s.TypeIs (.ref it) "range_iterator" := ⟨_, hit, rfl⟩
  unfold Builtin.SmallTypes.nextOf
  refine wpAny_bind (wpAny_callSpecial?_slot (name := Str.ofString "__next__") hT F.slot_range_iterator_next
    (call_meets F.slot_range_iterator_next hT F.entry_range_iterator_next (F.args_range_iterator_next_1 _) (AutoRange.range_iterator___next___range_iterator_1 it x left step (by omega)) ⟨hit, ?_⟩))
  exact wpAny_pure (hQ _ (Heap.get?_update_self _ (Heap.get?_update_self _ hit rfl) rfl) ((Heap.SameBut.update ..).trans (Heap.SameBut.update ..)))
theorem nextOf_rng_end {it : Addr} {x left step : Int} {Q : Value → Shared → Prop} (hh : A.handled = none) (hit : IsRangeIter s.heap it x left step) (hleft : left ≤ 0)
    (hE : ∀ h' e, Heap.ExtBut it s.heap h' → (∃ o, h'.get? e = some o ∧ o.cls = .type "StopIteration") → E (.ref e) { s with heap := h' }) : wpAny (model P w) A (Builtin.SmallTypes.nextOf (.ref it)) Q E s := by
  have hT : s.TypeIs (.ref it) "range_iterator" := ⟨_, hit, rfl⟩
  unfold Builtin.SmallTypes.nextOf
  refine wpAny_bind (wpAny_callSpecial?_slot (name := Str.ofString "__next__") hT F.slot_range_iterator_next
    (wpAny_call_entry F.slot_range_iterator_next hT F.entry_range_iterator_next ?_ (F.args_range_iterator_next_1 _)))
  show wpAny _ _ (field (.ref it) 0 >>= _) _ _ s
  refine wpAny_bind (wpAny_field hit rfl (x := rawInt x) rfl ?_)
  show wpAny _ _ (field (.ref it) 1 >>= _) _ _ s
  refine wpAny_bind (wpAny_field hit rfl (x := rawInt left) rfl ?_)
  show wpAny _ _ (field (.ref it) 2 >>= _) _ _ s
  refine wpAny_bind (wpAny_field hit rfl (x := rawInt step) rfl ?_)
  show wpAny _ _ (if left ≤ 0 then _ else _) _ _ s
  rw [if_pos hleft]
  refine wpAny_bind (wpAny_rule ?_)
  refine wpAny_bind ?_
  show wpAny _ _ (newExc (.type "StopIteration") [] >>= _) _ _ _
  refine wpAny_bind ?_
  simp only [newExc, newTuple]
  refine wpAny_bind (wpAny_newObj_type ?_ (by size_fits))
  refine wpAny_bind (m := firstArgMember _ _) (wpAny_of_eq (a := Value.none) (by first | rfl | (simp only [firstArgMember]; rfl)) ?_)
  refine wpAny_newObj_type ?_ (by size_fits)
  simp only [raiseNew]
  refine wpAny_bind (wpAny_handled ?_)
  first | rw [show A.in1.handled = none from hh] | rw [hh]
  refine wpAny_bind (wpAny_pure (wpAny_throw ?_))
  exact hE _ _ (((Heap.ExtBut.refl it s.heap).push _).push _) ⟨_, Heap.get?_push_size _ rfl, rfl⟩
theorem nextOf_gen {a : Addr} {g n : Nat} {gs : GenState} {F : Nat → Shared → Shared → Prop} {Y : Protocol} {Q : Value → Shared → Prop} (hh : A.handled = none)
    (hl : s.heap.NoLimit) (hroom : A.depth < recursionLimit) (hg : s.heap.IsGen a g) (hgs : s.gens[g]? = some gs)
    (hgo : gs.Goes (model P w) A.in1 (fun n s₀ r s₁ => r = .ok (.ret .none) ∧ F n s₀ s₁) Y n (.send .none) (s.setGen g .running))
    (hY : ∀ v s₁ gs', gs'.bare = true → Y (n - 1) (s.setGen g .running) v s₁ (fun r' s'' => match n with
        | 0 => False
        | m + 1 => gs'.Goes (model P w) A.in1 (fun n s₀ r s₁ => r = .ok (.ret .none) ∧ F n s₀ s₁) Y m r' s'') → Q v (s₁.setGen g gs'))
    (hE : ∀ s₁, F n (s.setGen g .running) s₁ → ∀ h' e, (∀ b o, s₁.heap.get? b = some o → h'.get? b = some o) → (∃ o, h'.get? e = some o ∧ o.cls = .type "StopIteration") → E (.ref e) { s₁.setGen g .finished with heap := h' }) :
    wpAny (model P w) A (Builtin.SmallTypes.nextOf (.ref a)) Q E s := by
  unfold Builtin.SmallTypes.nextOf
  refine wpAny_bind (wpAny_callSpecial?_slot (name := Str.ofString "__next__") hg.typeIs slot_gen_next
    (wpAny_call_entry slot_gen_next hg.typeIs entry_gen_next ?_ (args_gen_next _)))
  show wpAny _ A.in1 (Builtin.Generator.genWake (.ref a) (.send .none)) _ _ s
  unfold Builtin.Generator.genWake
  refine wpAny_bind (wpAny_holding (wpAny_genNumber hg (wpAny_bind (wpAny_genState hgs ?_))))
  cases gs with
  | running => exact hgo.elim
  | finished => exact hgo.elim
  | _ =>
    refine wpAny_bind (wpAny_roomToWake hl hroom ?_)
    show wpAny _ A.in1 (.resume g (.send .none) [] _) _ _ s
    refine wpAny_resumeQ hgs hgo (fun x s₁ hx => ?_) (fun v s₁ gs' hb hv => ?_)
    · obtain ⟨hr, hp⟩ := hx
      have hres : End.result (.ret x) = .returned .none := by rw [hr]; rfl
      first | rw [hres] | simp only [hres]
      show wpAny _ A.in1 (newExc (.type "StopIteration") [] >>= _) _ _ _
      refine wpAny_bind ?_
      simp only [newExc, newTuple]
      refine wpAny_bind (wpAny_newObj_type ?_ (by size_fits))
      refine wpAny_bind (m := firstArgMember _ _) (wpAny_of_eq (a := Value.none) (by first | rfl | (simp only [firstArgMember]; rfl)) ?_)
      refine wpAny_newObj_type ?_ (by size_fits)
      simp only [raiseNew]
      refine wpAny_bind (wpAny_bind (wpAny_handled ?_))
      first | rw [show A.in1.handled = none from hh] | rw [hh]
      refine wpAny_throw ?_
      exact hE s₁ hp _ _ (fun b o hb => Heap.get?_push_of_some _ (Heap.get?_push_of_some _ hb)) ⟨_, Heap.get?_push_size _ rfl, rfl⟩
    · exact wpAny_pure ⟨v, rfl, wpAny_pure (hY v s₁ gs' hb hv)⟩

/-- at the waking: the zip works, its pair holds the number, the range has turned -/
structure WkZ (z TI TO ri : Addr) (x left : Int) (u b : Value) (s s' : Shared) : Prop where
  os : s'.os = s.os
  bare : AllBare s.gens → AllBare s'.gens
  keep : ∀ c o, c ≠ z → c ≠ TO → c ≠ ri → s.heap.get? c = some o → s'.heap.get? c = some o
  zip : IsZip s'.heap z TI TO .ellipsis
  pair : IsPair s'.heap TO u b
  rng : IsRangeIter s'.heap ri (x + 1) (left - 1) 1
structure ZApart (z TI TO ri a : Addr) : Prop where
  TIz : TI ≠ z
  TOz : TO ≠ z
  riz : ri ≠ z
  TITO : TI ≠ TO
  TIri : TI ≠ ri
  TOri : TO ≠ ri
  az : a ≠ z
  aTO : a ≠ TO
  ari : a ≠ ri

theorem zipG_item {z TI TO ri a : Addr} {g n : Nat} {gs : GenState} {x left : Int} {u0 b0 : Value} {F : Nat → Shared → Shared → Prop} {Y : Protocol} {Q : Value → Shared → Prop} (hh : A.handled = none) (D : ZApart z TI TO ri a)
    (hz : IsZip s.heap z TI TO .none) (hTI : IsPair s.heap TI (.ref ri) (.ref a)) (hTO : IsPair s.heap TO u0 b0) (hr : IsRangeIter s.heap ri x left 1) (hleft : 0 < left)
    (hc : ∀ h : Heap, (∀ c o, c ≠ z → c ≠ TO → c ≠ ri → s.heap.get? c = some o → h.get? c = some o) → h.NoLimit) (hroom : A.depth < recursionLimit) (hg : s.heap.IsGen a g) (hgs : s.gens[g]? = some gs)
    (hgo : ∀ u s', WkZ z TI TO ri x left u b0 s s' → gs.Goes (model P w) A.in1 (fun n s₀ r s₁ => r = .ok (.ret .none) ∧ F n s₀ s₁) Y n (.send .none) s')
    (hY : ∀ u s' v s₁ gs', (∃ t, u = Value.int x t) → WkZ z TI TO ri x left u b0 s s' → gs'.bare = true → Y (n - 1) s' v s₁ (fun r' s'' => match n with
        | 0 => False
        | m + 1 => gs'.Goes (model P w) A.in1 (fun n s₀ r s₁ => r = .ok (.ret .none) ∧ F n s₀ s₁) Y m r' s'') →
        IsZip s₁.heap z TI TO .ellipsis ∧ IsPair s₁.heap TO u b0 ∧ ∀ h', IsZip h' z TI TO (rawInt s₁.heap.objs.size) → IsPair h' TO u v → IsPair h' s₁.heap.objs.size u v →
          (∀ c o, c ≠ z → c ≠ TO → s₁.heap.get? c = some o → h'.get? c = some o) → Q (.ref s₁.heap.objs.size) { s₁.setGen g gs' with heap := h' })
    (hE : ∀ u s' s₁, WkZ z TI TO ri x left u b0 s s' → F n s' s₁ → IsZip s₁.heap z TI TO .ellipsis ∧ ∀ h' e, (∀ c o, c ≠ z → s₁.heap.get? c = some o → h'.get? c = some o) → (∃ o, h'.get? z = some o ∧ ∀ v, o.data ≠ .cell v) → (∃ o, h'.get? e = some o ∧ o.cls = .type "StopIteration") → E (.ref e) { s₁.setGen g .finished with heap := h' }) :
    wpAny (model P w) A (Builtin.«zip.__next__» ⟨[.ref z], []⟩) (fun fin s' => ∃ v, fin = .done (.ret v) ∧ Q v s') E s := by
  show wpAny _ _ (field (.ref z) 2 >>= _) _ _ _
  refine wpAny_bind (wpAny_field hz rfl (x := .bool false) rfl ?_)
  show wpAny _ _ (field (.ref z) 3 >>= _) _ _ _
  refine wpAny_bind (wpAny_field hz rfl (x := .ref TI) rfl ?_)
  refine wpAny_bind (wpAny_seqItems hTI rfl ?_)
  show wpAny _ _ (Builtin.SmallTypes.ownedTupleIsFree (.ref z) >>= _) _ _ _
  refine wpAny_bind ?_
  unfold Builtin.SmallTypes.ownedTupleIsFree
  refine wpAny_bind (wpAny_field hz rfl (x := .none) rfl (wpAny_pure ?_))
  simp only [if_true]
  refine wpAny_bind (wpAny_rule ?_)
  refine wpAny_bind (wpAny_field hz rfl (x := .ref TO) rfl ?_)
  refine wpAny_bind (wpAny_setField_rec hz (by simp) fun h₁ hz₁ hs₁ => ?_)
  replace hz₁ : IsZip h₁ z TI TO .ellipsis := hz₁
  refine wpAny_bind ?_
  simp only [List.zipIdx_cons, List.zipIdx_nil, List.forIn_cons, List.forIn_nil]
  refine wpAny_bind (wpAny_bind (wpAny_onRaise ?_))
  show wpAny _ _ (Builtin.SmallTypes.nextOf (.ref ri) >>= _) _ _ _
  have hr₁ : IsRangeIter h₁ ri x left 1 := hs₁.extBut _ _ D.riz hr
  refine wpAny_bind (nextOf_rng_item (s := { s with heap := h₁ }) hr₁ hleft fun h₂ hr₂ hs₂ => wpAny_pure ?_)
  have hTO₂ : IsPair h₂ TO u0 b0 := hs₂.extBut _ _ D.TOri (hs₁.extBut _ _ D.TOz hTO)
  refine wpAny_bind (wpAny_seqItems (s := { s with heap := h₂, toks := _ }) hTO₂ rfl ?_)
  refine wpAny_bind (wpAny_updateSeq_pair (s := { s with heap := h₂, toks := _ }) hTO₂ fun h₃ hTO₃ hs₃ => ?_)
  replace hTO₃ : IsPair h₃ TO (.int x s.toks) b0 := hTO₃
  replace hs₃ : Heap.SameBut TO h₂ h₃ := hs₃
  replace hs₂ : Heap.SameBut ri h₁ h₂ := hs₂
  replace hs₁ : Heap.SameBut z s.heap h₁ := hs₁
  refine wpAny_bind (wpAny_letGo (wpAny_pure ?_))
  refine wpAny_bind (wpAny_bind (wpAny_onRaise ?_))
  show wpAny _ _ (Builtin.SmallTypes.nextOf (.ref a) >>= _) _ _ _
  have kp : ∀ c o, c ≠ z → c ≠ TO → c ≠ ri → s.heap.get? c = some o → h₃.get? c = some o := fun c o c1 c2 c3 e => hs₃.extBut _ _ c2 (hs₂.extBut _ _ c3 (hs₁.extBut _ _ c1 e))
  have hg₃ : h₃.IsGen a g := by
    obtain ⟨o, nm, qn, ho, r⟩ := hg
    exact ⟨o, nm, qn, kp a o D.az D.aTO D.ari ho, r⟩
  have hz₃ : IsZip h₃ z TI TO .ellipsis := hs₃.extBut _ _ D.TOz.symm (hs₂.extBut _ _ D.riz.symm hz₁)
  have wk : WkZ z TI TO ri x left (.int x s.toks) b0 s (({ s with heap := h₃, toks := s.toks + 1 } : Shared).setGen g .running) :=
    ⟨rfl, fun hb => allBare_setGen (s := { s with heap := h₃, toks := s.toks + 1 }) hb rfl, kp, hz₃, hTO₃, hs₃.extBut _ _ D.TOri.symm hr₂⟩
  refine wpAny_bind (nextOf_gen (s := { s with heap := h₃, toks := s.toks + 1 }) (g := g) (n := n) (gs := gs) (F := F) (Y := Y) hh (hc h₃ kp) hroom hg₃ hgs (hgo _ _ wk) (fun v s₁ gs' hb hv => ?_) fun s₁ hF h' e hk he => ?_)
  · obtain ⟨z1, t1, q⟩ := hY _ _ v s₁ gs' ⟨_, rfl⟩ wk hb hv
    refine wpAny_pure ?_
    refine wpAny_bind (wpAny_seqItems (s := s₁.setGen g gs') t1 rfl ?_)
    refine wpAny_bind (wpAny_updateSeq_pair (s := s₁.setGen g gs') t1 fun h₅ hTO₅ hs₅ => ?_)
    replace hTO₅ : IsPair h₅ TO (.int x s.toks) v := hTO₅
    replace hs₅ : Heap.SameBut TO s₁.heap h₅ := hs₅
    refine wpAny_bind (wpAny_letGo (wpAny_pure (wpAny_pure ?_)))
    refine wpAny_bind (wpAny_seqItems (s := { s₁.setGen g gs' with heap := h₅ }) hTO₅ rfl ?_)
    refine wpAny_bind (wpAny_newTuple ?_)
    have hz₅ : IsZip h₅ z TI TO .ellipsis := hs₅.extBut _ _ D.TOz.symm z1
    have hzlt : z < h₅.objs.size := Heap.lt_size hz₅
    have hsz : h₅.objs.size = s₁.heap.objs.size := hs₅.1
    show wpAny _ _ (Builtin.SmallTypes.ownedTupleHandOut (.ref z) (.ref h₅.objs.size) >>= _) _ _ _
    refine wpAny_bind ?_
    unfold Builtin.SmallTypes.ownedTupleHandOut
    have hz₆ : IsZip (h₅.push { cls := .type "tuple", data := .seq #[.int x s.toks, v] }) z TI TO .ellipsis := Heap.get?_push_of_some _ hz₅
    refine wpAny_bind (wpAny_setField_rec (s := { s₁.setGen g gs' with heap := h₅.push { cls := .type "tuple", data := .seq #[.int x s.toks, v] } }) hz₆ (by simp) fun h₇ hz₇ hs₇ => ?_)
    replace hz₇ : IsZip h₇ z TI TO (rawInt h₅.objs.size) := hz₇
    refine wpAny_setField_rec (s := { s₁.setGen g gs' with heap := h₇ }) hz₇ (by simp) fun h₈ hz₈ hs₈ => ?_
    replace hz₈ : IsZip h₈ z TI TO (rawInt h₅.objs.size) := hz₈
    replace hs₇ : Heap.SameBut z (h₅.push { cls := .type "tuple", data := .seq #[.int x s.toks, v] }) h₇ := hs₇
    replace hs₈ : Heap.SameBut z h₇ h₈ := hs₈
    have up : ∀ c o, c ≠ z → h₅.get? c = some o → h₈.get? c = some o := fun c o c1 e => hs₈.extBut _ _ c1 (hs₇.extBut _ _ c1 (Heap.get?_push_of_some _ e))
    have hT₈ : IsPair h₈ h₅.objs.size (.int x s.toks) v := hs₈.extBut _ _ (Nat.ne_of_gt hzlt) (hs₇.extBut _ _ (Nat.ne_of_gt hzlt) (Heap.get?_push_size _ rfl))
    rw [hsz] at hz₈ hT₈
    refine wpAny_pure ⟨_, rfl, ?_⟩
    show Q (.ref h₅.objs.size) _
    rw [hsz]
    exact q h₈ hz₈ (up _ _ D.TOz hTO₅) hT₈ fun c o c1 c2 e => up c o c1 (hs₅.extBut _ _ c2 e)
  · obtain ⟨z1, q⟩ := hE _ _ s₁ wk hF
    obtain ⟨oe, hoe, hce⟩ := he
    have hz₄ : IsZip h' z TI TO .ellipsis := hk _ _ z1
    have hez : e ≠ z := fun x => by subst x; rw [hz₄] at hoe; cases hoe; simp at hce
    refine wpAny_setField_rec (s := { s₁.setGen g .finished with heap := h' }) hz₄ (by simp) fun h₅ hz₅ hs₅ => ?_
    replace hs₅ : Heap.SameBut z h' h₅ := hs₅
    exact q h₅ e (fun c o c1 x => hs₅.extBut _ _ c1 (hk c o x)) ⟨_, hz₅, fun v q => by simp at q⟩ ⟨oe, hs₅.extBut _ _ hez hoe, hce⟩

theorem zipG_end {z TI TO ri a : Addr} {x left : Int} {u0 b0 : Value} {Q : PySem.Fin → Shared → Prop} (hh : A.handled = none) (D : ZApart z TI TO ri a)
    (hz : IsZip s.heap z TI TO .none) (hTI : IsPair s.heap TI (.ref ri) (.ref a)) (hTO : IsPair s.heap TO u0 b0) (hr : IsRangeIter s.heap ri x left 1) (hleft : left ≤ 0)
    (hE : ∀ h' e, (∀ c o, c ≠ z → c ≠ ri → s.heap.get? c = some o → h'.get? c = some o) → (∃ o, h'.get? e = some o ∧ o.cls = .type "StopIteration") → E (.ref e) { s with heap := h' }) :
    wpAny (model P w) A (Builtin.«zip.__next__» ⟨[.ref z], []⟩) Q E s := by
  show wpAny _ _ (field (.ref z) 2 >>= _) _ _ _
  refine wpAny_bind (wpAny_field hz rfl (x := .bool false) rfl ?_)
  show wpAny _ _ (field (.ref z) 3 >>= _) _ _ _
  refine wpAny_bind (wpAny_field hz rfl (x := .ref TI) rfl ?_)
  refine wpAny_bind (wpAny_seqItems hTI rfl ?_)
  show wpAny _ _ (Builtin.SmallTypes.ownedTupleIsFree (.ref z) >>= _) _ _ _
  refine wpAny_bind ?_
  unfold Builtin.SmallTypes.ownedTupleIsFree
  refine wpAny_bind (wpAny_field hz rfl (x := .none) rfl (wpAny_pure ?_))
  simp only [if_true]
  refine wpAny_bind (wpAny_rule ?_)
  refine wpAny_bind (wpAny_field hz rfl (x := .ref TO) rfl ?_)
  refine wpAny_bind (wpAny_setField_rec hz (by simp) fun h₁ hz₁ hs₁ => ?_)
  replace hz₁ : IsZip h₁ z TI TO .ellipsis := hz₁
  replace hs₁ : Heap.SameBut z s.heap h₁ := hs₁
  refine wpAny_bind ?_
  simp only [List.zipIdx_cons, List.zipIdx_nil, List.forIn_cons, List.forIn_nil]
  refine wpAny_bind (wpAny_bind (wpAny_onRaise ?_))
  show wpAny _ _ (Builtin.SmallTypes.nextOf (.ref ri) >>= _) _ _ _
  have hr₁ : IsRangeIter h₁ ri x left 1 := hs₁.extBut _ _ D.riz hr
  refine wpAny_bind (nextOf_rng_end (s := { s with heap := h₁ }) hh hr₁ hleft fun h₂ e hs₂ he => ?_)
  replace hs₂ : Heap.ExtBut ri h₁ h₂ := hs₂
  obtain ⟨oe, hoe, hce⟩ := he
  have hz₂ : IsZip h₂ z TI TO .ellipsis := hs₂ _ _ D.riz.symm hz₁
  have hez : e ≠ z := fun x => by subst x; rw [hz₂] at hoe; cases hoe; simp at hce
  refine wpAny_setField_rec (s := { s with heap := h₂ }) hz₂ (by simp) fun h₃ _ hs₃ => ?_
  replace hs₃ : Heap.SameBut z h₂ h₃ := hs₃
  exact hE h₃ e (fun c o c1 c3 x => hs₃.extBut _ _ c1 (hs₂ _ _ c3 (hs₁.extBut _ _ c1 x))) ⟨oe, hs₃.extBut _ _ hez hoe, hce⟩

abbrev zgH1 (h : Heap) (lo hi : Int) : Heap := h.push { cls := .type "range_iterator", data := .fields #[rawInt lo, rawInt (Builtin.Range.rangeSize lo hi 1), rawInt 1] }
abbrev zgH2 (h : Heap) (lo hi : Int) (a : Addr) : Heap := (zgH1 h lo hi).push { cls := .type "tuple", data := .seq #[.ref h.objs.size, .ref a] }
abbrev zgH3 (h : Heap) (lo hi : Int) (a : Addr) : Heap := (zgH2 h lo hi a).push { cls := .type "tuple", data := .seq #[.none, .none] }
abbrev zgH4 (h : Heap) (lo hi : Int) (a : Addr) : Heap := (zgH3 h lo hi a).push { cls := .type "zip", data := .fields #[.none, .bool false, .bool false, .ref (zgH1 h lo hi).objs.size, .ref (zgH2 h lo hi a).objs.size] }
theorem meets_zipG (r a : Addr) (g : Nat) (lo hi : Int) (t u v : Tok) (hs : Builtin.Range.small lo hi 1 = true) :
    Meets (Builtin.«zip.__new__» ⟨[.type "zip", .ref r, .ref a], []⟩) (fun _ R s => IsRange s.heap r lo hi 1 t u v ∧ s.heap.IsGen a g ∧
      R (.ok (.ret (.ref (zgH3 s.heap lo hi a).objs.size))) { s with heap := zgH4 s.heap lo hi a }) :=
  .of_wp fun prog w A R s h => by
    obtain ⟨hp, g', d, tk, os⟩ := s; obtain ⟨hl1, hl2, h⟩ := h
    have hsub := sub_zip
    have hL1 : IsRange (Shared.heap ⟨hp, g', d, tk, os⟩) r lo hi 1 t u v := hl1
    have hL2 : Heap.IsGen (Shared.heap ⟨zgH1 hp lo hi, g', d, tk, os⟩) a g := Heap.IsGen.keeps hl2 fun b o e => Heap.get?_push_of_some _ e
    wp_walk using wpAny_pyIter_range hL1 hs, wpAny_pyIter_gen hL2
    exact ⟨_, rfl, h⟩
theorem call_zipG {r a : Addr} {g : Nat} {lo hi : Int} {t u v : Tok} {Q : Value → Shared → Prop} (hr : IsRange s.heap r lo hi 1 t u v) (hs : Builtin.Range.small lo hi 1 = true) (hg : s.heap.IsGen a g)
    (h : ∀ h', IsZip h' (s.heap.objs.size + 3) (s.heap.objs.size + 1) (s.heap.objs.size + 2) .none → IsPair h' (s.heap.objs.size + 1) (.ref s.heap.objs.size) (.ref a) →
      IsPair h' (s.heap.objs.size + 2) .none .none → IsRangeIter h' s.heap.objs.size lo (Builtin.Range.rangeSize lo hi 1) 1 → h'.objs.size = s.heap.objs.size + 4 →
      (∀ c o, s.heap.get? c = some o → h'.get? c = some o) → Q (.ref (s.heap.objs.size + 3)) { s with heap := h' }) :
    wpAny (model P w) A (call (.type "zip") [.ref r, .ref a]) Q E s := by
  refine callType_new F.called_zip (by decide) (F.typeCall_zip_2 _ _) (F.newCall_zip_2 _ _) (fun obj => F.args_object_init_3 obj _ _) F.entry_zip_new
    (meets_zipG r a g lo hi t u v hs) ⟨hr, hg, ?_⟩
  have z1 : (zgH1 s.heap lo hi).objs.size = s.heap.objs.size + 1 := Heap.size_push ..
  have z2 : (zgH2 s.heap lo hi a).objs.size = s.heap.objs.size + 2 := by rw [Heap.size_push, z1]
  have z3 : (zgH3 s.heap lo hi a).objs.size = s.heap.objs.size + 3 := by rw [Heap.size_push, z2]
  have z4 : (zgH4 s.heap lo hi a).objs.size = s.heap.objs.size + 4 := by rw [Heap.size_push, z3]
  have g4 : (zgH4 s.heap lo hi a).get? (zgH3 s.heap lo hi a).objs.size = some _ := Heap.get?_push_size _ rfl
  have g3 : (zgH4 s.heap lo hi a).get? (zgH2 s.heap lo hi a).objs.size = some _ := Heap.get?_push_of_some _ (Heap.get?_push_size _ rfl)
  have g2 : (zgH4 s.heap lo hi a).get? (zgH1 s.heap lo hi).objs.size = some _ := Heap.get?_push_of_some _ (Heap.get?_push_of_some _ (Heap.get?_push_size _ rfl))
  have g1 : (zgH4 s.heap lo hi a).get? s.heap.objs.size = some _ := Heap.get?_push_of_some _ (Heap.get?_push_of_some _ (Heap.get?_push_of_some _ (Heap.get?_push_size _ rfl)))
  show _ ∧ _
  rw [z1, z2, z3] at g4
  rw [z2] at g3
  rw [z1] at g2
  rw [z3]
  exact ⟨⟨_, g4, rfl⟩, h _ g4 g2 g3 g1 z4 fun c o x =>
    Heap.get?_push_of_some _ (Heap.get?_push_of_some _ (Heap.get?_push_of_some _ (Heap.get?_push_of_some _ x)))⟩
end
end GZ
set_option maxHeartbeats 4000000
/-! [x for t, x in zip(range(n), g)] -/
namespace GZ
open PySem PySem.Spec PyProof.Rows GenW L2 RZ

theorem un_off {fs : List Addr} {H H' : Hp} {h h1 h2 : Heap} (u : Un fs [] H H' h h1) (k : ∀ b o, b < h.objs.size → h1.get? b = some o → h2.get? b = some o) : Un fs [] H H' h h2 where
  keep := fun b o e n hb hx => k b o (Heap.lt_size e) (u.keep b o e n hb hx)
  slot := fun b o e n hb hx => by
    obtain ⟨sl, q⟩ := u.slot b o e n hb hx
    exact ⟨sl, k b _ (Heap.lt_size e) q⟩
  free := u.free
  there := fun b o e hx => by
    obtain ⟨o', q⟩ := u.there b o e hx
    exact ⟨o', k b o' (Heap.lt_size e) q⟩
  tups := u.tups
  frzs := u.frzs
  tbls := u.tbls
theorem hok_off {P : Program} {w : World} {H : Hp} {h h' : Heap} {Ws : List Addr} (x : HOk P w H h) (hn : ∀ b ∈ Ws, H b = none) (k : ∀ b o, b ∉ Ws → h.get? b = some o → h'.get? b = some o) : HOk P w H h' := fun b u q => by
  have nt : ∀ c v, H c = some v → c ∉ Ws := fun c v y hc => by rw [hn c hc] at y; cases y
  refine (x b u q).stay (fun c v hc y => k c v ?_ y) (fun _ y => y) fun _ _ y => y
  rcases hc with y | y
  · rw [y]; exact nt b u q
  · exact nt c _ y
theorem noLimit_off {h h' : Heap} (x : h.NoLimit) (k : ∀ o, h.get? cStatics = some o → h'.get? cStatics = some o) : h'.NoLimit := by
  obtain ⟨mc, hns, hnn⟩ := x
  exact ⟨mc, hns.at' fun o e => k o e, hnn⟩
theorem noLimit_lt {h : Heap} (x : h.NoLimit) : cStatics < h.objs.size := let ⟨_, hn, _⟩ := x; hn.lt

/-- the loop's state: i items are out -/
structure LSt (P : Program) (w : World) (outer : List Env) (A : Around) (H : Hp) (sc : Shared) (n : Nat) (Y Qe : List V → Hp → Prop) (z TI TO ri D C a : Addr) (g : Nat) (i : Nat) (s : Shared) : Prop where
  le : i ≤ n
  zip : IsZip s.heap z TI TO .none
  ti : IsPair s.heap TI (.ref ri) (.ref a)
  to : ∃ x y, IsPair s.heap TO x y
  rng : IsRangeIter s.heap ri i ((n : Int) - i) 1
  lst : ∃ acc c, s.heap.get? D = some (lstObj acc c) ∧ acc.size = i ∧ (i = 0 ∨ ∃ H' ys, Vals ys acc.toList ∧ Un (frs outer) [] H H' sc.heap s.heap ∧ HOk P w H' s.heap ∧ (∀ b ∈ [z, TO, ri, D, C, TI], H' b = none) ∧ Y ys H')
  ns : ∃ m, s.heap.Ns C m
  gen : s.heap.IsGen a g
  os : s.os = sc.os
  bare : AllBare s.gens
  lim : s.heap.NoLimit
  wake : ∃ gs, s.gens[g]? = some gs ∧ (i < n → ∀ s', s'.os = sc.os → AllBare s'.gens → (∀ b o, b ∉ [z, TO, ri, D, C, TI] → s.heap.get? b = some o → s'.heap.get? b = some o) → (∀ b ∈ [z, TO, ri, D, C, TI], ∃ o, s'.heap.get? b = some o ∧ ∀ v, o.data ≠ .cell v) →
    s'.heap.get? D = s.heap.get? D → gs.Goes (model P w) A.in1.in1 (REndW P w outer H sc [z, TO, ri, D, C, TI] D Qe) (YItemW P w outer H sc [z, TO, ri, D, C, TI] D a g (n + 1) Y) (n - i + 1) (.send .none) s')
/-- all addresses lie apart -/
structure LAp (z TI TO ri D C a : Addr) (lo : Nat) : Prop where
  za : ZApart z TI TO ri a
  zD : z ≠ D
  TOD : TO ≠ D
  riD : ri ≠ D
  TID : TI ≠ D
  zC : z ≠ C
  TOC : TO ≠ C
  riC : ri ≠ C
  TIC : TI ≠ C
  DC : D ≠ C
  aD : a ≠ D
  aC : a ≠ C
  lo : ∀ b ∈ [z, TO, ri, D, C, TI], lo ≤ b
section
variable {P : Program} {w : World} {outer : List Env} {A : Around} {H : Hp} {sc : Shared} {n : Nat} {Y Qe : List V → Hp → Prop} {z TI TO ri D C a : Addr} {g : Nat} {lo : Nat}
theorem not_ws {b : Addr} (h : b ∉ [z, TO, ri, D, C, TI]) : b ≠ z ∧ b ≠ TO ∧ b ≠ ri ∧ b ≠ D ∧ b ≠ C ∧ b ≠ TI := by
  simpa using h
theorem ns_nocell {h : Heap} {m : Str → Option Value} (x : h.Ns C m) : ∃ o, h.get? C = some o ∧ ∀ v, o.data ≠ .cell v := by
  obtain ⟨o, es, ep, e, hd, _⟩ := x
  exact ⟨o, e, fun v q => by rw [hd] at q; cases q⟩
/-- one turn of the zip: an item, the generator's end, the range's end -/
theorem turn_zipG {i : Nat} {s : Shared} {Q : Option Value → Shared → Prop} {E : Value → Shared → Prop} (hh : A.handled = none) (hroom : A.depth < recursionLimit) (ap : LAp z TI TO ri D C a lo) (hlo : sc.heap.objs.size ≤ lo) (hst : cStatics < lo) (L : LSt P w outer A H sc n Y Qe z TI TO ri D C a g i s)
    (hi : i < n → ∀ s₁ gs' h' u v acc c x H' ys, s₁.os = sc.os → AllBare (s₁.setGen g gs').gens → s₁.heap.NoLimit → s₁.heap.IsGen a g → g < s₁.gens.size → RelV x v → Vals ys acc.toList → s₁.heap.get? D = some (lstObj acc c) → acc.size = i → Un (frs outer) [] H H' sc.heap s₁.heap → HOk P w H' s₁.heap → (∀ b ∈ [z, TO, ri, D, C, TI], H' b = none) →
      Y (ys ++ [x]) H' → (i + 1 < n → ∀ s', SleptW [z, TO, ri, D, C, TI] D v s₁ s' → gs'.Goes (model P w) A.in1.in1 (REndW P w outer H sc [z, TO, ri, D, C, TI] D Qe) (YItemW P w outer H sc [z, TO, ri, D, C, TI] D a g (n + 1) Y) (n - i) (.send .none) s') →
      IsZip h' z TI TO (rawInt s₁.heap.objs.size) → IsPair h' TI (.ref ri) (.ref a) → (∃ x y, IsPair h' TO x y) → IsRangeIter h' ri ((i + 1 : Nat) : Int) ((n : Int) - ((i + 1 : Nat) : Int)) 1 → IsPair h' s₁.heap.objs.size u v → (∃ m, h'.Ns C m) → (∀ b o, b ≠ z → b ≠ TO → s₁.heap.get? b = some o → h'.get? b = some o) →
      Q (some (.ref s₁.heap.objs.size)) { s₁.setGen g gs' with heap := h' })
    (he : ∀ s' acc c ys H', s'.os = sc.os → AllBare s'.gens → s'.heap.get? D = some (lstObj acc c) → Vals ys acc.toList → Un (frs outer) [] H H' sc.heap s'.heap → HOk P w H' s'.heap → (∀ b ∈ [z, TO, ri, D, C, TI], H' b = none) → (∃ m, s'.heap.Ns C m) → ((ys.length = n ∧ Y ys H') ∨ (ys.length < n ∧ Qe ys H')) → Q none s') (hn : 0 < n) :
    wpAny (model P w) A (pyNext (.ref z)) Q E s := by
  obtain ⟨gs, hgs, wk⟩ := L.wake
  obtain ⟨x0, y0, hTO⟩ := L.to
  obtain ⟨acc, cc, hD, hsz, hfin⟩ := L.lst
  obtain ⟨mC, hC⟩ := L.ns
  have hgl : g < s.gens.size := (Array.getElem?_eq_some_iff.mp hgs).1
  have hT : s.TypeIs (.ref z) "zip" := ⟨_, L.zip, rfl⟩
  have lt : ∀ b o, sc.heap.get? b = some o → b ∉ [z, TO, ri, D, C, TI] := fun b o e hb => absurd (Nat.lt_of_lt_of_le (Heap.lt_size e) hlo) (Nat.not_lt.mpr (ap.lo b hb))
  have stO : ∀ b, b < lo → b ∉ [z, TO, ri, D, C, TI] := fun b hb hm => absurd hb (Nat.not_lt.mpr (ap.lo b hm))
  refine wpAny_gsz (n := g + 1) hgl ?_
  unfold pyNext
  by_cases hin : i < n
  · refine wpAny_bind (wpAny_attempt (wpAny_callSpecial?_slot (name := Str.ofString "__next__") hT F.slot_zip_next
      (wpAny_call_entry F.slot_zip_next hT F.entry_zip_next (zipG_item (A := A.in1) (a := a) (g := g) (n := n - i + 1) (gs := gs) (F := fun n₀ s₀ s1 => ∃ H' ys acc c, s1.os = sc.os ∧ AllBare s1.gens ∧ Un (frs outer) [] H H' sc.heap s1.heap ∧ HOk P w H' s1.heap ∧ (∀ b ∈ [z, TO, ri, D, C, TI], H' b = none ∧ s1.heap.get? b = s₀.heap.get? b) ∧ s₀.heap.get? D = some (lstObj acc c) ∧ Vals ys acc.toList ∧ Qe ys H')
        (Y := YItemW P w outer H sc [z, TO, ri, D, C, TI] D a g (n + 1) Y) hh ap.za L.zip L.ti hTO L.rng (by omega) ?_ hroom L.gen hgs ?_ ?_ ?_) (F.args_zip_next_1 _))))
    · exact fun h k => noLimit_off L.lim fun o e => by
        obtain ⟨c1, c2, c3, _⟩ := not_ws (stO cStatics hst)
        exact k cStatics o c1 c2 c3 e
    · intro u s' W
      refine wk hin s' (W.os.trans L.os) (W.bare L.bare) (fun b o hb e => ?_) (fun b hb => ?_) ?_
      · obtain ⟨c1, c2, c3, _⟩ := not_ws hb
        exact W.keep b o c1 c2 c3 e
      · have q : b = z ∨ b = TO ∨ b = ri ∨ b = D ∨ b = C ∨ b = TI := by simpa using hb
        rcases q with q | q | q | q | q | q
        · rw [q]; exact ⟨_, W.zip, fun v q => by simp at q⟩
        · rw [q]; exact ⟨_, W.pair, fun v q => by simp at q⟩
        · rw [q]; exact ⟨_, W.rng, fun v q => by simp at q⟩
        · rw [q]; exact ⟨_, W.keep D _ ap.zD.symm ap.TOD.symm ap.riD.symm hD, fun v q => by simp at q⟩
        · rw [q]
          obtain ⟨o, e, hd⟩ := ns_nocell hC
          exact ⟨o, W.keep C o ap.zC.symm ap.TOC.symm ap.riC.symm e, hd⟩
        · rw [q]; exact ⟨_, W.keep TI _ ap.za.TIz ap.za.TITO ap.za.TIri L.ti, fun v q => by simp at q⟩
      · rw [hD]
        exact W.keep D _ ap.zD.symm ap.TOD.symm ap.riD.symm hD
    · intro u s' v s₁ gs' hu W hb hy
      obtain ⟨os1, b1, l1, g1, H', ys, x, acc1, c1, hn1, rv, r1, e1, un, hok, ws, hy1, kap⟩ := hy
      have wD : s₁.heap.get? D = some (lstObj acc cc) := by
        rw [(ws D (by simp)).2]
        exact W.keep D _ ap.zD.symm ap.TOD.symm ap.riD.symm hD
      have e2 : acc1 = acc := by
        have q : s'.heap.get? D = some (lstObj acc cc) := W.keep D _ ap.zD.symm ap.TOD.symm ap.riD.symm hD
        rw [e1] at q
        cases q
        rfl
      subst e2
      have wz : IsZip s₁.heap z TI TO .ellipsis := by
        show s₁.heap.get? z = _
        rw [(ws z (by simp)).2]; exact W.zip
      have wt : IsPair s₁.heap TO u y0 := by
        show s₁.heap.get? TO = _
        rw [(ws TO (by simp)).2]; exact W.pair
      have wr : IsRangeIter s₁.heap ri ((i : Int) + 1) ((n : Int) - i - 1) 1 := by
        show s₁.heap.get? ri = _
        rw [(ws ri (by simp)).2]; exact W.rng
      have wc : s₁.heap.Ns C mC := hC.at' fun o e => by
        rw [(ws C (by simp)).2]
        exact W.keep C o ap.zC.symm ap.TOC.symm ap.riC.symm e
      have wi : IsPair s₁.heap TI (.ref ri) (.ref a) := by
        show s₁.heap.get? TI = _
        rw [(ws TI (by simp)).2]
        exact W.keep TI _ ap.za.TIz ap.za.TITO ap.za.TIri L.ti
      refine ⟨wz, wt, fun h' z' t' p' k' => ?_⟩
      refine wpAny_pure fun hg1 => ?_
      have hgs1 : g < s₁.gens.size := by
        have q : (s₁.setGen g gs').gens.size = s₁.gens.size := setGen_size _ _ _
        have hg1 : g + 1 ≤ (s₁.setGen g gs').gens.size := hg1
        omega
      have hlen : ys.length = i := by
        have q := r1.length
        have q2 : acc1.toList.length = acc1.size := by simp
        omega
      refine hi hin s₁ gs' h' u v acc1 cc x H' ys os1 (allBare_setGen b1 hb) l1 g1 hgs1 rv r1 wD hsz un hok (fun b hb => (ws b hb).1) hy1 (fun hlt s'' Z => kap (by omega) s'' Z) z' (k' TI _ ap.za.TIz ap.za.TITO wi) ⟨_, _, t'⟩ ?_ p' ⟨mC, wc.at' fun o e => k' C o ap.zC.symm ap.TOC.symm e⟩ k'
      have q : IsRangeIter h' ri ((i : Int) + 1) ((n : Int) - i - 1) 1 := k' ri _ ap.za.riz ap.za.TOri.symm wr
      have q1 : ((i + 1 : Nat) : Int) = (i : Int) + 1 := by omega
      have q2 : (n : Int) - ((i + 1 : Nat) : Int) = (n : Int) - i - 1 := by omega
      rw [q1, show (n : Int) - ((i : Int) + 1) = (n : Int) - i - 1 by omega]
      exact q
    · intro u s' s₁ W hF
      obtain ⟨H', ys, acc1, c1, os1, b1, un, hok, ws, e1, r1, hq⟩ := hF
      have wD : s₁.heap.get? D = some (lstObj acc cc) := by
        rw [(ws D (by simp)).2]
        exact W.keep D _ ap.zD.symm ap.TOD.symm ap.riD.symm hD
      have e2 : acc1 = acc := by
        have q : s'.heap.get? D = some (lstObj acc cc) := W.keep D _ ap.zD.symm ap.TOD.symm ap.riD.symm hD
        rw [e1] at q
        cases q
        rfl
      subst e2
      have wz : IsZip s₁.heap z TI TO .ellipsis := by
        show s₁.heap.get? z = _
        rw [(ws z (by simp)).2]; exact W.zip
      have wc : s₁.heap.Ns C mC := hC.at' fun o e => by
        rw [(ws C (by simp)).2]
        exact W.keep C o ap.zC.symm ap.TOC.symm ap.riC.symm e
      refine ⟨wz, fun h' e k' _ he' => ?_⟩
      obtain ⟨o, ho, hce⟩ := he'
      refine wpAny_bind (wpAny_isInstance (T := "StopIteration") (b := true) ⟨o, ho, hce⟩ isSubtype_stop ?_)
      have hlen : ys.length = i := by
        have q := r1.length
        have q2 : acc1.toList.length = acc1.size := by simp
        omega
      have kws : ∀ b o, b ∉ [z, TO, ri, D, C, TI] → s₁.heap.get? b = some o → h'.get? b = some o := fun b o hb e => k' b o (not_ws hb).1 e
      refine wpAny_pure fun _ => ?_
      exact he _ acc1 cc ys H' os1 (allBare_setGen b1 rfl) (k' D _ ap.zD.symm wD) r1 (un_off un fun b o hb e => kws b o (fun hm => absurd (Nat.lt_of_lt_of_le hb hlo) (Nat.not_lt.mpr (ap.lo b hm))) e) (hok_off hok (fun b hb => (ws b hb).1) kws) (fun b hb => (ws b hb).1) ⟨mC, wc.at' fun o e => k' C o ap.zC.symm e⟩ (.inr ⟨by omega, hq⟩)
  · have hie : i = n := by have := L.le; omega
    refine wpAny_bind (wpAny_attempt (wpAny_callSpecial?_slot (name := Str.ofString "__next__") hT F.slot_zip_next
      (wpAny_call_entry F.slot_zip_next hT F.entry_zip_next (zipG_end (A := A.in1) (a := a) hh ap.za L.zip L.ti hTO L.rng (by omega) fun h' e k' he' => ?_) (F.args_zip_next_1 _))))
    obtain ⟨o, ho, hce⟩ := he'
    refine wpAny_bind (wpAny_isInstance (T := "StopIteration") (b := true) ⟨o, ho, hce⟩ isSubtype_stop ?_)
    rcases hfin with q | ⟨H', ys, r1, un, hok, hnn, hy⟩
    · omega
    have kws : ∀ b o, b ∉ [z, TO, ri, D, C, TI] → s.heap.get? b = some o → h'.get? b = some o := fun b o hb e => k' b o (not_ws hb).1 (not_ws hb).2.2.1 e
    refine wpAny_pure fun _ => ?_
    exact he _ acc cc ys H' L.os L.bare (k' D _ ap.zD.symm ap.riD.symm hD) r1 (un_off un fun b o hb e => kws b o (fun hm => absurd (Nat.lt_of_lt_of_le hb hlo) (Nat.not_lt.mpr (ap.lo b hm))) e) (hok_off hok hnn kws) hnn ⟨mC, hC.at' fun o e => k' C o ap.zC.symm ap.riC.symm e⟩ (.inl ⟨by have q := r1.length; have q2 : acc.toList.length = acc.size := (by simp); omega, hy⟩)
end
end GZ
set_option maxHeartbeats 4000000
/-! [x for t, x in zip(range(n), g)], the expression -/
namespace GZ
open PySem PySem.Spec PyProof.Rows GenW L2 RZ
section
variable {P : Program} {w : World} {outer : List Env} {A : Around} {H : Hp} {sc : Shared} {n : Nat} {Y Qe : List V → Hp → Prop} {z TI TO ri D C a : Addr} {g : Nat} {lo : Nat}
/-- the loop of the block -/
theorem loop_zipG {R : Result → Shared → Prop} {t1 t2 : Str} {p1 p2 p3 tpos pos : Pos} {kk : Nat} {iter : Expr} {scope : Scope} {ce : Env} {s : Shared} (hh : A.handled = none) (hroom : A.depth < recursionLimit) (ap : LAp z TI TO ri D C a lo) (hlo : sc.heap.objs.size ≤ lo) (hst : cStatics < lo) (hn : 0 < n) (hns : n ≤ sizeLine)
    (cL : ce.locals = C) (ck : ce.scope.kind = .function) (k1 : ce.kindOf t1 = some .local) (k2 : ce.kindOf t2 = some .local) (hd : (t2 == ("__debug__" : Str)) = false) (hlt : a < lo)
    (he : ∀ s' acc c ys H', s'.os = sc.os → AllBare s'.gens → s'.heap.get? D = some (lstObj acc c) → Vals ys acc.toList → Un (frs outer) [] H H' sc.heap s'.heap → HOk P w H' s'.heap → (∀ b ∈ [z, TO, ri, D, C, TI], H' b = none) → (∃ m, s'.heap.Ns C m) → ((ys.length = n ∧ Y ys H') ∨ (ys.length < n ∧ Qe ys H')) → R (.ok .next) s')
    (L0 : LSt P w outer A H sc n Y Qe z TI TO ri D C a g 0 s) :
    codeAny (model P w) A (.compLoop (.ListComp (.Name t2 p1) [⟨.Tuple [.Name t1 p2, .Name t2 p3] kk tpos, iter, [], 0⟩] scope pos) 0 (.ref z) (.ref D) ce) R s := by
  refine compLoop_any (fun m s' => ∃ i, m = n - i ∧ LSt P w outer A H sc n Y Qe z TI TO ri D C a g i s') ?_ n ⟨0, rfl, L0⟩
  rintro m s ⟨i, rfl, L⟩
  obtain ⟨acc0, c0, hD0, hsz0, _⟩ := L.lst
  refine turn_zipG hh hroom ap hlo hst L (fun hin s₁ gs' h' u v acc c x H' ys os1 b1 l1 g1 hg1 rv r1 wD hsz un hok hnn hy kap z' ti' to' rg' p' ns' k' => ?_) (fun s' acc c ys H' q1 q2 q3 q4 q5 q6 q7 q8 q9 => ?_) hn
  · refine wpAny_letOwnedTupleGo_zip (s := { s₁.setGen g gs' with heap := h' }) z' fun h2 z2 sb2 => ?_
    replace sb2 : Heap.SameBut z h' h2 := sb2
    have Tz : s₁.heap.objs.size ≠ z := fun e => by
      rw [← e] at z'
      have q := (show h'.get? s₁.heap.objs.size = _ from p').symm.trans (show h'.get? s₁.heap.objs.size = _ from z')
      simp at q
    have pT : IsPair h2 s₁.heap.objs.size u v := sb2.extBut _ _ Tz p'
    obtain ⟨mC, hC⟩ := ns'
    refine wpAny_assign_Tuple (s := { s₁.setGen g gs' with heap := h2 }) (items := #[u, v]) hh ⟨_, pT, rfl, _, rfl⟩ rfl rfl fun h3 x3 => ?_
    replace x3 : Heap.ExtBut h2.objs.size h2 h3 := x3
    have k3 : ∀ b o, h2.get? b = some o → h3.get? b = some o := fun b o e => x3 b o (Nat.ne_of_lt (Heap.lt_size e)) e
    have c2 : h2.Ns C mC := hC.at' fun o e => sb2.extBut _ _ ap.zC.symm e
    have c3 : h3.Ns ce.locals mC := by rw [cL]; exact c2.at' fun o e => k3 _ o e
    refine assignInOrder_cons (wpAny_assign_Name (wpAny_storeName_local k1 c3 (fun h4 c4 sb4 => ?_) (by rw [ck]; rfl)))
    replace sb4 : Heap.SameBut ce.locals h3 h4 := sb4
    refine assignInOrder_cons (wpAny_assign_Name (wpAny_storeName_local (s := { s₁.setGen g gs' with heap := h4, toks := _ }) k2 c4 (fun h5 c5 sb5 => ?_) (by rw [ck]; rfl)))
    replace sb5 : Heap.SameBut ce.locals h4 h5 := sb5
    refine assignInOrder_nil ?_
    rw [cL] at sb4 sb5
    refine wpAny_tests_nil ?_
    rw [if_pos rfl]
    refine wpAny_Name (wpAny_loadName_local ck k2 c5 (v := v) (by simp) ?_) hd
    have kk5 : ∀ b o, b ≠ z → b ≠ TO → b ≠ C → s₁.heap.get? b = some o → h5.get? b = some o := fun b o b1 b2 b3 e => sb5.extBut _ _ b3 (sb4.extBut _ _ b3 (k3 b o (sb2.extBut _ _ b1 (k' b o b1 b2 e))))
    have hD5 : h5.get? D = some (lstObj acc c) := kk5 D _ ap.zD.symm ap.TOD.symm ap.DC wD
    refine append_at (s := { s₁.setGen g gs' with heap := h5, toks := _ }) (hsz := by omega) hD5 fun h6 sb6 hD6 => ?_
    replace sb6 : Heap.SameBut D h5 h6 := sb6
    have mv : ∀ b o, b ≠ z → b ≠ C → b ≠ D → h'.get? b = some o → h6.get? b = some o := fun b o b1 b2 b3 e => sb6.extBut _ _ b3 (sb5.extBut _ _ b2 (sb4.extBut _ _ b2 (k3 b o (sb2.extBut _ _ b1 e))))
    have kw : ∀ b o, b ∉ [z, TO, ri, D, C, TI] → s₁.heap.get? b = some o → h6.get? b = some o := fun b o hb e => by
      obtain ⟨q1, q2, q3, q4, q5, _⟩ := not_ws hb
      exact sb6.extBut _ _ q4 (kk5 b o q1 q2 q5 e)
    have ltw : ∀ b, b < lo → b ∉ [z, TO, ri, D, C, TI] := fun b hb hm => absurd hb (Nat.not_lt.mpr (ap.lo b hm))
    have c6 : ∃ m, h6.Ns C m := by
      have q := c5
      rw [cL] at q
      exact ⟨_, q.at' fun o e => sb6.extBut _ _ ap.DC.symm e⟩
    obtain ⟨tx, ty, to'⟩ := to'
    refine ⟨n - (i + 1), by omega, i + 1, rfl, ⟨by omega, ?_, ?_, ?_, ?_, ?_, ?_, ?_, ?_, ?_, ?_, ?_⟩⟩
    · exact sb6.extBut _ _ ap.zD (sb5.extBut _ _ ap.zC (sb4.extBut _ _ ap.zC (k3 _ _ z2)))
    · exact mv TI _ ap.za.TIz ap.TIC ap.TID ti'
    · exact ⟨tx, ty, mv TO _ ap.za.TOz ap.TOC ap.TOD to'⟩
    · exact mv ri _ ap.za.riz ap.riC ap.riD rg'
    · refine ⟨acc.push v, c + 1, hD6, by rw [Array.size_push, hsz], .inr ⟨H', ys ++ [x], ?_, ?_, ?_, hnn, hy⟩⟩
      · rw [Array.toList_push]
        exact r1.append (.cons rv .nil)
      · exact un_off un fun b o hb e => kw b o (ltw b (Nat.lt_of_lt_of_le hb hlo)) e
      · exact hok_off hok hnn kw
    · exact c6
    · obtain ⟨o, nm, qn, ho, r⟩ := g1
      exact ⟨o, nm, qn, kw a o (ltw a hlt) ho, r⟩
    · exact os1
    · exact b1
    · exact noLimit_off l1 fun o e => kw cStatics o (ltw _ hst) e
    · refine ⟨gs', setGen_at hg1, fun hlt2 s' o1 o2 o3 o4 o5 => ?_⟩
      have e1 : n - (i + 1) + 1 = n - i := by omega
      rw [e1]
      refine kap hlt2 s' ⟨o1.trans os1.symm, o2, fun b o hb e => o3 b o hb (kw b o hb e), o4, fun acc' c' e => ?_⟩
      rw [wD] at e
      cases e
      exact ⟨c + 1, by rw [o5]; exact hD6⟩
  · refine he s' acc c ys H' q1 q2 q3 q4 q5 q6 q7 q8 q9
end

/-- n: how many at most; what is wanted at each item and at the generator's end -/
def tLcG (ta : TA) (tg : TGenW) : TE := fun σ H Q => ta σ H fun vs H1 => ∃ n : Nat, vs = [.int n] ∧ 0 < n ∧ n ≤ sizeLine ∧ (n : Int) < 2 ^ 62 ∧ ∃ Y Qe, tg σ H1 (n + 1) Y Qe ∧
  (∀ ys H2 D, ys.length = n → Y ys H2 → H2 D = none → Q (.ref D) (upd H2 D (.lst ys))) ∧ (∀ ys H2 D, ys.length < n → Qe ys H2 → H2 D = none → Q (.ref D) (upd H2 D (.lst ys)))
section
variable {X : Cx} {k : Nat} {t1 t2 : Str} {p1 p2 p3 tpos pos pz pr rpos zpos : Pos} {kk : Nat} {ea e2 : Expr} {scope : Scope} {own : List (Str × Nat)} {ta : TA} {tg : TGenW}
theorem lcg_core {pins : List (Addr × Obj)} {s : Shared} {σ : L2.St} {H : Hp} {Q : VK} {pos' : Pos} {use : Option (Value → Sem Unit)} {Qf : Value → Shared → Prop}
    (hc : X.calm = true) (hr : Room (k + 1) X.A) (I : Inv X pins σ H s) (gz : Gl X "zip") (mz : X.mg "zip" = none) (gr : Gl X "range") (mr : X.mg "range" = none) (ha : PA X [ea] ta) (h2 : PGenW X k e2 tg) (ok : BlkOk X.N X.env.scope scope own)
    (k1 : scope.names.lookup t1 = some .local) (k2 : scope.names.lookup t2 = some .local) (hd : (t2 == ("__debug__" : Str)) = false)
    (hs1 : starEach [ea] X.env = [(false, eval ea X.env)]) (hs2 : starEach [.Call (.Name "range" pr) [ea] [] rpos, e2] X.env = [(false, eval (.Call (.Name "range" pr) [ea] [] rpos) X.env), (false, eval e2 X.env)]) (hs3 : starEach [e2] X.env = [(false, eval e2 X.env)])
    (hf : ∀ x, foldedSetIterable (.Call (.Name "zip" pz) [.Call (.Name "range" pr) [ea] [] rpos, e2] [] zpos) X.env x = pure x)
    (h : tLcG ta tg σ H Q)
    (hRR : ∀ D C s' m H', Inv X pins σ H' s' → Q (.ref D) H' → s'.heap.Ns C m → FpOk X pins H' C → compPost (model X.prog X.w) X.A X.xe use Qf (.ref D) C (.ok .next) s') :
    wpAny (model X.prog X.w) X.A (comprehension (.ListComp (.Name t2 p1) [⟨.Tuple [.Name t1 p2, .Name t2 p3] kk tpos, .Call (.Name "zip" pz) [.Call (.Name "range" pr) [ea] [] rpos, e2] [] zpos, [], 0⟩] scope pos) scope X.env pos' (newList []) false (eval (.Call (.Name "zip" pz) [.Call (.Name "range" pr) [ea] [] rpos, e2] [] zpos) X.env) use) Qf X.xe s := by
  have hfree : ∀ y ∈ scope.names, y.2 = .free → ∃ c, X.env.cells.lookup y.1 = some c := fun y hy e => by
    rcases ok.free y hy e with k | k
    · exact I.ok.has _ (.inl k)
    · exact I.ok.has _ (.inr k)
  refine wpAny_comprehension_free (use := use) rfl hf (closure_ok hfree) ok.kind (fun y hy e => by rw [ok.uniq y hy, e]) ?_
  refine Call_ (ld_blt I gz mz PyProof.Rows.boot_zip (PyProof.Rows.callWith_type1 ?_ (by rw [hs2, hs3]) (by rw [hs3]; rfl)))
  rw [hs2]
  show wpAny _ _ (spliced [(false, eval (.Call (.Name "range" pr) [ea] [] rpos) X.env), (false, eval e2 X.env)]) _ _ s
  refine Calls.spliced_cons ?_
  refine Call_ (ld_blt I gr mr boot_range (PyProof.Rows.callWith_type1 (thn (ha.run rpos pins s σ H _ I h) fun us s1 ⟨vs, H1, I1, r1, q1⟩ => ?_) hs1 rfl))
  obtain ⟨n, rfl, hn, hns, hn62, Y, Qe, hg, hY, hQe⟩ := q1
  cases r1 with
  | cons rn rr =>
  cases rr
  obtain ⟨tn, rfl⟩ := rn
  refine call_range_1 ?_
  generalize hro : ({ cls := .type "range", data := .fields #[.int 0 s1.toks, .int n tn, .int 1 (s1.toks + 1)] } : Obj) = ro
  have I1' : Inv X (pins ++ [(s1.heap.objs.size, ro)]) σ H1 { s1 with heap := s1.heap.push ro, toks := s1.toks + 1 + 1 } := by
    have J : Inv X pins σ H1 { s1 with heap := s1.heap.push ro, toks := s1.toks + 1 + 1 } := I1.kept fun b o e => Heap.get?_push_of_some _ e
    refine J.pins_of fun p hp => ?_
    rcases List.mem_append.mp hp with hp | hp
    · exact J.pin p (List.mem_append_right _ hp)
    · rw [List.mem_singleton.mp hp]
      refine ⟨?_, I1.hok.fresh (Nat.le_refl _), Nat.ne_of_gt I1.lt, I1.nofs (Nat.le_refl _), fun v q => ?_⟩
      · rw [← hro]; exact Heap.get?_push_size _ rfl
      · rw [← hro] at q; cases q
  refine Calls.spliced_cons (thn (h2.run _ _ σ H1 (n + 1) Y Qe I1' hg) fun u s2 ⟨H2, sc, I2, hG⟩ => ?_)
  refine Calls.spliced_nil ?_
  obtain ⟨a, g, c, rfl, ha1, ha2, hga, hgs, hos, hba, hl, hkp, wake⟩ := hG
  have hrg : sc.heap.get? s1.heap.objs.size = some ro := (I2.pin (s1.heap.objs.size, ro) (List.mem_append_right _ (List.mem_append_right _ (List.mem_singleton.mpr rfl)))).1
  have hrg2 : IsRange s2.heap s1.heap.objs.size 0 n 1 s1.toks tn (s1.toks + 1) := by
    have q := hkp _ _ hrg
    rw [← hro] at q
    exact q
  refine call_zipG hrg2 (small_one (by omega) (by omega) (by omega) hn62) hga fun h3 hz hTI hTO hri hsz3 hk3 => ?_
  refine wpAny_pyIter_zip (s := { s2 with heap := h3 }) hz ?_
  refine wpAny_newObj_type (newEnv_comp ?_) (by show 0 ≤ sizeLine; decide)
  show codeAny _ _ (.compStart (.ListComp (.Name t2 p1) [⟨.Tuple [.Name t1 p2, .Name t2 p3] kk tpos, .Call (.Name "zip" pz) [.Call (.Name "range" pr) [ea] [] rpos, e2] [] zpos, [], 0⟩] scope pos) 0 (.ref (s2.heap.objs.size + 3)) (.ref h3.objs.size) (compEnvC scope (cellsFrom ((h3.push { cls := .type "list", data := .seq ([] : List Value).toArray }).objs.size + 1) scope.names (cloFrom X.env.cells scope.names [])) (h3.push { cls := .type "list", data := .seq ([] : List Value).toArray }).objs.size X.env))
    (compPost (model X.prog X.w) X.A X.xe use Qf (.ref h3.objs.size) (h3.push { cls := .type "list", data := .seq ([] : List Value).toArray }).objs.size) { s2 with heap := pushCells ((h3.push { cls := .type "list", data := .seq ([] : List Value).toArray }).push { cls := .type "dict", data := .dict #[] }) scope.names }
  have eC : (h3.push { cls := .type "list", data := .seq ([] : List Value).toArray }).objs.size = s2.heap.objs.size + 5 := by rw [Heap.size_push, hsz3]
  have eD : h3.objs.size = s2.heap.objs.size + 4 := hsz3
  have g5 : ∀ b o, h3.get? b = some o → (pushCells ((h3.push { cls := .type "list", data := .seq ([] : List Value).toArray }).push { cls := .type "dict", data := .dict #[] }) scope.names).get? b = some o := fun b o e => pushCells_keeps _ _ _ _ (Heap.get?_push_of_some _ (Heap.get?_push_of_some _ e))
  have gD : (pushCells ((h3.push { cls := .type "list", data := .seq ([] : List Value).toArray }).push { cls := .type "dict", data := .dict #[] }) scope.names).get? h3.objs.size = some (lstObj #[] 0) := pushCells_keeps _ _ _ _ (Heap.get?_push_of_some _ (Heap.get?_push_size _ rfl))
  have gC : (pushCells ((h3.push { cls := .type "list", data := .seq ([] : List Value).toArray }).push { cls := .type "dict", data := .dict #[] }) scope.names).Ns (h3.push { cls := .type "list", data := .seq ([] : List Value).toArray }).objs.size fun _ => none :=
    (Heap.Ns.new _ _).at' fun o e => pushCells_keeps _ _ _ _ e
  rw [eC] at gC ⊢
  rw [eD] at gD ⊢
  generalize pushCells ((h3.push { cls := .type "list", data := .seq ([] : List Value).toArray }).push { cls := .type "dict", data := .dict #[] }) scope.names = h5 at g5 gD gC ⊢
  generalize hcl : cellsFrom (s2.heap.objs.size + 5 + 1) scope.names (cloFrom X.env.cells scope.names []) = cl
  have k5 : ∀ b o, s2.heap.get? b = some o → h5.get? b = some o := fun b o e => g5 b o (hk3 b o e)
  have hst : cStatics < s2.heap.objs.size := noLimit_lt hl
  have ap : LAp (s2.heap.objs.size + 3) (s2.heap.objs.size + 1) (s2.heap.objs.size + 2) s2.heap.objs.size (s2.heap.objs.size + 4) (s2.heap.objs.size + 5) a s2.heap.objs.size := by
    have ha2 : a < s2.heap.objs.size := ha2
    refine ⟨⟨?_, ?_, ?_, ?_, ?_, ?_, ?_, ?_, ?_⟩, ?_, ?_, ?_, ?_, ?_, ?_, ?_, ?_, ?_, ?_, ?_, fun b hb => ?_⟩
    all_goals first
      | (intro q; simp only [Addr] at *; omega)
      | (have q : b = s2.heap.objs.size + 3 ∨ b = s2.heap.objs.size + 2 ∨ b = s2.heap.objs.size ∨ b = s2.heap.objs.size + 4 ∨ b = s2.heap.objs.size + 5 ∨ b = s2.heap.objs.size + 1 := by simpa using hb
         simp only [Addr] at *
         omega)
  have hsc : sc.heap.objs.size ≤ s2.heap.objs.size := Nat.le_trans ha1 (Nat.le_of_lt ha2)
  have L0 : LSt X.prog X.w X.stack X.A H2 sc n Y Qe (s2.heap.objs.size + 3) (s2.heap.objs.size + 1) (s2.heap.objs.size + 2) s2.heap.objs.size (s2.heap.objs.size + 4) (s2.heap.objs.size + 5) a g 0 { s2 with heap := h5 } := by
    refine ⟨Nat.zero_le _, g5 _ _ hz, g5 _ _ hTI, ⟨_, _, g5 _ _ hTO⟩, ?_, ⟨#[], 0, gD, rfl, .inl rfl⟩, ⟨_, gC⟩, hga.keeps k5, hos, hba, hl.keeps k5, ⟨_, hgs, fun _ s' o1 o2 o3 o4 o5 => ⟨rfl, ?_⟩⟩⟩
    · have q := g5 _ _ hri
      have q1 : Builtin.Range.rangeSize 0 n 1 = (n : Int) - ((0 : Nat) : Int) := by rw [rangeSize_one, if_pos (by omega)]; omega
      rw [q1] at q
      exact q
    · refine wake _ _ _ s' ⟨hr.hd, ?_, ?_⟩ I2.ok.frames (by simp) (fun b hb => ⟨ap.lo b hb, o4 b hb⟩) (fun b o e => o3 b o (fun hm => absurd (Heap.lt_size e) (Nat.not_lt.mpr (ap.lo b hm))) (k5 b o e)) ⟨0, by rw [o5]; exact gD⟩ o1 o2 (Nat.succ_pos n)
      · have := hr.dp
        show X.A.depth + 3 * k + 5 < _
        omega
      · have := hr.un
        show X.A.units + 1 + 1 + 16 * k + 200 < _
        omega
  have loop : codeAny (model X.prog X.w) X.A (.compLoop (.ListComp (.Name t2 p1) [⟨.Tuple [.Name t1 p2, .Name t2 p3] kk tpos, .Call (.Name "zip" pz) [.Call (.Name "range" pr) [ea] [] rpos, e2] [] zpos, [], 0⟩] scope pos) 0 (.ref (s2.heap.objs.size + 3)) (.ref (s2.heap.objs.size + 4)) (compEnvC scope cl (s2.heap.objs.size + 5) X.env))
      (compPost (model X.prog X.w) X.A X.xe use Qf (.ref (s2.heap.objs.size + 4)) (s2.heap.objs.size + 5)) { s2 with heap := h5 } := by
    refine loop_zipG (lo := s2.heap.objs.size) hr.hd hr.depth ap hsc hst hn hns rfl ok.kind (lookup_relabel_local k1) (lookup_relabel_local k2) hd ha2 (fun s' acc c ys H' q1 q2 q3 q4 q5 q6 q7 q8 q9 => ?_) L0
    obtain ⟨m, hm⟩ := q8
    have hsz : sc.heap.objs.size ≤ s2.heap.objs.size + 4 := Nat.le_trans hsc (Nat.le_add_right _ _)
    have nD : H' (s2.heap.objs.size + 4) = none := q7 _ (by simp)
    have nC : (upd H' (s2.heap.objs.size + 4) (.lst ys)) (s2.heap.objs.size + 5) = none := by
      rw [upd_ne (by simp only [Addr] at *; omega)]
      exact q7 _ (by simp)
    have hle : ys.length ≤ sizeLine := by
      rcases q9 with ⟨e, _⟩ | ⟨e, _⟩ <;> omega
    have J : Inv X (pins ++ [(s1.heap.objs.size, ro)]) σ (upd H' (s2.heap.objs.size + 4) (.lst ys)) s' := I2.drained hsz hle q3 q4 .nil q1 q2 q5 q6 nD
    have J' : Inv X pins σ (upd H' (s2.heap.objs.size + 4) (.lst ys)) s' := J.pins_of fun p hp => J.pin p (List.mem_append_right _ (List.mem_append_left _ hp))
    have Ip : Inv X pins σ H2 sc := I2.pins_of fun p hp => I2.pin p (List.mem_append_right _ (List.mem_append_left _ hp))
    refine hRR _ _ s' m _ J' ?_ hm (Ip.fpOk (Nat.le_trans hsc (Nat.le_add_right _ _)) nC)
    rcases q9 with ⟨e, hy⟩ | ⟨e, hq⟩
    · exact hY ys H' _ e hy nD
    · exact hQe ys H' _ e hq nD
  exact codeAny_compStart_list loop (wpAny_pyIter_zip (s := { s2 with heap := h5 }) (g5 _ _ hz) loop)
end
end GZ
set_option maxHeartbeats 4000000
/-! A generator method as one fact; the comprehension over zip(range(n), o.m()) -/
namespace GZ
open PySem PySem.Spec PyProof.Rows GenW L2 RZ
def MethGW (P : Program) (w : World) (K : PySem.W.Frag) (mg : Str → Option Value) (base : Heap) (k : Nat) (C : Addr) (m : Str) (ps : List Str) (sp : SpGw) : Prop :=
  ∃ f fd, Meth K C m f ∧ Binds K fd ps [] ∧ GFnW P w K mg base k f fd ps sp
section
variable {P : Program} {w : World} {K : PySem.W.Frag} {mg : Str → Option Value} {base : Heap} {C : Addr} {x qual : Str} {st : Stmt} {N ps : List Str} {k : Nat} {sp : SpGw}
theorem okGW (D : Dm K C x qual st) (S : GScope N ps (defScope st))
    (bd : ∀ (kV doc pm : Value) (an : Option Addr) (cdv ct : Value) (us : List Value), us.length = ps.length → bindArgs (PySem.W.fnOf x qual (defArgs st) (defBody st) (defScope st) .none kV doc pm an cdv ct) ⟨us, []⟩ = pure (ps.zip us))
    (len : ∀ vs H M Y Q, sp vs H M Y Q → vs.length = ps.length)
    (hbody : ∀ (f : Addr) (cdv : Value) (A : Around) (outer : List Env) (s : Shared) (H : Hp) (vs : List V) (M : Nat) (Y Q : List V → Hp → Prop) (pn : List (Addr × Obj)), Room k (A.deeper (envOfC qual (defScope st) s.heap.objs.size f cdv)) → sp vs H M Y Q →
      ∃ t, GSsw (gcxW P w K mg base N qual (defScope st) f cdv A outer s H pn) (defBody st) t ∧ t { N := M, yl := Y, nx := fun ys _ H' => Q ys H', rt := fun ys v H' => v = .non ∧ Q ys H' } [] (start N vs) H) : MethGW P w K mg base (k + 1) C x ps sp := by
  obtain ⟨f, fd, F, hm⟩ := D
  have hb := F.binds bd
  obtain ⟨oc, od, kV, doc, pm, an, cdv, ct, osl, rfl, lk, hcd⟩ := F.ex
  exact ⟨f, _, hm, hb, gfnW_of lk hcd S len fun A outer s H vs M Y Q pn hr hsp => hbody f cdv A outer s H vs M Y Q pn hr hsp⟩
end
section
variable {X : Cx} {k : Nat} {C : Addr} {ps : List Str} {sp : SpGw} {m : Str} {pos' apos : Pos} {o : Expr} {to : TE} {t1 t2 : Str} {p1 p2 p3 tpos pos pz pr rpos zpos : Pos} {kk : Nat} {ea : Expr} {scope : Scope} {own : List (Str × Nat)} {ta : TA}
theorem pgenW_methD {pl : Sem Bool} (he : PE X o to) (c : Cls X.K C) (D : MethGW X.prog X.w X.K X.mg X.base k C m ps sp) (hr : Room k X.A)
    (ht : eval (.Call (.Attribute o m apos) [] [] pos') X.env = (do
      let ov ← eval o X.env
      standAt apos.atName
      let (f, first) ← holding [ov] (getMethod ov m pl)
      callWith pos' f first (backTo pos' (starEach [] X.env)) (backToKw pos' (keywordEach [] X.env))) := by rfl) :
    PGenW X k (.Call (.Attribute o m apos) [] [] pos') (tMethGW C m sp to) := by
  obtain ⟨f, fd, hm, hb, F⟩ := D
  exact pgenW_meth0 he c hm F hr hb ht
/-- [x for t, x in zip(range(n), o.m())] as a value -/
theorem pe_lcG {e2 : Expr} {tg : TGenW} (hc : X.calm = true) (hr : Room (k + 1) X.A) (gz : Gl X "zip") (mz : X.mg "zip" = none) (gr : Gl X "range") (mr : X.mg "range" = none) (ha : PA X [ea] ta) (h2 : PGenW X k e2 tg) (ok : BlkOk X.N X.env.scope scope own)
    (k1 : scope.names.lookup t1 = some .local := by rfl) (k2 : scope.names.lookup t2 = some .local := by rfl) (hd : (t2 == ("__debug__" : Str)) = false := by decide)
    (hs1 : starEach [ea] X.env = [(false, eval ea X.env)] := by rfl) (hs2 : starEach [.Call (.Name "range" pr) [ea] [] rpos, e2] X.env = [(false, eval (.Call (.Name "range" pr) [ea] [] rpos) X.env), (false, eval e2 X.env)] := by rfl) (hs3 : starEach [e2] X.env = [(false, eval e2 X.env)] := by rfl)
    (hf : ∀ x, foldedSetIterable (.Call (.Name "zip" pz) [.Call (.Name "range" pr) [ea] [] rpos, e2] [] zpos) X.env x = pure x := by intro _; rfl) :
    PE X (.ListComp (.Name t2 p1) [⟨.Tuple [.Name t1 p2, .Name t2 p3] kk tpos, .Call (.Name "zip" pz) [.Call (.Name "range" pr) [ea] [] rpos, e2] [] zpos, [], 0⟩] scope pos) (tLcG ta tg) := by
  refine ⟨fun pins s σ H Q I h => ?_⟩
  rw [eval_ListComp]
  refine lcg_core hc hr I gz mz gr mr ha h2 ok k1 k2 hd hs1 hs2 hs3 hf h fun D C s' m H' I' q hn f => ⟨m, hn, fun h'' sb => ?_⟩
  obtain ⟨f0, f1, f2, f3, f4, f5⟩ := f
  exact ⟨.ref D, H', I'.turned (t' := s'.toks) (fun b o hb e => (sb.2 b hb).trans e) f0 f1 f3 f4 f5, rfl, q⟩
/-- name = [..], the name a local -/
theorem ps_setLcG {i : Nat} {y : Str} {py spos : Pos} {e2 : Expr} {tg : TGenW} (hc : X.calm = true) (hN : X.N.Nodup) (hy : X.N[i]? = some y) (hyl : X.env.scope.names.lookup y = some .local)
    (hsw : swapsWith (.ListComp (.Name t2 p1) [⟨.Tuple [.Name t1 p2, .Name t2 p3] kk tpos, .Call (.Name "zip" pz) [.Call (.Name "range" pr) [ea] [] rpos, e2] [] zpos, [], 0⟩] scope pos) (some (.Name y py)) spos.line X.env = pure true)
    (hr : Room (k + 1) X.A) (gz : Gl X "zip") (mz : X.mg "zip" = none) (gr : Gl X "range") (mr : X.mg "range" = none) (ha : PA X [ea] ta) (h2 : PGenW X k e2 tg) (ok : BlkOk X.N X.env.scope scope own)
    (k1 : scope.names.lookup t1 = some .local := by rfl) (k2 : scope.names.lookup t2 = some .local := by rfl) (hd : (t2 == ("__debug__" : Str)) = false := by decide)
    (hs1 : starEach [ea] X.env = [(false, eval ea X.env)] := by rfl) (hs2 : starEach [.Call (.Name "range" pr) [ea] [] rpos, e2] X.env = [(false, eval (.Call (.Name "range" pr) [ea] [] rpos) X.env), (false, eval e2 X.env)] := by rfl) (hs3 : starEach [e2] X.env = [(false, eval e2 X.env)] := by rfl)
    (hf : ∀ x, foldedSetIterable (.Call (.Name "zip" pz) [.Call (.Name "range" pr) [ea] [] rpos, e2] [] zpos) X.env x = pure x := by intro _; rfl) :
    PS X (.Assign [.Name y py] (.ListComp (.Name t2 p1) [⟨.Tuple [.Name t1 p2, .Name t2 p3] kk tpos, .Call (.Name "zip" pz) [.Call (.Name "range" pr) [ea] [] rpos, e2] [] zpos, [], 0⟩] scope pos) spos) (tAsg (tLcG ta tg) (gName i)) := by
  refine ⟨fun pins s σ H D I h => ?_⟩
  rw [exec_Assign_Name_used _ _ _ _ hsw]
  refine wpAny_bind (wpAny_standAt (wpAny_bind ?_))
  show wpAny _ X.A (do let _ ← comprehension (.ListComp (.Name t2 p1) [⟨.Tuple [.Name t1 p2, .Name t2 p3] kk tpos, .Call (.Name "zip" pz) [.Call (.Name "range" pr) [ea] [] rpos, e2] [] zpos, [], 0⟩] scope pos) scope X.env (firstIterPos [⟨.Tuple [.Name t1 p2, .Name t2 p3] kk tpos, .Call (.Name "zip" pz) [.Call (.Name "range" pr) [ea] [] rpos, e2] [] zpos, [], 0⟩] pos) (newList []) false (eval (.Call (.Name "zip" pz) [.Call (.Name "range" pr) [ea] [] rpos, e2] [] zpos) X.env) (some (assign (.Name y py) X.env))) _ _ s
  have h : tLcG ta tg σ H (fun x H1 => gName i x σ H1 D.nx) := h
  refine wpAny_bind (thn (lcg_core (Qf := fun _ s' => SP X pins D .next s') hc hr I gz mz gr mr ha h2 ok k1 k2 hd hs1 hs2 hs3 hf h fun L C s' m H' I' q hn f => ?_) fun _ s' hq => wpAny_pure (wpAny_pure hq))
  show wpAny _ _ (assign (.Name y py) X.env (.ref L)) _ _ _
  refine wpAny_assign_Name (store_ok2 (v := V.ref L) I' hN hy (.inl hyl) rfl (fun s2 I2 ⟨a, sb, ha⟩ => ?_) (.inr hyl))
  obtain ⟨f0, f1, f2, f3, f4, f5⟩ := f
  have haC : C ≠ a := by
    rcases ha with z | z
    · rw [z]; exact f1
    · exact fun e => f4 y a z e.symm
  refine ⟨m, hn.sameBut sb haC, fun h3 sb3 => ?_⟩
  exact ⟨_, H', I2.turned (t' := s2.toks) (fun b o hb e => (sb3.2 b hb).trans e) f0 f1 f3 f4 f5, q⟩
end
end GZ
set_option maxHeartbeats 4000000
/-! An instance's own __bool__ as a test, its own __contains__ -/
namespace L2
open PySem PySem.Spec PyProof.Rows
section
variable {X : Cx} {CX : CXT} {C : Addr} {ps : List Str} {n : Nat} {sp : Sp} {E : XK}
def rTruOwn (C : Addr) (sp : Sp) (E : XK) : V → Hp → (Bool → Hp → Prop) → Prop := fun x H Q => ∃ a dx fs, x = V.ref a ∧ H a = some (.ins C dx fs) ∧ sp [.ref a] H (fun z H' => ∃ b, z = .bl b ∧ Q b H') E
theorem tru_own (D : MethOk X.prog X.w X.K X.mg X.base CX n C "__bool__" ps sp) (hr : Room n X.A) (hx : Passes CX X E) : TruR X (rTruOwn C sp E) := by
  obtain ⟨f, fd, hm, hb, F⟩ := D
  intro pins s σ H x v Q I r h
  obtain ⟨a, dx, fs, rfl, hsl, q⟩ := h
  cases (show v = Value.ref a from r)
  obtain ⟨mA, O, _⟩ := ins_get I.hok hsl
  obtain ⟨od, J, _⟩ := O.look
  refine LfB.truthy_own I.kIn J hm.at_ hm.fn (wpAny_mono (wpAny_call (run_fnAt (us := [.ref a]) (ws := [.ref a]) F hb hr I.env0 hx I (.cons rfl .nil) q)) (fun w s' z => ?_) fun _ _ x => x)
  obtain ⟨z', H', I', rz, b, eb, qz⟩ := z
  subst eb
  cases (show w = Value.bool b from rz)
  exact ⟨b, rfl, H', I', qz⟩
def tNotR (r : V → Hp → (Bool → Hp → Prop) → Prop) (ta : TE) : TE := fun σ H Q => ta σ H fun x H1 => r x H1 fun k H2 => Q (.bl (!k)) H2
theorem pe_notR {a : Expr} {ta : TE} {pos : Pos} {r : V → Hp → (Bool → Hp → Prop) → Prop} (ha : PE X a ta) (hr : TruR X r) : PE X (.UnaryOp .Not a pos) (tNotR r ta) := by
  refine ⟨fun pins s σ H Q I h => ?_⟩
  refine UnaryOp_ (thn (ha.run pins s σ H _ I h) fun v s1 ⟨x, H1, I1, r1, q1⟩ => ?_)
  exact not_of (thn (hr pins s1 σ H1 x v (fun c H2 => Q (.bl (!c)) H2) I1 r1 q1) fun c s2 ⟨H2, I2, q2⟩ => ⟨.bl (!c), H2, I2, rfl, q2⟩)
/-- x in o, o an instance with a __contains__ of its own -/
def rInOwn (C : Addr) (sp : Sp) (E : XK) : R2 := fun x y H Q => ∃ a dx fs, y = V.ref a ∧ H a = some (.ins C dx fs) ∧ sp [.ref a, x] H (fun z H' => ∃ b, z = .bl b ∧ Q (.bl b) H') E
def rNiOwn (C : Addr) (sp : Sp) (E : XK) : R2 := fun x y H Q => ∃ a dx fs, y = V.ref a ∧ H a = some (.ins C dx fs) ∧ sp [.ref a, x] H (fun z H' => ∃ b, z = .bl b ∧ Q (.bl (!b)) H') E
theorem op_inOwn (D : MethOk X.prog X.w X.K X.mg X.base CX n C "__contains__" ps sp) (hr : Room n X.A) (hx : Passes CX X E) : OpR X (compareOp .In) (rInOwn C sp E) := by
  obtain ⟨f, fd, hm, hb, F⟩ := D
  intro pins s σ H x y v u Q I rx ry h
  obtain ⟨a, dx, fs, rfl, hsl, q⟩ := h
  cases (show u = Value.ref a from ry)
  obtain ⟨mA, O, _⟩ := ins_get I.hok hsl
  obtain ⟨od, J, _⟩ := O.look
  obtain ⟨mf, fr⟩ := I.fr
  refine PySem.W.in_K fr I.ok.mod.kin J hm.at_ hm.fn (wpAny_mono (wpAny_call (run_fnAt (us := [.ref a, v]) (ws := [.ref a, x]) F hb hr I.env0 hx I (.cons rfl (.cons rx .nil)) q)) (fun w s' z => ?_) fun _ _ x => x)
  obtain ⟨z', H', I', rz, b, eb, qz⟩ := z
  subst eb
  cases (show w = Value.bool b from rz)
  exact wpAny_pure ⟨.bl b, H', I', rfl, qz⟩
theorem op_notInOwn (D : MethOk X.prog X.w X.K X.mg X.base CX n C "__contains__" ps sp) (hr : Room n X.A) (hx : Passes CX X E) : OpR X (compareOp .NotIn) (rNiOwn C sp E) := by
  obtain ⟨f, fd, hm, hb, F⟩ := D
  intro pins s σ H x y v u Q I rx ry h
  obtain ⟨a, dx, fs, rfl, hsl, q⟩ := h
  cases (show u = Value.ref a from ry)
  obtain ⟨mA, O, _⟩ := ins_get I.hok hsl
  obtain ⟨od, J, _⟩ := O.look
  obtain ⟨mf, fr⟩ := I.fr
  refine PySem.W.notIn_K fr I.ok.mod.kin J hm.at_ hm.fn (wpAny_mono (wpAny_call (run_fnAt (us := [.ref a, v]) (ws := [.ref a, x]) F hb hr I.env0 hx I (.cons rfl (.cons rx .nil)) q)) (fun w s' z => ?_) fun _ _ x => x)
  obtain ⟨z', H', I', rz, b, eb, qz⟩ := z
  subst eb
  cases (show w = Value.bool b from rz)
  exact wpAny_pure ⟨.bl (!b), H', I', rfl, qz⟩
end
end L2
set_option maxHeartbeats 4000000
/-! x == y, two instances of a class with an own __eq__, any answer -/
namespace L2
open PySem PySem.Spec PyProof.Rows
section
variable {X : Cx} {CX : CXT} {C : Addr} {ps : List Str} {n : Nat} {sp : Sp} {E : XK}
def rEqOwn (C : Addr) (sp : Sp) (E : XK) : R2 := fun x y H Q => ∃ a b dx dy fs gs, x = V.ref a ∧ y = V.ref b ∧ H a = some (.ins C dx fs) ∧ H b = some (.ins C dy gs) ∧ sp [.ref a, .ref b] H (fun z H' => ∃ k, z = .bl k ∧ Q (.bl k) H') E
theorem op_eqOwn (D : MethOk X.prog X.w X.K X.mg X.base CX n C "__eq__" ps sp) (hr : Room n X.A) (hx : Passes CX X E) : OpR X (compareOp .Eq) (rEqOwn C sp E) := by
  obtain ⟨f, fd, hm, hb, F⟩ := D
  intro pins s σ H x y v u Q I rx ry h
  obtain ⟨a, b, dx, dy, fs, gs, rfl, rfl, ha, hb', q⟩ := h
  cases (show v = Value.ref a from rx)
  cases (show u = Value.ref b from ry)
  obtain ⟨mA, J, _⟩ := ins_get I.hok ha
  obtain ⟨mB, J', _⟩ := ins_get I.hok hb'
  obtain ⟨od, J, _⟩ := J.look
  obtain ⟨od', J', _⟩ := J'.look
  obtain ⟨m, hF⟩ := I.fr
  show wpAny (model X.prog X.w) X.A (richCompare .Eq (.ref a) (.ref b)) (EP X pins σ Q) X.xe s
  refine PySem.W.cmp_K (op := .Eq) (tb := .ref C) hr.units0 hF I.ok.mod.kin J J'.type (by simp [PySem.W.notFirst]) hm.at_ hm.fn (wpAny_mono (wpAny_call (run_fnAt (us := [.ref a, .ref b]) (ws := [.ref a, .ref b]) F hb hr I.env0 hx I (.cons rfl (.cons rfl .nil)) q)) (fun w s' z => ?_) fun _ _ x => x)
  obtain ⟨z', H', I', rz, k, ek, qz⟩ := z
  subst ek
  cases (show w = Value.bool k from rz)
  exact ⟨.bl k, H', I', rfl, qz⟩
end
end L2
set_option maxHeartbeats 4000000
/-! x == y and x != y by an own __eq__, y an instance of the class or a tuple; len(set(ints)) -/
namespace LfN
open PySem PySem.Spec PyProof.Rows
section
variable {M : Model} {prog : Program} {w : World} {A : Around} {E : Value → Shared → Prop} {s : Shared} {K : PySem.W.Frag} {x C f : Addr} {y tb : Value} {ox : Obj} {od : Option Obj}
theorem sub_tup : PySem.W.subIn K (.type "tuple") (.ref C) = some false := by
  have e : fastBuiltinMro "tuple" = some [.type "tuple", .type "object"] := by decide +kernel
  show (fastBuiltinMro "tuple").map (·.contains (.ref C)) = some false
  rw [e]
  first
    | rfl
    | simp
theorem entry_ne {Q : Fin → Shared → Prop} (hu : A.units < cLine) (X : K.In s.heap) (I : PySem.W.InstAt s.heap x ox C od) (he : PySem.W.findIn K (.ref C) "__eq__" = some (some (.ref f))) (hf : PySem.W.isFn K (.ref f) = true)
    (h : wpAny (model prog w) A (call (.ref f) [.ref x, y]) (fun v s' => ∃ b, v = .bool b ∧ Q (.done (.ret (.bool (!b)))) s') E s) : wpAny (model prog w) A (Builtin.«object.__ne__» ⟨[.ref x, y], []⟩) Q E s := by
  unfold Builtin.«object.__ne__»
  repeat (first
    | with_reducible refine wpAny_cRoomFor hu ?_
    | (refine wpAny_bind (m := callSpecialIfBound? (.ref x) (Str.ofString "__eq__") [y]) (PySem.W.ifBound_K X I he hf (wpAny_mono h (fun r s' hr => by
          obtain ⟨b, rfl, hq⟩ := hr
          repeat (first | exact hq | exact wpAny_pure hq | exact wpAny_truthy_bool hq | (refine wpAny_bind (m := truthy (.bool _)) (wpAny_truthy_bool ?_)) | wp_step)) fun _ _ e => e)))
    | wp_step)
theorem call_objNe {Q : Value → Shared → Prop} (hu : A.units + 1 < cLine) (X : K.In s.heap) (I : PySem.W.InstAt s.heap x ox C od) (hm : PySem.W.mroIn K C (.type "object") = some true) (he : PySem.W.findIn K (.ref C) "__eq__" = some (some (.ref f))) (hf : PySem.W.isFn K (.ref f) = true)
    (h : wpAny (model prog w) A.in1 (call (.ref f) [.ref x, y]) (fun v s' => ∃ b, v = .bool b ∧ Q (.bool (!b)) s') E s) :
    wpAny (model prog w) A (call (.builtin "object.__ne__") [.ref x, y]) Q E s :=
  wpAny_call (codeAny_call_builtin F.cmp_object.ne.plain F.cmpEntry_ne (PySem.W.check_slot F.cmpKind_ne F.cmpSplit_ne (I.type.andThen (PySem.W.looks_mroIn X hm)) (F.cmpArgs_ne _ _) (entry_ne (A := A.in1) hu X I he hf h)))
theorem ifBound_objNe {args : List Value} {Q : Option Value → Shared → Prop} (X : K.In s.heap) (I : PySem.W.InstAt s.heap x ox C od) (hs : PySem.W.findIn K (.ref C) "__ne__" = some (some (.builtin "object.__ne__")))
    (h : wpAny M A (call (.builtin "object.__ne__") (.ref x :: args)) (fun v => Q (some v)) E s) : wpAny M A (callSpecialIfBound? (.ref x) "__ne__" args) Q E s := by
  simp only [callSpecialIfBound?, bindSpecialIfBound?]
  refine wpAny_holding (wpAny_bind (wpAny_bind (wpAny_bind (I.type.here ((PySem.W.looks_findIn X hs).here ?_)))))
  refine wpAny_bind (wpAny_askSetting (wpAny_ite ?_))
  have fin : wpAny M A (call (.builtin "object.__ne__") ([.ref x] ++ args) >>= fun v => pure (some v)) Q E s := wpAny_bind (wpAny_mono h (fun v s' h' => wpAny_pure h') fun _ _ h' => h')
  split
  · exact wpAny_bind (wpAny_of_eq (F.cmp_object.ne.bind _) (wpAny_pure (by exact fin)))
  · exact wpAny_tryCatch (wpAny_bind (wpAny_of_eq (F.cmp_object.ne.bind _) (wpAny_pure (by exact fin))))
theorem rc_ne {Q : Value → Shared → Prop} (hu : A.units + 1 < cLine) (X : K.In s.heap) (I : PySem.W.InstAt s.heap x ox C od) (hb : PySem.W.Looks (model prog w) s.heap (typeOf y) tb) (hn : PySem.W.notFirst K C tb = true) (hm : PySem.W.mroIn K C (.type "object") = some true)
    (hs : PySem.W.findIn K (.ref C) "__ne__" = some (some (.builtin "object.__ne__"))) (he : PySem.W.findIn K (.ref C) "__eq__" = some (some (.ref f))) (hf : PySem.W.isFn K (.ref f) = true)
    (h : wpAny (model prog w) A.in1 (call (.ref f) [.ref x, y]) (fun v s' => ∃ b, v = .bool b ∧ Q (.bool (!b)) s') E s) : wpAny (model prog w) A (richCompare .NotEq (.ref x) y) Q E s := by
  have one : wpAny (model prog w) A (tryCompare (.ref x) "__ne__" y) (fun r s' => ∃ v, r = some v ∧ Q v s') E s := by
    unfold tryCompare
    refine wpAny_bind (ifBound_objNe X I hs (call_objNe hu X I hm he hf (wpAny_mono h (fun v s' hv => ?_) fun _ _ e => e)))
    obtain ⟨b, rfl, hq⟩ := hv
    exact ⟨b, rfl, wpAny_pure ⟨_, rfl, hq⟩⟩
  unfold richCompare
  simp only [oneThing_ref]
  refine wpAny_holding (wpAny_bind (wpAny_cRoomFor (Nat.lt_of_succ_lt hu) ?_))
  rw [cmpInfo_NotEq]
  dsimp only
  refine wpAny_bind (I.type.here (wpAny_bind (hb.here ?_)))
  split
  · rename_i q
    have e : PySem.W.subIn K tb (.ref C) = some false := by
      rcases Bool.or_eq_true_iff.mp hn with e | e
      · rw [beq_iff_eq.mp e] at q; simp at q
      · exact beq_iff_eq.mp e
    refine wpAny_bind ((PySem.W.looks_subIn X e).here ?_)
    simp only [Bool.false_eq_true, if_false]
    refine wpAny_bind (wpAny_mono one (fun r s' z => ?_) fun _ _ e => e)
    obtain ⟨v, rfl, hq⟩ := z
    exact wpAny_pure hq
  · refine wpAny_bind (wpAny_pure ?_)
    simp only [Bool.false_eq_true, if_false]
    refine wpAny_bind (wpAny_mono one (fun r s' z => ?_) fun _ _ e => e)
    obtain ⟨v, rfl, hq⟩ := z
    exact wpAny_pure hq
end
end LfN
namespace L2
open PySem PySem.Spec PyProof.Rows
section
variable {X : Cx} {CX : CXT} {C : Addr} {ps : List Str} {n : Nat} {sp : Sp} {E : XK}
/-- an instance of C, or a tuple -/
def InsOrTup (C : Addr) (H : Hp) (y : V) : Prop := (∃ b dy gs, y = V.ref b ∧ H b = some (.ins C dy gs)) ∨ ∃ b xs, y = V.ref b ∧ H b = some (.tup xs)
theorem insOrTup_ty {pins : List (Addr × Obj)} {σ : St} {H : Hp} {s : Shared} {y : V} {u : Value} (I : Inv X pins σ H s) (r : RelV y u) (h : InsOrTup C H y) : ∃ tb, PySem.W.Looks (model X.prog X.w) s.heap (typeOf u) tb ∧ PySem.W.notFirst X.K C tb = true := by
  rcases h with ⟨b, dy, gs, rfl, hb⟩ | ⟨b, xs, rfl, hb⟩
  · cases (show u = Value.ref b from r)
    obtain ⟨mB, J', _⟩ := ins_get I.hok hb
    obtain ⟨od', J', _⟩ := J'.look
    exact ⟨_, J'.type, by simp [PySem.W.notFirst]⟩
  · cases (show u = Value.ref b from r)
    obtain ⟨its, rv, ⟨o, ho, hc, _⟩, hz⟩ := I.tuple (SqT.of hb)
    refine ⟨.type "tuple", fun A Q E s' k q => ?_, ?_⟩
    · exact wpAny_typeOf_ref (k _ _ ho) (by rw [hc]; exact q)
    · unfold PySem.W.notFirst
      rw [LfN.sub_tup]
      simp
def rEqOwnA (C : Addr) (sp : Sp) (E : XK) : R2 := fun x y H Q => ∃ a dx fs, x = V.ref a ∧ H a = some (.ins C dx fs) ∧ InsOrTup C H y ∧ sp [.ref a, y] H (fun z H' => ∃ k, z = .bl k ∧ Q (.bl k) H') E
theorem op_eqOwnA (D : MethOk X.prog X.w X.K X.mg X.base CX n C "__eq__" ps sp) (hr : Room n X.A) (hx : Passes CX X E) : OpR X (compareOp .Eq) (rEqOwnA C sp E) := by
  obtain ⟨f, fd, hm, hb, F⟩ := D
  intro pins s σ H x y v u Q I rx ry h
  obtain ⟨a, dx, fs, rfl, ha, hy, q⟩ := h
  cases (show v = Value.ref a from rx)
  obtain ⟨tb, lk, nf⟩ := insOrTup_ty I ry hy
  obtain ⟨mA, J, _⟩ := ins_get I.hok ha
  obtain ⟨od, J, _⟩ := J.look
  obtain ⟨m, hF⟩ := I.fr
  show wpAny (model X.prog X.w) X.A (richCompare .Eq (.ref a) u) (EP X pins σ Q) X.xe s
  refine PySem.W.cmp_K (op := .Eq) (tb := tb) hr.units0 hF I.ok.mod.kin J lk nf hm.at_ hm.fn (wpAny_mono (wpAny_call (run_fnAt (us := [.ref a, u]) (ws := [.ref a, y]) F hb hr I.env0 hx I (.cons rfl (.cons ry .nil)) q)) (fun w s' z => ?_) fun _ _ x => x)
  obtain ⟨z', H', I', rz, k, ek, qz⟩ := z
  subst ek
  cases (show w = Value.bool k from rz)
  exact ⟨.bl k, H', I', rfl, qz⟩
def rNeOwnA (C : Addr) (sp : Sp) (E : XK) : R2 := fun x y H Q => ∃ a dx fs, x = V.ref a ∧ H a = some (.ins C dx fs) ∧ InsOrTup C H y ∧ sp [.ref a, y] H (fun z H' => ∃ k, z = .bl k ∧ Q (.bl (!k)) H') E
theorem op_neOwnA (D : MethOk X.prog X.w X.K X.mg X.base CX n C "__eq__" ps sp) (hr : Room (n + 1) X.A) (hx : Passes CX X E) (hmo : PySem.W.mroIn X.K C (.type "object") = some true) (hne : PySem.W.findIn X.K (.ref C) "__ne__" = some (some (.builtin "object.__ne__"))) : OpR X (compareOp .NotEq) (rNeOwnA C sp E) := by
  obtain ⟨f, fd, hm, hb, F⟩ := D
  intro pins s σ H x y v u Q I rx ry h
  obtain ⟨a, dx, fs, rfl, ha, hy, q⟩ := h
  cases (show v = Value.ref a from rx)
  obtain ⟨tb, lk, nf⟩ := insOrTup_ty I ry hy
  obtain ⟨mA, J, _⟩ := ins_get I.hok ha
  obtain ⟨od, J, _⟩ := J.look
  have hr1 : Room n X.A.in1 := Room.in1 hr
  show wpAny (model X.prog X.w) X.A (richCompare .NotEq (.ref a) u) (EP X pins σ Q) X.xe s
  refine LfN.rc_ne hr1.units0 I.kIn J lk nf hmo hne hm.at_ hm.fn (wpAny_mono (wpAny_call (run_fnAt (us := [.ref a, u]) (ws := [.ref a, y]) F hb hr1 I.env0.in1 hx I (.cons rfl (.cons ry .nil)) q)) (fun w s' z => ?_) fun _ _ x => x)
  obtain ⟨z', H', I', rz, k, ek, qz⟩ := z
  subst ek
  cases (show w = Value.bool k from rz)
  exact ⟨k, rfl, .bl (!k), H', I', rfl, qz⟩
/-- len(set(xs)), xs a list of ints -/
def lenSet (ns : List Int) : Nat := (PyProof.Rows.firstMet (fun i => ns.getD i 0) ns.length).length
def tLenSetF (K : PySem.W.Frag) (ta : TE) : TE := fun σ H Q => ta σ H fun x H1 => ∃ (l : Addr) (ns : List Int), x = .ref l ∧ SqL K H1 l (ns.map V.int) ∧ ns.length ≤ 4000 ∧ Q (.int (lenSet ns : Nat)) H1
theorem pe_lenSetF {a : Expr} {ta : TE} {p p2 q pos : Pos} (hg : Gl X "len") (hm : X.mg "len" = none) (hg2 : Gl X "set") (hm2 : X.mg "set" = none) (ha : PE X a ta) (hc : X.calm = true := by rfl)
    (na : starEach [a] X.env = (false, eval a X.env) :: starEach [] X.env := by rfl) : PE X (.Call (.Name "len" p) [.Call (.Name "set" p2) [a] [] q] [] pos) (tLenSetF X.K ta) := by
  refine ⟨fun pins s σ H Q I h => ?_⟩
  refine Call_ (ld_blt I hg hm boot_len ?_)
  refine PyProof.Rows.callWith_builtin1 (PyProof.Rows.args_cons ?_ rfl) rfl rfl
  refine Call_ (ld_blt I hg2 hm2 boot_set ?_)
  refine PyProof.Rows.callWith_type1 (PyProof.Rows.args_cons (thn (ha.run pins s σ H _ I h) fun v s1 ⟨x, H1, I1, r1, q1⟩ => PyProof.Rows.args_nil ?_) na) na rfl
  obtain ⟨l, ns, rfl, hq, hl, q1⟩ := q1
  cases r1
  obtain ⟨its, r, pl, hz⟩ := I1.list hq
  have hlen : its.toArray.size = ns.length := by rw [List.size_toArray, ← r.length, List.length_map]
  refine call_set_list (I1.ok.hd hc) pl.isList (by simpa using RZ.intsAre_vals r) (by rw [hlen]; unfold scanBound; omega) fun h' tk hS hk => ?_
  refine PyProof.Rows.args_nil ?_
  rw [hlen] at hS
  have hle := PyProof.Rows.firstMet_length_le (fun i => ns.getD i 0) ns.length
  obtain ⟨o, es, ep, t, ho, hex, hd, _, _, _, hf, hn⟩ := hS
  have I2 : Inv X pins σ H1 { s1 with heap := h', toks := tk } := I1.kept fun b o e => hk b o (Heap.lt_size e) e
  exact call_len_set ho hex hd hf (by rw [hn] <;> omega) ⟨.int (lenSet ns : Nat), H1, I2.tok _, ⟨_, by rw [hn]; rfl⟩, q1⟩
theorem mem_firstMet {f : Nat → Int} : ∀ {n : Nat} {k : Int}, k ∈ PyProof.Rows.firstMet f n ↔ ∃ i < n, f i = k := by
  intro n k
  have h := PyProof.Rows.firstMet_any f n k
  constructor
  · intro hk
    have h1 : (PyProof.Rows.firstMet f n).any (· == k) = true := List.any_eq_true.mpr ⟨k, hk, by simp⟩
    rw [h] at h1
    obtain ⟨x, hx, e⟩ := List.any_eq_true.mp h1
    obtain ⟨i, hi, rfl⟩ := List.mem_map.mp hx
    exact ⟨i, List.mem_range.mp hi, eq_of_beq e⟩
  · rintro ⟨i, hi, rfl⟩
    have h1 : ((List.range n).map f).any (· == f i) = true := List.any_eq_true.mpr ⟨f i, List.mem_map.mpr ⟨i, List.mem_range.mpr hi, rfl⟩, by simp⟩
    rw [← h] at h1
    obtain ⟨x, hx, e⟩ := List.any_eq_true.mp h1
    rw [← eq_of_beq e]
    exact hx
theorem mem_lenSet {ns : List Int} {k : Int} : k ∈ PyProof.Rows.firstMet (fun i => ns.getD i 0) ns.length ↔ k ∈ ns := by
  rw [mem_firstMet]
  constructor
  · rintro ⟨i, hi, rfl⟩
    rw [List.getD_eq_getElem?_getD, List.getElem?_eq_getElem hi]
    exact List.getElem_mem hi
  · intro h
    obtain ⟨i, hi, e⟩ := List.mem_iff_getElem.mp h
    refine ⟨i, hi, ?_⟩
    rw [List.getD_eq_getElem?_getD, List.getElem?_eq_getElem hi, e]
    rfl
theorem lenSet_many {ns : List Int} {x y : Int} (hx : x ∈ ns) (hy : y ∈ ns) (ne : x ≠ y) : lenSet ns ≠ 1 := fun h => by
  obtain ⟨z, hz⟩ := List.length_eq_one_iff.mp h
  have h1 := mem_lenSet.mpr hx
  have h2 := mem_lenSet.mpr hy
  rw [hz] at h1 h2
  exact ne ((List.mem_singleton.mp h1).trans (List.mem_singleton.mp h2).symm)
theorem firstMet_const {f : Nat → Int} {x : Int} : ∀ {n : Nat}, 0 < n → (∀ i < n, f i = x) → PyProof.Rows.firstMet f n = [x]
  | 1, _, h => by
    rw [PyProof.Rows.firstMet_succ, PyProof.Rows.firstMet_zero, h 0 (by omega)]
    rfl
  | n + 2, _, h => by
    rw [PyProof.Rows.firstMet_succ, firstMet_const (n := n + 1) (by omega) (fun i hi => h i (by omega)), h (n + 1) (by omega)]
    show (if ([x].any (· == x)) then [x] else [x] ++ [x]) = [x]
    simp
theorem lenSet_one {ns : List Int} {x : Int} (h0 : ns ≠ []) (h : ∀ y ∈ ns, y = x) : lenSet ns = 1 := by
  unfold lenSet
  rw [firstMet_const (x := x) (List.length_pos_iff.mpr h0) fun i hi => h _ ?_]
  · rfl
  · rw [List.getD_eq_getElem?_getD, List.getElem?_eq_getElem hi]
    exact List.getElem_mem hi
end
end L2
set_option maxHeartbeats 1000000
/-! Lines of pairs of rounds: the mathematics of meetings, without the program -/
namespace Mt
/-! ### the combination: g = one * x + other * y -/
/-- a state of the loop: what holds of (r0, x0, y0), (r1, x1, y1) -/
structure CombI (a b : Int) (r0 x0 y0 r1 x1 y1 : Int) : Prop where
  h0 : a * x0 + b * y0 = r0
  h1 : a * x1 + b * y1 = r1
  da : ∃ u v : Int, a = u * r0 + v * r1
  db : ∃ u v : Int, b = u * r0 + v * r1
theorem CombI.start (a b : Int) : CombI a b a 1 0 b 0 1 := ⟨by omega, by omega, ⟨1, 0, by omega⟩, ⟨0, 1, by omega⟩⟩
theorem CombI.step {a b r0 x0 y0 r1 x1 y1 m : Int} (h : CombI a b r0 x0 y0 r1 x1 y1) : CombI a b r1 x1 y1 (r0 - m * r1) (x0 - m * x1) (y0 - m * y1) := by
  obtain ⟨h0, h1, ⟨u, v, ea⟩, ⟨u', v', eb⟩⟩ := h
  refine ⟨h1, ?_, ⟨u * m + v, u, ?_⟩, ⟨u' * m + v', u', ?_⟩⟩
  · rw [Int.mul_sub, Int.mul_sub, ← h0, ← h1, Int.mul_add]
    have e1 : a * (m * x1) = m * (a * x1) := Int.mul_left_comm _ _ _
    have e2 : b * (m * y1) = m * (b * y1) := Int.mul_left_comm _ _ _
    rw [e1, e2]
    omega
  · rw [Int.add_mul, Int.mul_sub, ← Int.mul_assoc]
    omega
  · rw [Int.add_mul, Int.mul_sub, ← Int.mul_assoc]
    omega
/-- how great the parts may be: |r0| * |x1| + |r1| * |x0| stays below a bound -/
def Sz (C : Nat) (r0 x0 r1 x1 : Int) : Prop := r0.natAbs * x1.natAbs + r1.natAbs * x0.natAbs ≤ C
/-- the signs are alike (or r1 is 0), as they are behind the first turn -/
def Like (r0 r1 : Int) : Prop := (0 ≤ r0 ∧ 0 ≤ r1) ∨ (r0 ≤ 0 ∧ r1 ≤ 0)
theorem fm_pos {r1 : Int} (r0 : Int) (h : 0 < r1) : 0 ≤ r0.fmod r1 ∧ r0.fmod r1 < r1 := by
  rw [Int.fmod_eq_emod_of_nonneg _ (by omega)]
  exact ⟨Int.emod_nonneg _ (by omega), Int.emod_lt_of_pos _ h⟩
theorem like_step {r0 r1 : Int} (h : r1 ≠ 0) : Like r1 (r0 - r0.fdiv r1 * r1) ∧ (r0 - r0.fdiv r1 * r1).natAbs < r1.natAbs := by
  have e : r0 - r0.fdiv r1 * r1 = r0.fmod r1 := by
    have := Int.fmod_add_mul_fdiv r0 r1
    rw [Int.mul_comm] at this
    omega
  rw [e]
  by_cases hp : 0 < r1
  · obtain ⟨h1, h2⟩ := fm_pos r0 hp
    exact ⟨.inl ⟨by omega, h1⟩, by omega⟩
  · have hn : r1 < 0 := by omega
    have e2 : r0.fmod r1 = -((-r0).fmod (-r1)) := by
      have := Int.neg_fmod_neg r0 r1
      omega
    obtain ⟨h1, h2⟩ := fm_pos (-r0) (show (0 : Int) < -r1 by omega)
    rw [e2]
    exact ⟨.inr ⟨by omega, by omega⟩, by omega⟩
theorem sz_step {C : Nat} {r0 x0 r1 x1 : Int} (h : r1 ≠ 0) (hl : Like r0 r1) (s : Sz C r0 x0 r1 x1) : Sz C r1 x1 (r0 - r0.fdiv r1 * r1) (x0 - r0.fdiv r1 * x1) := by
  have e : (r0.fdiv r1).natAbs * r1.natAbs + (r0 - r0.fdiv r1 * r1).natAbs = r0.natAbs := by
    have e0 : r0 - r0.fdiv r1 * r1 = r0.fmod r1 := by
      have := Int.fmod_add_mul_fdiv r0 r1
      rw [Int.mul_comm] at this
      omega
    rw [e0]
    rcases hl with ⟨p, q⟩ | ⟨p, q⟩
    · have hp : 0 < r1 := by omega
      rw [Int.fdiv_eq_ediv_of_nonneg _ q, Int.fmod_eq_emod_of_nonneg _ q]
      have a1 := Int.ediv_nonneg p q
      have a2 := Int.emod_nonneg r0 h
      have a3 := Int.mul_ediv_add_emod r0 r1
      have a4 : 0 ≤ (r0 / r1) * r1 := Int.mul_nonneg a1 q
      rw [← Int.natAbs_mul, ← Int.natAbs_add_of_nonneg a4 a2, Int.mul_comm (r0 / r1) r1, a3]
    · have hp : 0 < -r1 := by omega
      have f1 : r0.fdiv r1 = (-r0) / (-r1) := by
        rw [← Int.fdiv_eq_ediv_of_nonneg _ (by omega), Int.neg_fdiv_neg]
      have f2 : r0.fmod r1 = -((-r0) % (-r1)) := by
        have := Int.neg_fmod_neg r0 r1
        rw [← Int.fmod_eq_emod_of_nonneg _ (show (0 : Int) ≤ -r1 by omega)]
        omega
      rw [f1, f2]
      have a1 := Int.ediv_nonneg (show (0 : Int) ≤ -r0 by omega) (show (0 : Int) ≤ -r1 by omega)
      have a2 := Int.emod_nonneg (-r0) (show -r1 ≠ 0 by omega)
      have a3 := Int.mul_ediv_add_emod (-r0) (-r1)
      have a4 : 0 ≤ ((-r0) / (-r1)) * (-r1) := Int.mul_nonneg a1 (by omega)
      have b1 : r1.natAbs = (-r1).natAbs := (Int.natAbs_neg r1).symm
      have b2 : (-((-r0) % (-r1))).natAbs = ((-r0) % (-r1)).natAbs := Int.natAbs_neg _
      rw [b1, b2, ← Int.natAbs_mul, ← Int.natAbs_add_of_nonneg a4 a2, Int.mul_comm ((-r0) / (-r1)) (-r1), a3, Int.natAbs_neg]
  unfold Sz at s ⊢
  have t : (x0 - r0.fdiv r1 * x1).natAbs ≤ x0.natAbs + (r0.fdiv r1).natAbs * x1.natAbs := by
    have := Int.natAbs_sub_le x0 (r0.fdiv r1 * x1)
    rw [Int.natAbs_mul] at this
    exact this
  have u : r1.natAbs * (x0 - r0.fdiv r1 * x1).natAbs ≤ r1.natAbs * (x0.natAbs + (r0.fdiv r1).natAbs * x1.natAbs) := Nat.mul_le_mul_left _ t
  have v : r1.natAbs * (x0.natAbs + (r0.fdiv r1).natAbs * x1.natAbs) + (r0 - r0.fdiv r1 * r1).natAbs * x1.natAbs = r0.natAbs * x1.natAbs + r1.natAbs * x0.natAbs := by
    rw [← e, Nat.mul_add, Nat.add_mul]
    have : r1.natAbs * ((r0.fdiv r1).natAbs * x1.natAbs) = (r0.fdiv r1).natAbs * r1.natAbs * x1.natAbs := by rw [Nat.mul_left_comm, Nat.mul_assoc]
    omega
  omega
theorem sz_part {C : Nat} {r0 x0 r1 x1 : Int} (h : r0 ≠ 0) (s : Sz C r0 x0 r1 x1) : x1.natAbs ≤ C := by
  unfold Sz at s
  have h1 : 1 * x1.natAbs ≤ r0.natAbs * x1.natAbs := Nat.mul_le_mul_right _ (by omega)
  omega
/-! ### what the loop leaves: the greatest common divisor with its parts -/
structure Comb (a b g x y : Int) : Prop where
  ez : a * x + b * y = g
  nn : 0 ≤ g
  da : ∃ u, a = u * g
  db : ∃ u, b = u * g
theorem Comb.of {a b g x y x1 y1 : Int} (h : CombI a b g x y 0 x1 y1) (hg : 0 ≤ g) : Comb a b g x y := by
  obtain ⟨h0, _, ⟨u, v, ea⟩, ⟨u', v', eb⟩⟩ := h
  exact ⟨h0, hg, ⟨u, by omega⟩, ⟨u', by omega⟩⟩
theorem Comb.neg {a b g x y x1 y1 : Int} (h : CombI a b g x y 0 x1 y1) (hg : g < 0) : Comb a b (-g) (-x) (-y) := by
  obtain ⟨h0, _, ⟨u, v, ea⟩, ⟨u', v', eb⟩⟩ := h
  refine ⟨?_, by omega, ⟨-u, ?_⟩, ⟨-u', ?_⟩⟩
  · rw [Int.mul_neg, Int.mul_neg]; omega
  · rw [Int.neg_mul_neg]; omega
  · rw [Int.neg_mul_neg]; omega
theorem Comb.pos {a b g x y : Int} (h : Comb a b g x y) (hab : ¬ (a = 0 ∧ b = 0)) : 0 < g := by
  obtain ⟨_, nn, ⟨u, ea⟩, ⟨v, eb⟩⟩ := h
  rcases Int.lt_or_eq_of_le nn with h | h
  · exact h
  · subst h
    exact absurd ⟨by omega, by omega⟩ hab
theorem Comb.gcd {a b g x y : Int} (h : Comb a b g x y) : g = (Int.gcd a b : Int) := by
  obtain ⟨ez, nn, ⟨u, ea⟩, ⟨v, eb⟩⟩ := h
  have d1 : g ∣ (Int.gcd a b : Int) := Int.dvd_coe_gcd ⟨u, by rw [Int.mul_comm]; exact ea⟩ ⟨v, by rw [Int.mul_comm]; exact eb⟩
  have d2 : (Int.gcd a b : Int) ∣ g := by
    rw [← ez]
    exact Int.dvd_add (Int.dvd_mul_of_dvd_left (Int.gcd_dvd_left ..)) (Int.dvd_mul_of_dvd_left (Int.gcd_dvd_right ..))
  exact Int.dvd_antisymm nn (Int.natCast_nonneg _) d1 d2
/-! ### the line: all pairs (r, s) with p0 * r + p1 = o0 * s + o1 -/
def meets (p o q : Int × Int) : Prop := p.1 * q.1 + p.2 = o.1 * q.2 + o.2
instance (p o q : Int × Int) : Decidable (meets p o q) := by unfold meets; infer_instance
def after (q st : Int × Int) (t : Int) : Int × Int := (q.1 + st.1 * t, q.2 + st.2 * t)
structure Line (p o q0 st : Int × Int) : Prop where
  on : meets p o q0
  st1 : ∃ g, 0 < g ∧ p.1 = st.2 * g ∧ o.1 = st.1 * g
  bz : ∃ x y : Int, st.2 * x + st.1 * y = 1
theorem Line.ne {p o q0 st : Int × Int} (L : Line p o q0 st) : ¬ (st.1 = 0 ∧ st.2 = 0) := fun ⟨h1, h2⟩ => by
  obtain ⟨x, y, e⟩ := L.bz
  rw [h1, h2] at e
  omega
theorem Line.at {p o q0 st : Int × Int} (L : Line p o q0 st) (t : Int) : meets p o (after q0 st t) := by
  obtain ⟨on, ⟨g, _, e1, e2⟩, _⟩ := L
  unfold meets after at *
  dsimp only
  rw [Int.mul_add, Int.mul_add]
  have : p.1 * (st.1 * t) = o.1 * (st.2 * t) := by
    rw [e1, e2]
    rw [Int.mul_assoc, Int.mul_assoc, Int.mul_left_comm g st.1 t, Int.mul_left_comm g st.2 t, Int.mul_left_comm]
  omega
theorem Line.all {p o q0 st q : Int × Int} (L : Line p o q0 st) (h : meets p o q) : ∃ t, q = after q0 st t := by
  obtain ⟨on, ⟨g, g0, e1, e2⟩, ⟨x, y, ez⟩⟩ := L
  have e3 : st.2 * (q.1 - q0.1) = st.1 * (q.2 - q0.2) := by
    unfold meets at on h
    have a1 : p.1 * (q.1 - q0.1) = o.1 * (q.2 - q0.2) := by rw [Int.mul_sub, Int.mul_sub]; omega
    rw [e1, e2, Int.mul_right_comm, Int.mul_right_comm st.1] at a1
    exact Int.eq_of_mul_eq_mul_right (by omega) a1
  obtain ⟨dr, hr⟩ : ∃ dr, dr = q.1 - q0.1 := ⟨_, rfl⟩
  obtain ⟨ds, hs⟩ : ∃ ds, ds = q.2 - q0.2 := ⟨_, rfl⟩
  rw [← hr, ← hs] at e3
  refine ⟨y * dr + x * ds, ?_⟩
  have f1 : st.1 * (y * dr + x * ds) = dr := by
    have : st.1 * (x * ds) = x * (st.2 * dr) := by rw [e3, Int.mul_left_comm]
    rw [Int.mul_add, this]
    have k : st.1 * (y * dr) + x * (st.2 * dr) = (st.2 * x + st.1 * y) * dr := by
      rw [Int.add_mul, ← Int.mul_assoc, ← Int.mul_assoc, Int.mul_comm x st.2]
      omega
    rw [k, ez]
    omega
  have f2 : st.2 * (y * dr + x * ds) = ds := by
    have : st.2 * (y * dr) = y * (st.1 * ds) := by rw [← e3, Int.mul_left_comm]
    rw [Int.mul_add, this]
    have k : y * (st.1 * ds) + st.2 * (x * ds) = (st.2 * x + st.1 * y) * ds := by
      rw [Int.add_mul, ← Int.mul_assoc, ← Int.mul_assoc, Int.mul_comm y st.1]
      omega
    rw [k, ez]
    omega
  unfold after
  rw [f1, f2, hr, hs]
  ext <;> dsimp only <;> omega
/-- the line that a combination makes -/
theorem line_of {p o : Int × Int} {g x y m : Int} (c : Comb p.1 o.1 g x y) (g0 : 0 < g) (hm : o.2 - p.2 = g * m) : Line p o (x * m, -y * m) (o.1 / g, p.1 / g) := by
  obtain ⟨ez, nn, ⟨u, ea⟩, ⟨v, eb⟩⟩ := c
  have hu : p.1 / g = u := by rw [ea, Int.mul_ediv_cancel _ (by omega)]
  have hv : o.1 / g = v := by rw [eb, Int.mul_ediv_cancel _ (by omega)]
  refine ⟨?_, ⟨g, g0, by dsimp only; rw [hu]; exact ea, by dsimp only; rw [hv]; exact eb⟩, ⟨x, y, ?_⟩⟩
  · unfold meets
    dsimp only
    have : p.1 * (x * m) - o.1 * (-y * m) = g * m := by
      rw [← ez, Int.add_mul, Int.neg_mul, Int.mul_neg, Int.mul_assoc, Int.mul_assoc]
      omega
    omega
  · dsimp only
    rw [hu, hv]
    have e : (u * x + v * y) * g = 1 * g := by
      rw [Int.one_mul]
      conv => rhs; rw [← ez]
      rw [ea, eb, Int.add_mul, Int.mul_right_comm u x g, Int.mul_right_comm v y g]
    exact Int.eq_of_mul_eq_mul_right (by omega) e
theorem no_line {p o q : Int × Int} {g x y : Int} (c : Comb p.1 o.1 g x y) (h : ¬ (o.2 - p.2) % g = 0) : ¬ meets p o q := fun e => by
  obtain ⟨_, nn, ⟨u, ea⟩, ⟨v, eb⟩⟩ := c
  apply h
  unfold meets at e
  have : o.2 - p.2 = g * (u * q.1 - v * q.2) := by
    rw [Int.mul_sub, ← Int.mul_assoc, ← Int.mul_assoc, Int.mul_comm g u, Int.mul_comm g v, ← ea, ← eb]
    omega
  rw [this]
  exact Int.mul_emod_right _ _
end Mt
set_option maxHeartbeats 1000000
/-! The ends of the part of a line on which some bounds hold -/
namespace Mt
abbrev Ends := Option Int × Option Int × Bool
def maxO (o : Option Int) (b : Int) : Int := match o with
  | none => b
  | some f => if b > f then b else f
def minO (o : Option Int) (b : Int) : Int := match o with
  | none => b
  | some f => if b < f then b else f
def endStep (e : Ends) (v s : Int) : Ends :=
  if 0 < s then (some (maxO e.1 (-(v / s))), e.2.1, e.2.2)
  else if s < 0 then (e.1, some (minO e.2.1 (v / -s)), e.2.2)
  else if v < 0 then (e.1, e.2.1, true) else e
def endsFrom (e : Ends) : List (Int × Int) → Ends
  | [] => e
  | r :: l => endsFrom (endStep e r.1 r.2) l
abbrev ends (rows : List (Int × Int)) : Ends := endsFrom (none, none, false) rows
def inE (e : Ends) (t : Int) : Prop := e.2.2 = false ∧ (∀ f, e.1 = some f → f ≤ t) ∧ ∀ l, e.2.1 = some l → t ≤ l
structure EndsOk (rows : List (Int × Int)) (e : Ends) : Prop where
  iff : ∀ t, inE e t ↔ ∀ r ∈ rows, 0 ≤ r.1 + r.2 * t
  fs : (∃ r ∈ rows, 0 < r.2) → ∃ f, e.1 = some f
  ls : (∃ r ∈ rows, r.2 < 0) → ∃ l, e.2.1 = some l
  fa : ∀ f, e.1 = some f → ∃ r ∈ rows, 0 < r.2 ∧ r.1 + r.2 * (f - 1) < 0
  la : ∀ l, e.2.1 = some l → ∃ r ∈ rows, r.2 < 0 ∧ r.1 + r.2 * (l + 1) < 0
  ba : e.2.2 = true → ∃ r ∈ rows, r.2 = 0 ∧ r.1 < 0
theorem EndsOk.nil : EndsOk [] (none, none, false) :=
  ⟨fun t => ⟨fun _ r h => (by cases h), fun _ => ⟨rfl, fun f h => (by cases h), fun l h => (by cases h)⟩⟩, fun ⟨r, h, _⟩ => (by cases h), fun ⟨r, h, _⟩ => (by cases h), fun f h => (by cases h), fun f h => (by cases h), fun h => (by cases h)⟩
theorem lo_iff {v s t : Int} (h : 0 < s) : 0 ≤ v + s * t ↔ -(v / s) ≤ t := by
  have : -t ≤ v / s ↔ -t * s ≤ v := Int.le_ediv_iff_mul_le h
  rw [Int.neg_mul, Int.mul_comm t s] at this
  constructor
  · intro q
    have := this.mpr (by omega)
    omega
  · intro q
    have := this.mp (by omega)
    omega
theorem hi_iff {v s t : Int} (h : s < 0) : 0 ≤ v + s * t ↔ t ≤ v / -s := by
  have : t ≤ v / -s ↔ t * -s ≤ v := Int.le_ediv_iff_mul_le (by omega)
  rw [Int.mul_neg, Int.mul_comm t s] at this
  constructor
  · intro q
    exact this.mpr (by omega)
  · intro q
    have := this.mp q
    omega
theorem forall_snoc {rows : List (Int × Int)} {p : Int × Int} {P : Int × Int → Prop} : (∀ r ∈ rows ++ [p], P r) ↔ (∀ r ∈ rows, P r) ∧ P p := by
  constructor
  · intro h
    exact ⟨fun r hr => h r (List.mem_append_left _ hr), h p (List.mem_append_right _ (List.mem_singleton.mpr rfl))⟩
  · rintro ⟨h1, h2⟩ r hr
    rcases List.mem_append.mp hr with hr | hr
    · exact h1 r hr
    · rw [List.mem_singleton.mp hr]
      exact h2
theorem exists_snoc {rows : List (Int × Int)} {p : Int × Int} {P : Int × Int → Prop} : (∃ r ∈ rows ++ [p], P r) ↔ (∃ r ∈ rows, P r) ∨ P p := by
  constructor
  · rintro ⟨r, hr, h⟩
    rcases List.mem_append.mp hr with hr | hr
    · exact .inl ⟨r, hr, h⟩
    · rw [List.mem_singleton.mp hr] at h
      exact .inr h
  · rintro (⟨r, hr, h⟩ | h)
    · exact ⟨r, List.mem_append_left _ hr, h⟩
    · exact ⟨p, List.mem_append_right _ (List.mem_singleton.mpr rfl), h⟩
theorem maxO_le {o : Option Int} {b t : Int} : maxO o b ≤ t ↔ (∀ f, o = some f → f ≤ t) ∧ b ≤ t := by
  unfold maxO
  cases o with
  | none => exact ⟨fun h => ⟨fun f z => (by cases z), h⟩, fun h => h.2⟩
  | some f =>
    dsimp only
    constructor
    · intro h
      refine ⟨fun g z => ?_, ?_⟩
      · cases z
        split at h <;> omega
      · split at h <;> omega
    · rintro ⟨h1, h2⟩
      have := h1 f rfl
      split <;> omega
theorem le_minO {o : Option Int} {b t : Int} : t ≤ minO o b ↔ (∀ f, o = some f → t ≤ f) ∧ t ≤ b := by
  unfold minO
  cases o with
  | none => exact ⟨fun h => ⟨fun f z => (by cases z), h⟩, fun h => h.2⟩
  | some f =>
    dsimp only
    constructor
    · intro h
      refine ⟨fun g z => ?_, ?_⟩
      · cases z
        split at h <;> omega
      · split at h <;> omega
    · rintro ⟨h1, h2⟩
      have := h1 f rfl
      split <;> omega
theorem maxO_is (o : Option Int) (b : Int) : maxO o b = b ∨ o = some (maxO o b) := by
  unfold maxO
  cases o with
  | none => exact .inl rfl
  | some f =>
    dsimp only
    split
    · exact .inl rfl
    · exact .inr rfl
theorem minO_is (o : Option Int) (b : Int) : minO o b = b ∨ o = some (minO o b) := by
  unfold minO
  cases o with
  | none => exact .inl rfl
  | some f =>
    dsimp only
    split
    · exact .inl rfl
    · exact .inr rfl
theorem EndsOk.step {rows : List (Int × Int)} {e : Ends} (h : EndsOk rows e) (v s : Int) : EndsOk (rows ++ [(v, s)]) (endStep e v s) := by
  unfold endStep
  by_cases h1 : 0 < s
  · rw [if_pos h1]
    refine ⟨fun t => ?_, fun _ => ⟨_, rfl⟩, fun z => ?_, fun f z => ?_, fun l z => ?_, fun z => ?_⟩
    · rw [forall_snoc, ← h.iff t, lo_iff h1]
      unfold inE
      dsimp only
      constructor
      · rintro ⟨a, b, c⟩
        have := maxO_le.mp (b _ rfl)
        exact ⟨⟨a, this.1, c⟩, this.2⟩
      · rintro ⟨⟨a, b, c⟩, d⟩
        refine ⟨a, fun f z => ?_, c⟩
        cases z
        exact maxO_le.mpr ⟨b, d⟩
    · rcases exists_snoc.mp z with z | z
      · exact h.ls z
      · dsimp only at z; omega
    · cases z
      apply exists_snoc.mpr
      rcases maxO_is e.1 (-(v / s)) with q | q
      · refine .inr ⟨h1, ?_⟩
        dsimp only
        rw [q]
        have := (@lo_iff v s (-(v / s) - 1) h1).mp
        omega
      · exact .inl (h.fa _ q)
    · exact exists_snoc.mpr (.inl (h.la l z))
    · exact exists_snoc.mpr (.inl (h.ba z))
  · rw [if_neg h1]
    by_cases h2 : s < 0
    · rw [if_pos h2]
      refine ⟨fun t => ?_, fun z => ?_, fun _ => ⟨_, rfl⟩, fun f z => ?_, fun l z => ?_, fun z => ?_⟩
      · rw [forall_snoc, ← h.iff t, hi_iff h2]
        unfold inE
        dsimp only
        constructor
        · rintro ⟨a, b, c⟩
          have := le_minO.mp (c _ rfl)
          exact ⟨⟨a, b, this.1⟩, this.2⟩
        · rintro ⟨⟨a, b, c⟩, d⟩
          refine ⟨a, b, fun f z => ?_⟩
          cases z
          exact le_minO.mpr ⟨c, d⟩
      · rcases exists_snoc.mp z with z | z
        · exact h.fs z
        · dsimp only at z; omega
      · exact exists_snoc.mpr (.inl (h.fa f z))
      · cases z
        apply exists_snoc.mpr
        rcases minO_is e.2.1 (v / -s) with q | q
        · refine .inr ⟨h2, ?_⟩
          dsimp only
          rw [q]
          have := (@hi_iff v s (v / -s + 1) h2).mp
          omega
        · exact .inl (h.la _ q)
      · exact exists_snoc.mpr (.inl (h.ba z))
    · rw [if_neg h2]
      have hs : s = 0 := by omega
      subst hs
      by_cases h3 : v < 0
      · rw [if_pos h3]
        refine ⟨fun t => ?_, fun z => ?_, fun z => ?_, fun f z => exists_snoc.mpr (.inl (h.fa f z)), fun l z => exists_snoc.mpr (.inl (h.la l z)), fun _ => exists_snoc.mpr (.inr ⟨rfl, h3⟩)⟩
        · rw [forall_snoc]
          unfold inE
          dsimp only
          constructor
          · rintro ⟨a, _⟩
            cases a
          · rintro ⟨_, b⟩
            omega
        · rcases exists_snoc.mp z with z | z
          · exact h.fs z
          · dsimp only at z; omega
        · rcases exists_snoc.mp z with z | z
          · exact h.ls z
          · dsimp only at z; omega
      · rw [if_neg h3]
        refine ⟨fun t => ?_, fun z => ?_, fun z => ?_, fun f z => exists_snoc.mpr (.inl (h.fa f z)), fun l z => exists_snoc.mpr (.inl (h.la l z)), fun z => exists_snoc.mpr (.inl (h.ba z))⟩
        · rw [forall_snoc, ← h.iff t]
          dsimp only
          constructor
          · intro a
            exact ⟨a, by omega⟩
          · exact fun a => a.1
        · rcases exists_snoc.mp z with z | z
          · exact h.fs z
          · dsimp only at z; omega
        · rcases exists_snoc.mp z with z | z
          · exact h.ls z
          · dsimp only at z; omega
theorem endsFrom_ok : ∀ (rows pre : List (Int × Int)) (e : Ends), EndsOk pre e → EndsOk (pre ++ rows) (endsFrom e rows)
  | [], pre, e, h => by rw [List.append_nil]; exact h
  | r :: l, pre, e, h => by
    have := endsFrom_ok l (pre ++ [r]) _ (h.step r.1 r.2)
    rw [List.append_assoc] at this
    exact this
theorem ends_ok (rows : List (Int × Int)) : EndsOk rows (ends rows) := by
  have := endsFrom_ok rows [] _ EndsOk.nil
  exact this
theorem endsFrom_snoc : ∀ (rows : List (Int × Int)) (e : Ends) (r : Int × Int), endsFrom e (rows ++ [r]) = endStep (endsFrom e rows) r.1 r.2
  | [], _, _ => rfl
  | _ :: l, _, r => endsFrom_snoc l _ r
/-! ### the bounds -/
structure Bnd where
  low : Int
  high : Option Int
  first : Int
  rounds : Option Int
def spares (b : Bnd) (q : Int × Int) : List Int :=
  [q.1 - b.first, (q.2 - q.1) - b.low] ++ (match b.high with | none => [] | some h => [h - (q.2 - q.1)]) ++ (match b.rounds with | none => [] | some n => [n - 1 - q.2])
def slopes (b : Bnd) (st : Int × Int) : List Int :=
  [st.1, st.2 - st.1] ++ (match b.high with | none => [] | some _ => [st.1 - st.2]) ++ (match b.rounds with | none => [] | some _ => [-st.2])
theorem len_eq (b : Bnd) (q st : Int × Int) : (spares b q).length = (slopes b st).length := by
  unfold spares slopes
  cases b.high <;> cases b.rounds <;> rfl
def rows (b : Bnd) (q st : Int × Int) : List (Int × Int) := (spares b q).zip (slopes b st)
/-- the rows of the pair t steps after -/
theorem rows_after (b : Bnd) (q st : Int × Int) (t : Int) : rows b (after q st t) st = (rows b q st).map fun r => (r.1 + r.2 * t, r.2) := by
  unfold rows spares slopes after
  cases b.high <;> cases b.rounds <;> simp only [List.append_nil, List.nil_append, List.zip_cons_cons, List.zip_nil_right, List.cons_append, List.map_cons, List.map_nil, List.cons.injEq, Prod.mk.injEq, and_true, true_and] <;>
    (simp only [Int.sub_mul, Int.neg_mul]; omega)
def keeps (b : Bnd) (q : Int × Int) : Prop := ∀ v ∈ spares b q, 0 ≤ v
theorem keeps_iff (b : Bnd) (q : Int × Int) : keeps b q ↔ b.first ≤ q.1 ∧ b.low ≤ q.2 - q.1 ∧ (∀ h, b.high = some h → q.2 - q.1 ≤ h) ∧ ∀ n, b.rounds = some n → q.2 < n := by
  unfold keeps spares
  obtain ⟨lo, hi, fi, ro⟩ := b
  cases hi <;> cases ro <;> simp <;> omega
theorem keeps_rows (b : Bnd) (q st : Int × Int) (t : Int) : keeps b (after q st t) ↔ ∀ r ∈ rows b q st, 0 ≤ r.1 + r.2 * t := by
  have e : (rows b (after q st t) st).map (·.1) = spares b (after q st t) := by
    unfold rows
    rw [List.map_fst_zip]
    exact Nat.le_of_eq (len_eq b _ st)
  unfold keeps
  rw [← e, rows_after]
  simp only [List.map_map, List.mem_map, Function.comp]
  constructor
  · intro h r hr
    exact h _ ⟨r, hr, rfl⟩
  · rintro h v ⟨r, hr, rfl⟩
    exact h r hr
end Mt
set_option maxHeartbeats 1000000
/-! Meetings: the nearest pair, and what papers say -/
namespace Mt
def isEmpty (has : Bool) (e : Ends) : Bool := (!has || e.2.2) || (match e.1, e.2.1 with | some f, some l => decide (l < f) | _, _ => false)
def endBy (q0 st : Int × Int) (e : Ends) (g : Int) : Option (Int × Int) := (if 0 < g then e.1 else e.2.1).map (after q0 st)
def growth (st : Int × Int) : Int := if st.2 ≠ 0 then st.2 else st.1
def way (st : Int × Int) : Int := if st.2 ≠ st.1 then st.2 - st.1 else growth st
def nearest (has : Bool) (q0 st : Int × Int) (e : Ends) : Option (Int × Int) := if isEmpty has e = true then none else endBy q0 st e (way st)
structure MetOk (p o : Int × Int) (b : Bnd) (has : Bool) (q0 st : Int × Int) (e : Ends) : Prop where
  he : e = ends (rows b q0 st)
  yes : has = true → Line p o q0 st
  no : has = false → q0 = (0, 0) ∧ st = (0, 0) ∧ ∀ q, ¬ meets p o q
def good (p o : Int × Int) (b : Bnd) (q : Int × Int) : Prop := meets p o q ∧ keeps b q
section
variable {p o q0 st q : Int × Int} {b : Bnd} {has : Bool} {e : Ends}
theorem MetOk.inE_iff (M : MetOk p o b has q0 st e) (t : Int) : inE e t ↔ keeps b (after q0 st t) := by
  rw [keeps_rows, M.he]
  exact (ends_ok _).iff t
theorem MetOk.good_iff (M : MetOk p o b has q0 st e) (h : has = true) (t : Int) : good p o b (after q0 st t) ↔ inE e t := by
  rw [M.inE_iff]
  exact ⟨fun h => h.2, fun z => ⟨(M.yes h).at t, z⟩⟩
theorem way_ne (h : ¬ (st.1 = 0 ∧ st.2 = 0)) : way st ≠ 0 := by
  unfold way growth
  split
  · omega
  · split <;> omega
/-- the slopes of the first two rows -/
theorem row_mem1 (b : Bnd) (q st : Int × Int) : ∃ v, (v, st.1) ∈ rows b q st := ⟨q.1 - b.first, by unfold rows spares slopes; simp⟩
theorem row_mem2 (b : Bnd) (q st : Int × Int) : ∃ v, (v, st.2 - st.1) ∈ rows b q st := ⟨(q.2 - q.1) - b.low, by unfold rows spares slopes; simp⟩
theorem way_some (M : MetOk p o b has q0 st e) (h : ¬ (st.1 = 0 ∧ st.2 = 0)) : (0 < way st → ∃ f, e.1 = some f) ∧ (way st < 0 → ∃ l, e.2.1 = some l) := by
  have O := ends_ok (rows b q0 st)
  rw [← M.he] at O
  obtain ⟨v1, m1⟩ := row_mem1 b q0 st
  obtain ⟨v2, m2⟩ := row_mem2 b q0 st
  unfold way growth
  by_cases h1 : st.2 ≠ st.1
  · rw [if_pos h1]
    exact ⟨fun z => O.fs ⟨_, m2, z⟩, fun z => O.ls ⟨_, m2, z⟩⟩
  · rw [if_neg h1]
    have h2 : st.2 ≠ 0 := by omega
    rw [if_pos h2]
    exact ⟨fun z => O.fs ⟨_, m1, by dsimp only; omega⟩, fun z => O.ls ⟨_, m1, by dsimp only; omega⟩⟩
theorem empty_false : isEmpty has e = false ↔ has = true ∧ e.2.2 = false ∧ ∀ f l, e.1 = some f → e.2.1 = some l → f ≤ l := by
  obtain ⟨f, l, c⟩ := e
  unfold isEmpty
  cases has <;> cases c <;> cases f <;> cases l <;> simp
/-- what is not empty has a nearest pair -/
theorem near_end (M : MetOk p o b has q0 st e) (h : isEmpty has e = false) :
    ∃ t, nearest has q0 st e = some (after q0 st t) ∧ inE e t ∧ ¬ inE e (if 0 < way st then t - 1 else t + 1) := by
  obtain ⟨hh, hb, hfl⟩ := empty_false.mp h
  have L := M.yes hh
  have w0 := way_ne L.ne
  obtain ⟨wf, wl⟩ := way_some M L.ne
  unfold nearest
  rw [h, if_neg Bool.false_ne_true]
  unfold endBy
  by_cases hw : 0 < way st
  · obtain ⟨f, ef⟩ := wf hw
    refine ⟨f, by rw [if_pos hw, ef]; rfl, ⟨hb, fun g z => ?_, fun l z => hfl f l ef z⟩, fun z => ?_⟩
    · rw [ef] at z; cases z; exact Int.le_refl _
    · rw [if_pos hw] at z
      have := z.2.1 f ef
      omega
  · obtain ⟨l, el⟩ := wl (by omega)
    refine ⟨l, by rw [if_neg hw, el]; rfl, ⟨hb, fun g z => hfl g l z el, fun g z => ?_⟩, fun z => ?_⟩
    · rw [el] at z; cases z; exact Int.le_refl _
    · rw [if_neg hw] at z
      have := z.2.2 l el
      omega
/-- an interval has one such end -/
theorem end_unique {t u w : Int} (h1 : inE e t) (h2 : ¬ inE e (if 0 < w then t - 1 else t + 1)) (h3 : inE e u) (h4 : ¬ inE e (if 0 < w then u - 1 else u + 1)) : t = u := by
  obtain ⟨a1, a2, a3⟩ := h1
  obtain ⟨c1, c2, c3⟩ := h3
  unfold inE at h2 h4
  by_cases hw : 0 < w
  · rw [if_pos hw] at h2 h4
    rcases Int.lt_trichotomy t u with z | z | z
    · exact absurd ⟨a1, fun f q => by have := a2 f q; omega, fun l q => by have := c3 l q; omega⟩ h4
    · exact z
    · exact absurd ⟨a1, fun f q => by have := c2 f q; omega, fun l q => by have := a3 l q; omega⟩ h2
  · rw [if_neg hw] at h2 h4
    rcases Int.lt_trichotomy t u with z | z | z
    · exact absurd ⟨a1, fun f q => by have := a2 f q; omega, fun l q => by have := c3 l q; omega⟩ h2
    · exact z
    · exact absurd ⟨a1, fun f q => by have := c2 f q; omega, fun l q => by have := a3 l q; omega⟩ h4
theorem empty_no (M : MetOk p o b has q0 st e) (h : isEmpty has e = true) : ¬ good p o b q := by
  rintro ⟨h1, h2⟩
  cases hh : has with
  | false => exact (M.no hh).2.2 q h1
  | true =>
    obtain ⟨t, rfl⟩ := (M.yes hh).all h1
    obtain ⟨a, f, l⟩ := (M.inE_iff t).mpr h2
    have : isEmpty has e = false := empty_false.mpr ⟨hh, a, fun g k z y => by have := f g z; have := l k y; omega⟩
    rw [h] at this
    cases this
theorem after_after (q st : Int × Int) (t u : Int) : after (after q st t) st u = after q st (t + u) := by
  unfold after
  dsimp only
  rw [Int.mul_add, Int.mul_add]
  ext <;> dsimp only <;> omega
/-- the law's own way of telling the nearest pair: st' the step -/
def lway (st : Int × Int) : Int := if st.2 ≠ st.1 then st.2 - st.1 else st.2
def isNear (p o : Int × Int) (b : Bnd) (st q : Int × Int) : Prop := good p o b q ∧ ¬ good p o b (after q st (if 0 < lway st then -1 else 1))
theorem lway_eq (h : ¬ (st.1 = 0 ∧ st.2 = 0)) : lway st = way st := by
  unfold lway way growth
  split
  · rfl
  · rw [if_pos (by omega)]
theorem near_iff {st' : Int × Int} (M : MetOk p o b has q0 st e) (hs : has = true → st' = st) : nearest has q0 st e = some q ↔ isNear p o b st' q := by
  cases h : isEmpty has e with
  | true =>
    constructor
    · intro z
      unfold nearest at z
      rw [h, if_pos rfl] at z
      cases z
    · intro z
      exact absurd z.1 (empty_no M h)
  | false =>
    obtain ⟨hh, _, _⟩ := empty_false.mp h
    have L := M.yes hh
    have e1 := hs hh
    subst e1
    obtain ⟨t, en, i1, i2⟩ := near_end M h
    unfold isNear
    rw [lway_eq L.ne]
    constructor
    · intro z
      rw [en] at z
      cases z
      refine ⟨(M.good_iff hh t).mpr i1, fun z => i2 ?_⟩
      rw [after_after] at z
      have := (M.good_iff hh _).mp z
      split at this
      · rw [if_pos (by assumption)]; exact this
      · rw [if_neg (by assumption)]; exact this
    · rintro ⟨g1, g2⟩
      obtain ⟨u, rfl⟩ := L.all g1.1
      have j1 := (M.good_iff hh u).mp g1
      have j2 : ¬ inE e (if 0 < way st' then u - 1 else u + 1) := fun z => g2 (by
        rw [after_after]
        refine (M.good_iff hh _).mpr ?_
        split
        · rw [if_pos (by assumption)] at z; exact z
        · rw [if_neg (by assumption)] at z; exact z)
      rw [en, end_unique i1 i2 j1 j2]
/-! ### gaps -/
def gapRows (rs : List (Int × Int)) : Prop := (∃ r ∈ rs, r.1 < 0 ∧ 0 ≤ r.2) ∧ ∃ r ∈ rs, r.1 + r.2 < 0 ∧ r.2 ≤ 0
def gapAt (e : Ends) : Int := if e.2.2 = true then 0 else (e.1.getD 0) - 1
theorem gap_ok (M : MetOk p o b has q0 st e) (h : isEmpty has e = true) (hh : has = true) : (e.2.2 = false → ∃ f, e.1 = some f) ∧ meets p o (after q0 st (gapAt e)) ∧ gapRows (rows b (after q0 st (gapAt e)) st) := by
  have O := ends_ok (rows b q0 st)
  rw [← M.he] at O
  have key : e.2.2 = false → ∃ f l, e.1 = some f ∧ e.2.1 = some l ∧ l < f := by
    intro hb
    obtain ⟨f, l, c⟩ := e
    dsimp only at hb
    subst hb
    subst hh
    unfold isEmpty at h
    cases f <;> cases l <;> simp at h
    exact ⟨_, _, rfl, rfl, h⟩
  refine ⟨fun hb => ?_, (M.yes hh).at _, ?_⟩
  · obtain ⟨f, l, ef, _⟩ := key hb
    exact ⟨f, ef⟩
  · rw [rows_after]
    unfold gapRows gapAt
    cases hb : e.2.2 with
    | true =>
      rw [if_pos rfl]
      obtain ⟨r, hr, r2, r1⟩ := O.ba hb
      exact ⟨⟨_, List.mem_map.mpr ⟨r, hr, rfl⟩, by dsimp only; omega, by dsimp only; omega⟩, ⟨_, List.mem_map.mpr ⟨r, hr, rfl⟩, by dsimp only; omega, by dsimp only; omega⟩⟩
    | false =>
      rw [if_neg Bool.false_ne_true]
      obtain ⟨f, l, ef, el, hlf⟩ := key hb
      rw [ef]
      obtain ⟨r, hr, r2, r1⟩ := O.fa f ef
      obtain ⟨u, hu, u2, u1⟩ := O.la l el
      refine ⟨⟨_, List.mem_map.mpr ⟨r, hr, rfl⟩, by dsimp only [Option.getD]; exact r1, by dsimp only; omega⟩, ⟨_, List.mem_map.mpr ⟨u, hu, rfl⟩, ?_, by dsimp only; omega⟩⟩
      dsimp only [Option.getD]
      have a1 : u.2 * (f - 1) + u.2 = u.2 * f := by rw [Int.mul_sub]; omega
      have a2 : u.2 * f ≤ u.2 * (l + 1) := Int.mul_le_mul_of_nonpos_left (by omega) (by omega)
      omega
end
end Mt
set_option maxHeartbeats 1000000
/-! Meetings: what is told of them depends on the set of their pairs alone -/
namespace Mt
def lt2 (a b : Int × Int) : Prop := a.2 < b.2 ∨ (a.2 = b.2 ∧ a.1 < b.1)
abbrev PS := Int × Int → Prop
def IsNear (S : PS) (q : Int × Int) : Prop := S q ∧ ∀ r, S r → q.2 - q.1 < r.2 - r.1 ∨ (q.2 - q.1 = r.2 - r.1 ∧ q.2 ≤ r.2)
def IsSoon (S : PS) (q : Int × Int) : Prop := S q ∧ ∀ r, S r → q.2 < r.2 ∨ (q.2 = r.2 ∧ r.1 ≤ q.1)
def IsLate (S : PS) (q : Int × Int) : Prop := S q ∧ ∀ r, S r → r.1 < q.1 ∨ (r.1 = q.1 ∧ q.2 ≤ r.2)
def Card (S : PS) (n : Nat) : Prop := ∃ L : List (Int × Int), L.Nodup ∧ (∀ q, q ∈ L ↔ S q) ∧ L.length = n
section
variable {S S' : PS} {q r : Int × Int}
theorem IsNear.unique (a : IsNear S q) (b : IsNear S r) : q = r := by
  have h1 := a.2 r b.1
  have h2 := b.2 q a.1
  obtain ⟨q1, q2⟩ := q
  obtain ⟨r1, r2⟩ := r
  dsimp only at h1 h2
  have e1 : q1 = r1 := by omega
  have e2 : q2 = r2 := by omega
  rw [e1, e2]
theorem IsSoon.unique (a : IsSoon S q) (b : IsSoon S r) : q = r := by
  have h1 := a.2 r b.1
  have h2 := b.2 q a.1
  obtain ⟨q1, q2⟩ := q
  obtain ⟨r1, r2⟩ := r
  dsimp only at h1 h2
  have e1 : q1 = r1 := by omega
  have e2 : q2 = r2 := by omega
  rw [e1, e2]
theorem IsLate.unique (a : IsLate S q) (b : IsLate S r) : q = r := by
  have h1 := a.2 r b.1
  have h2 := b.2 q a.1
  obtain ⟨q1, q2⟩ := q
  obtain ⟨r1, r2⟩ := r
  dsimp only at h1 h2
  have e1 : q1 = r1 := by omega
  have e2 : q2 = r2 := by omega
  rw [e1, e2]
theorem IsNear.of (h : ∀ q, S q ↔ S' q) (a : IsNear S q) : IsNear S' q := ⟨(h q).mp a.1, fun r z => a.2 r ((h r).mpr z)⟩
theorem IsSoon.of (h : ∀ q, S q ↔ S' q) (a : IsSoon S q) : IsSoon S' q := ⟨(h q).mp a.1, fun r z => a.2 r ((h r).mpr z)⟩
theorem IsLate.of (h : ∀ q, S q ↔ S' q) (a : IsLate S q) : IsLate S' q := ⟨(h q).mp a.1, fun r z => a.2 r ((h r).mpr z)⟩
theorem Card.of (h : ∀ q, S q ↔ S' q) {n : Nat} (a : Card S n) : Card S' n := by
  obtain ⟨L, h1, h2, h3⟩ := a
  exact ⟨L, h1, fun q => (h2 q).trans (h q), h3⟩
end
theorem nodup_le {α : Type} [DecidableEq α] : ∀ {l1 l2 : List α}, l1.Nodup → (∀ x ∈ l1, x ∈ l2) → l1.length ≤ l2.length
  | [], l2, _, _ => Nat.zero_le _
  | a :: l1, l2, hn, hs => by
    have h1 := List.nodup_cons.mp hn
    have ha : a ∈ l2 := hs a (List.mem_cons_self ..)
    have ih := nodup_le (l1 := l1) (l2 := l2.erase a) h1.2 fun x hx => by
      have : x ≠ a := fun z => h1.1 (z ▸ hx)
      exact (List.mem_erase_of_ne this).mpr (hs x (List.mem_cons_of_mem _ hx))
    have := List.length_erase_of_mem ha
    have : 0 < l2.length := List.length_pos_of_mem ha
    simp only [List.length_cons]
    omega
theorem Card.unique {S : PS} {n m : Nat} (a : Card S n) (b : Card S m) : n = m := by
  obtain ⟨L, h1, h2, h3⟩ := a
  obtain ⟨L', k1, k2, k3⟩ := b
  have := nodup_le h1 fun x hx => (k2 x).mpr ((h2 x).mp hx)
  have := nodup_le k1 fun x hx => (h2 x).mpr ((k2 x).mp hx)
  omega
theorem Card.union {S A B : PS} {n m : Nat} (a : Card A n) (b : Card B m) (hs : ∀ q, S q ↔ A q ∨ B q) (hd : ∀ q, A q → ¬ B q) : Card S (n + m) := by
  obtain ⟨L, h1, h2, h3⟩ := a
  obtain ⟨L', k1, k2, k3⟩ := b
  refine ⟨L ++ L', List.nodup_append.mpr ⟨h1, k1, fun x hx y hy z => ?_⟩, fun q => ?_, by rw [List.length_append]; omega⟩
  · subst z
    exact hd x ((h2 x).mp hx) ((k2 x).mp hy)
  · rw [List.mem_append, h2, k2, hs]
/-- a part of what is finite is finite -/
theorem Card.part {S A : PS} {n : Nat} (a : Card S n) (h : ∀ q, A q → S q) (hd : ∀ q, A q ∨ ¬ A q) : ∃ m, Card A m := by
  obtain ⟨L, h1, h2, h3⟩ := a
  clear h3
  classical
  exact ⟨_, L.filter (fun q => decide (A q)), h1.filter _, fun q => by rw [List.mem_filter, h2]; simp; exact fun z => h q z, rfl⟩
theorem Card.empty {S : PS} (h : ∀ q, ¬ S q) : Card S 0 := ⟨[], List.nodup_nil, fun q => by simp; exact h q, rfl⟩
theorem Card.single {S : PS} {r : Int × Int} (h : ∀ q, S q ↔ q = r) : Card S 1 := ⟨[r], by simp, fun q => by rw [h]; simp, rfl⟩

def soonest (has : Bool) (q0 st : Int × Int) (e : Ends) : Option (Int × Int) := if isEmpty has e = true then none else endBy q0 st e (if st.2 ≠ 0 then st.2 else -st.1)
def latest (has : Bool) (q0 st : Int × Int) (e : Ends) : Option (Int × Int) := if isEmpty has e = true then none else endBy q0 st e (if st.1 ≠ 0 then -st.1 else st.2)
def amount (has : Bool) (e : Ends) : Option Int := if isEmpty has e = true then some 0 else match e.1, e.2.1 with | some f, some l => some (l - f + 1) | _, _ => none
def distance (has : Bool) (q0 st : Int × Int) (e : Ends) : Option Int := (nearest has q0 st e).map fun q => q.2 - q.1
def sgn (st : Int × Int) : Int := if 0 < growth st then 1 else -1
def eachP (q st : Int × Int) (k : Nat) : Int × Int := after q st (sgn st * k)
def howMany (has : Bool) (e : Ends) (n : Nat) : Nat := match amount has e with | none => n | some m => min n m.toNat
def firsts (has : Bool) (q0 st : Int × Int) (e : Ends) (n : Nat) : List (Int × Int) :=
  if isEmpty has e = true then [] else match endBy q0 st e (sgn st) with | none => [] | some q => (List.range (howMany has e n)).map (eachP q st)

theorem mul_sign {g d : Int} (h1 : 0 < g → 0 ≤ d) (h2 : ¬ 0 < g → d ≤ 0) : 0 ≤ g * d := by
  by_cases h : 0 < g
  · exact Int.mul_nonneg (by omega) (h1 h)
  · have := Int.mul_nonneg (a := -g) (b := -d) (by omega) (by have := h2 h; omega)
    rwa [Int.neg_mul_neg] at this
theorem mul_ne {g d : Int} (h1 : g ≠ 0) (h2 : d ≠ 0) : g * d ≠ 0 := Int.mul_ne_zero h1 h2
section
variable {p o q0 st q : Int × Int} {b : Bnd} {has : Bool} {e : Ends}
theorem end_spec (h : isEmpty has e = false) {g : Int} (hq : endBy q0 st e g = some q) : ∃ t, q = after q0 st t ∧ inE e t ∧ ∀ u, inE e u → (0 < g → 0 ≤ u - t) ∧ (¬ 0 < g → u - t ≤ 0) := by
  obtain ⟨hh, hb, hfl⟩ := empty_false.mp h
  unfold endBy at hq
  by_cases hw : 0 < g
  · rw [if_pos hw] at hq
    cases ef : e.1 with
    | none => rw [ef] at hq; cases hq
    | some f =>
      rw [ef] at hq
      cases hq
      refine ⟨f, rfl, ⟨hb, fun g z => by rw [ef] at z; cases z; exact Int.le_refl _, fun l z => hfl f l ef z⟩, fun u hu => ⟨fun _ => by have := hu.2.1 f ef; omega, fun z => absurd hw z⟩⟩
  · rw [if_neg hw] at hq
    cases el : e.2.1 with
    | none => rw [el] at hq; cases hq
    | some l =>
      rw [el] at hq
      cases hq
      refine ⟨l, rfl, ⟨hb, fun g z => hfl g l z el, fun g z => by rw [el] at z; cases z; exact Int.le_refl _⟩, fun u hu => ⟨fun z => absurd z hw, fun _ => by have := hu.2.2 l el; omega⟩⟩
theorem mul_split (a t u : Int) : a * u = a * t + a * (u - t) := by rw [Int.mul_sub]; omega
/-- a pair of the set, by its place on the line -/
theorem MetOk.on (M : MetOk p o b has q0 st e) (hh : has = true) {r : Int × Int} (h : good p o b r) : ∃ u, r = after q0 st u ∧ inE e u := by
  obtain ⟨u, rfl⟩ := (M.yes hh).all h.1
  exact ⟨u, rfl, (M.good_iff hh u).mp h⟩
theorem near_spec (M : MetOk p o b has q0 st e) (h : isEmpty has e = false) : ∃ q, nearest has q0 st e = some q ∧ IsNear (good p o b) q := by
  obtain ⟨t0, e0, _, _⟩ := near_end M h
  refine ⟨_, e0, ?_⟩
  obtain ⟨hh, hb, hfl⟩ := empty_false.mp h
  have L := M.yes hh
  have w0 := way_ne L.ne
  unfold nearest at e0
  rw [h, if_neg Bool.false_ne_true] at e0
  obtain ⟨t, e1, i1, m⟩ := end_spec h e0
  rw [e1]
  refine ⟨(M.good_iff hh t).mpr i1, fun r hr => ?_⟩
  obtain ⟨u, rfl, iu⟩ := M.on hh hr
  obtain ⟨m1, m2⟩ := m u iu
  have z := mul_sign m1 m2
  have s1 := mul_split st.1 t u
  have s2 := mul_split st.2 t u
  unfold after
  dsimp only
  unfold way growth at z
  by_cases c : st.2 ≠ st.1
  · rw [if_pos c, Int.sub_mul] at z
    by_cases d : u - t = 0
    · rw [d, Int.mul_zero] at s1 s2
      omega
    · have nz := mul_ne (g := st.2 - st.1) (by omega) d
      rw [Int.sub_mul] at nz
      omega
  · rw [if_neg c] at z
    have c2 : st.2 ≠ 0 := fun x => L.ne ⟨by omega, x⟩
    have c3 : st.1 = st.2 := by omega
    rw [if_pos c2] at z
    rw [c3] at s1 ⊢
    omega
theorem growth_ne (h : ¬ (st.1 = 0 ∧ st.2 = 0)) : growth st ≠ 0 := by
  unfold growth
  split <;> omega
theorem sgn_pos : 0 < sgn st ↔ 0 < growth st := by
  unfold sgn
  split <;> omega
/-- the ends that always are -/
theorem soon_some (M : MetOk p o b has q0 st e) (h : ¬ (st.1 = 0 ∧ st.2 = 0)) : ∃ q, endBy q0 st e (if st.2 ≠ 0 then st.2 else -st.1) = some q := by
  have O := ends_ok (rows b q0 st)
  rw [← M.he] at O
  obtain ⟨v1, m1⟩ := row_mem1 b q0 st
  obtain ⟨v2, m2⟩ := row_mem2 b q0 st
  unfold endBy
  by_cases c : st.2 ≠ 0
  · rw [if_pos c]
    by_cases hw : 0 < st.2
    · rw [if_pos hw]
      have : ∃ f, e.1 = some f := by
        by_cases h1 : 0 < st.1
        · exact O.fs ⟨_, m1, h1⟩
        · exact O.fs ⟨_, m2, by dsimp only; omega⟩
      obtain ⟨f, ef⟩ := this
      rw [ef]; exact ⟨_, rfl⟩
    · rw [if_neg hw]
      have : ∃ f, e.2.1 = some f := by
        by_cases h1 : st.1 < 0
        · exact O.ls ⟨_, m1, h1⟩
        · exact O.ls ⟨_, m2, by dsimp only; omega⟩
      obtain ⟨f, ef⟩ := this
      rw [ef]; exact ⟨_, rfl⟩
  · rw [if_neg c]
    by_cases hw : 0 < -st.1
    · rw [if_pos hw]
      obtain ⟨f, ef⟩ := O.fs ⟨_, m2, by dsimp only; omega⟩
      rw [ef]; exact ⟨_, rfl⟩
    · rw [if_neg hw]
      obtain ⟨f, ef⟩ := O.ls ⟨_, m2, by dsimp only; omega⟩
      rw [ef]; exact ⟨_, rfl⟩
theorem start_some (M : MetOk p o b has q0 st e) (h : ¬ (st.1 = 0 ∧ st.2 = 0)) : ∃ q, endBy q0 st e (sgn st) = some q := by
  have O := ends_ok (rows b q0 st)
  rw [← M.he] at O
  obtain ⟨v1, m1⟩ := row_mem1 b q0 st
  obtain ⟨v2, m2⟩ := row_mem2 b q0 st
  have gn := growth_ne h
  unfold endBy
  by_cases hw : 0 < growth st
  · rw [if_pos (sgn_pos.mpr hw)]
    unfold growth at hw
    have : ∃ f, e.1 = some f := by
      by_cases h1 : 0 < st.1
      · exact O.fs ⟨_, m1, h1⟩
      · by_cases c : st.2 ≠ 0
        · rw [if_pos c] at hw
          exact O.fs ⟨_, m2, by dsimp only; omega⟩
        · rw [if_neg c] at hw
          omega
    obtain ⟨f, ef⟩ := this
    rw [ef]; exact ⟨_, rfl⟩
  · rw [if_neg (fun z => hw (sgn_pos.mp z))]
    unfold growth at hw gn
    have : ∃ f, e.2.1 = some f := by
      by_cases h1 : st.1 < 0
      · exact O.ls ⟨_, m1, h1⟩
      · by_cases c : st.2 ≠ 0
        · rw [if_pos c] at hw
          exact O.ls ⟨_, m2, by dsimp only; omega⟩
        · rw [if_neg c] at hw gn
          omega
    obtain ⟨f, ef⟩ := this
    rw [ef]; exact ⟨_, rfl⟩
theorem soon_spec (M : MetOk p o b has q0 st e) (h : isEmpty has e = false) : ∃ q, soonest has q0 st e = some q ∧ IsSoon (good p o b) q := by
  obtain ⟨hh, hb, hfl⟩ := empty_false.mp h
  have L := M.yes hh
  obtain ⟨q, eq⟩ := soon_some M L.ne
  refine ⟨q, by unfold soonest; rw [h, if_neg Bool.false_ne_true]; exact eq, ?_⟩
  obtain ⟨t, e1, i1, m⟩ := end_spec h eq
  rw [e1]
  refine ⟨(M.good_iff hh t).mpr i1, fun r hr => ?_⟩
  obtain ⟨u, rfl, iu⟩ := M.on hh hr
  obtain ⟨m1, m2⟩ := m u iu
  have z := mul_sign m1 m2
  have s1 := mul_split st.1 t u
  have s2 := mul_split st.2 t u
  unfold after
  dsimp only
  by_cases c : st.2 ≠ 0
  · rw [if_pos c] at z
    by_cases d : u - t = 0
    · rw [d, Int.mul_zero] at s1 s2
      omega
    · have nz := mul_ne c d
      omega
  · rw [if_neg c, Int.neg_mul] at z
    have c2 : st.2 = 0 := by omega
    rw [c2] at s2 ⊢
    simp only [Int.zero_mul, true_and] at s2 ⊢
    omega
theorem late_spec (M : MetOk p o b has q0 st e) (h : isEmpty has e = false) : (∀ q, latest has q0 st e = some q → IsLate (good p o b) q) ∧ (latest has q0 st e = none → ∀ q, ¬ IsLate (good p o b) q) := by
  obtain ⟨hh, hb, hfl⟩ := empty_false.mp h
  have L := M.yes hh
  have l1 : latest has q0 st e = endBy q0 st e (if st.1 ≠ 0 then -st.1 else st.2) := by unfold latest; rw [h, if_neg Bool.false_ne_true]
  rw [l1]
  refine ⟨fun q eq => ?_, fun eq q Lq => ?_⟩
  · obtain ⟨t, e1, i1, m⟩ := end_spec h eq
    rw [e1]
    refine ⟨(M.good_iff hh t).mpr i1, fun r hr => ?_⟩
    obtain ⟨u, rfl, iu⟩ := M.on hh hr
    obtain ⟨m1, m2⟩ := m u iu
    have z := mul_sign m1 m2
    have s1 := mul_split st.1 t u
    have s2 := mul_split st.2 t u
    unfold after
    dsimp only
    by_cases c : st.1 ≠ 0
    · rw [if_pos c, Int.neg_mul] at z
      by_cases d : u - t = 0
      · rw [d, Int.mul_zero] at s1 s2
        omega
      · have nz := mul_ne c d
        omega
    · rw [if_neg c] at z
      have c2 : st.1 = 0 := by omega
      rw [c2] at s1 ⊢
      simp only [Int.zero_mul, true_and] at s1 ⊢
      omega
  · obtain ⟨t, rfl, it⟩ := M.on hh Lq.1
    unfold endBy at eq
    by_cases hw : 0 < (if st.1 ≠ 0 then -st.1 else st.2)
    · rw [if_pos hw] at eq
      have e1 : e.1 = none := by cases z : e.1 with | none => rfl | some f => rw [z] at eq; cases eq
      have i2 : inE e (t - 1) := ⟨hb, fun f z => (by rw [e1] at z; cases z), fun l z => by have := it.2.2 l z; omega⟩
      have := Lq.2 _ ((M.good_iff hh _).mpr i2)
      unfold after at this
      dsimp only at this
      have s1 := mul_split st.1 t (t - 1)
      have s2 := mul_split st.2 t (t - 1)
      rw [show t - 1 - t = -1 by omega] at s1 s2
      by_cases c : st.1 ≠ 0
      · rw [if_pos c] at hw
        omega
      · rw [if_neg c] at hw
        omega
    · rw [if_neg hw] at eq
      have e1 : e.2.1 = none := by cases z : e.2.1 with | none => rfl | some f => rw [z] at eq; cases eq
      have i2 : inE e (t + 1) := ⟨hb, fun l z => by have := it.2.1 l z; omega, fun f z => by rw [e1] at z; cases z⟩
      have := Lq.2 _ ((M.good_iff hh _).mpr i2)
      unfold after at this
      dsimp only at this
      have s1 := mul_split st.1 t (t + 1)
      have s2 := mul_split st.2 t (t + 1)
      rw [show t + 1 - t = 1 by omega] at s1 s2
      have ne := L.ne
      by_cases c : st.1 ≠ 0
      · rw [if_pos c] at hw
        omega
      · rw [if_neg c] at hw
        omega
theorem after_inj (h : ¬ (st.1 = 0 ∧ st.2 = 0)) {t u : Int} (hq : after q0 st t = after q0 st u) : t = u := by
  unfold after at hq
  have h1 := congrArg Prod.fst hq
  have h2 := congrArg Prod.snd hq
  dsimp only at h1 h2
  have s1 := mul_split st.1 t u
  have s2 := mul_split st.2 t u
  by_cases d : u - t = 0
  · omega
  · by_cases c : st.1 = 0
    · have nz := mul_ne (g := st.2) (fun z => h ⟨c, z⟩) d
      omega
    · have nz := mul_ne c d
      omega
theorem nodup_map {α : Type} {f : Nat → α} (hf : ∀ i j, f i = f j → i = j) (n : Nat) : ((List.range n).map f).Nodup := by
  unfold List.Nodup
  rw [List.pairwise_map]
  exact (List.nodup_range (n := n)).imp fun h z => h (hf _ _ z)
theorem amount_spec (M : MetOk p o b has q0 st e) : (∀ n, amount has e = some n → 0 ≤ n ∧ Card (good p o b) n.toNat) ∧ (amount has e = none → ∀ n, ¬ Card (good p o b) n) := by
  cases h : isEmpty has e with
  | true =>
    have e1 : amount has e = some 0 := by unfold amount; rw [h, if_pos rfl]
    rw [e1]
    refine ⟨fun n z => ?_, fun z => by cases z⟩
    cases z
    exact ⟨Int.le_refl _, Card.empty fun q => empty_no M h⟩
  | false =>
    obtain ⟨hh, hb, hfl⟩ := empty_false.mp h
    have L := M.yes hh
    have e1 : amount has e = (match e.1, e.2.1 with | some f, some l => some (l - f + 1) | _, _ => none) := by unfold amount; rw [h, if_neg Bool.false_ne_true]
    rw [e1]
    obtain ⟨t0, _, i0, _⟩ := near_end M h
    have inf : ∀ s : Int, (∀ k : Nat, inE e (t0 + s * k)) → s ≠ 0 → ∀ n, ¬ Card (good p o b) n := fun s hs s0 n ⟨Lx, h1, h2, h3⟩ => by
      have hinj : ∀ i j : Nat, after q0 st (t0 + s * i) = after q0 st (t0 + s * j) → i = j := fun i j z => by
        have := after_inj L.ne z
        have z2 : s * (i : Int) = s * j := by omega
        have := Int.eq_of_mul_eq_mul_left s0 z2
        omega
      have := nodup_le (nodup_map hinj (n + 1)) (l2 := Lx) fun x hx => by
        obtain ⟨k, _, rfl⟩ := List.mem_map.mp hx
        exact (h2 _).mpr ((M.good_iff hh _).mpr (hs k))
      rw [List.length_map, List.length_range] at this
      omega
    cases ef : e.1 with
    | none =>
      refine ⟨fun n z => (by cases z), fun _ => inf (-1) (fun k => ⟨hb, fun f z => (by rw [ef] at z; cases z), fun l z => by have := i0.2.2 l z; omega⟩) (by decide)⟩
    | some f =>
      cases el : e.2.1 with
      | none =>
        refine ⟨fun n z => (by cases z), fun _ => inf 1 (fun k => ⟨hb, fun g z => by have := i0.2.1 g z; omega, fun l z => by rw [el] at z; cases z⟩) (by decide)⟩
      | some l =>
        refine ⟨fun n z => ?_, fun z => by cases z⟩
        cases z
        have hle := hfl f l ef el
        refine ⟨by omega, (List.range (l - f + 1).toNat).map (fun i : Nat => after q0 st (f + i)), nodup_map (fun i j z => by have := after_inj L.ne z; omega) _, fun q => ⟨fun hq => ?_, fun hq => ?_⟩, by simp⟩
        · obtain ⟨k, hk, rfl⟩ := List.mem_map.mp hq
          have hk := List.mem_range.mp hk
          exact (M.good_iff hh _).mpr ⟨hb, fun g z => by rw [ef] at z; cases z; omega, fun g z => by rw [el] at z; cases z; omega⟩
        · obtain ⟨u, rfl, iu⟩ := M.on hh hq
          have u1 := iu.2.1 f ef
          have u2 := iu.2.2 l el
          refine List.mem_map.mpr ⟨(u - f).toNat, List.mem_range.mpr (by omega), ?_⟩
          congr 1
          omega
/-- the pairs one by one -/
theorem each_spec (M : MetOk p o b has q0 st e) (h : isEmpty has e = false) : ∃ q, endBy q0 st e (sgn st) = some q ∧ (∀ k : Nat, (∀ n, amount has e = some n → (k : Int) < n) → good p o b (eachP q st k)) ∧
    (∀ r, good p o b r → ∃ k : Nat, r = eachP q st k ∧ ∀ n, amount has e = some n → (k : Int) < n) ∧ ∀ j k : Nat, j < k → lt2 (eachP q st j) (eachP q st k) := by
  obtain ⟨hh, hb, hfl⟩ := empty_false.mp h
  have L := M.yes hh
  obtain ⟨q, eq⟩ := start_some M L.ne
  refine ⟨q, eq, ?_⟩
  have e1 : amount has e = (match e.1, e.2.1 with | some f, some l => some (l - f + 1) | _, _ => none) := by unfold amount; rw [h, if_neg Bool.false_ne_true]
  have mono : ∀ j k : Nat, j < k → lt2 (eachP q st j) (eachP q st k) := fun j k hjk => by
    unfold lt2 eachP after
    dsimp only
    have gn := growth_ne L.ne
    have s1 := mul_split st.1 (sgn st * j) (sgn st * k)
    have s2 := mul_split st.2 (sgn st * j) (sgn st * k)
    have ed : sgn st * (k : Int) - sgn st * j = sgn st * ((k : Int) - j) := by rw [Int.mul_sub]
    rw [ed] at s1 s2
    have pos : 0 < growth st * (sgn st * ((k : Int) - j)) := by
      rw [← Int.mul_assoc]
      refine Int.mul_pos ?_ (by omega)
      unfold sgn
      split
      · omega
      · omega
    unfold growth at pos
    by_cases c : st.2 ≠ 0
    · rw [if_pos c] at pos
      omega
    · rw [if_neg c] at pos
      have c2 : st.2 = 0 := by omega
      rw [c2] at s2 ⊢
      simp only [Int.zero_mul, true_and] at s2 ⊢
      omega
  by_cases hw : 0 < growth st
  · have es : sgn st = 1 := by unfold sgn; rw [if_pos hw]
    unfold endBy at eq
    rw [es, if_pos (by decide)] at eq
    cases ef : e.1 with
    | none => rw [ef] at eq; cases eq
    | some f =>
      rw [ef] at eq
      cases eq
      have ek : ∀ k : Nat, eachP (after q0 st f) st k = after q0 st (f + k) := fun k => by
        unfold eachP
        rw [es, after_after, Int.one_mul]
      refine ⟨fun k hk => ?_, fun r hr => ?_, mono⟩
      · rw [ek]
        refine (M.good_iff hh _).mpr ⟨hb, fun g z => by rw [ef] at z; cases z; omega, fun l z => ?_⟩
        have := hk (l - f + 1) (by rw [e1, ef, z])
        omega
      · obtain ⟨u, rfl, iu⟩ := M.on hh hr
        have u1 := iu.2.1 f ef
        refine ⟨(u - f).toNat, by rw [ek]; congr 1; omega, fun n hn => ?_⟩
        rw [e1, ef] at hn
        cases el : e.2.1 with
        | none => rw [el] at hn; cases hn
        | some l =>
          rw [el] at hn
          cases hn
          have u2 := iu.2.2 l el
          omega
  · have es : sgn st = -1 := by unfold sgn; rw [if_neg hw]
    unfold endBy at eq
    rw [es, if_neg (by decide)] at eq
    cases el : e.2.1 with
    | none => rw [el] at eq; cases eq
    | some l =>
      rw [el] at eq
      cases eq
      have ek : ∀ k : Nat, eachP (after q0 st l) st k = after q0 st (l - k) := fun k => by
        unfold eachP
        rw [es, after_after]
        congr 1
        omega
      refine ⟨fun k hk => ?_, fun r hr => ?_, mono⟩
      · rw [ek]
        refine (M.good_iff hh _).mpr ⟨hb, fun f z => ?_, fun g z => by rw [el] at z; cases z; omega⟩
        have := hk (l - f + 1) (by rw [e1, el, z])
        omega
      · obtain ⟨u, rfl, iu⟩ := M.on hh hr
        have u1 := iu.2.2 l el
        refine ⟨(l - u).toNat, by rw [ek]; congr 1; omega, fun n hn => ?_⟩
        rw [e1, el] at hn
        cases ef : e.1 with
        | none => rw [ef] at hn; cases hn
        | some f =>
          rw [ef] at hn
          cases hn
          have u2 := iu.2.1 f ef
          omega
theorem empty_iff (M : MetOk p o b has q0 st e) : isEmpty has e = true ↔ ∀ q, ¬ good p o b q := by
  constructor
  · exact fun h q => empty_no M h
  · intro h
    cases z : isEmpty has e with
    | true => rfl
    | false =>
      obtain ⟨q, _, hq, _⟩ := near_spec M z
      exact absurd hq (h q)
end

/-! ### the same pairs: the same is told -/
section
variable {p o q0 st p' o' q0' st' : Int × Int} {b b' : Bnd} {has has' : Bool} {e e' : Ends}
theorem same_empty (M : MetOk p o b has q0 st e) (M' : MetOk p' o' b' has' q0' st' e') (h : ∀ q, good p o b q ↔ good p' o' b' q) : isEmpty has e = isEmpty has' e' := by
  cases z : isEmpty has e with
  | true => exact ((empty_iff M').mpr fun q hq => (empty_iff M).mp z q ((h q).mpr hq)).symm
  | false =>
    cases z' : isEmpty has' e' with
    | false => rfl
    | true =>
      have : isEmpty has e = true := (empty_iff M).mpr fun q hq => (empty_iff M').mp z' q ((h q).mp hq)
      rw [z] at this; cases this
theorem same_nearest (M : MetOk p o b has q0 st e) (M' : MetOk p' o' b' has' q0' st' e') (h : ∀ q, good p o b q ↔ good p' o' b' q) : nearest has q0 st e = nearest has' q0' st' e' := by
  have es := same_empty M M' h
  cases z : isEmpty has e with
  | true =>
    unfold nearest
    rw [← es, z, if_pos rfl, if_pos rfl]
  | false =>
    obtain ⟨q, e1, n1⟩ := near_spec M z
    obtain ⟨q', e2, n2⟩ := near_spec M' (es ▸ z)
    rw [e1, e2, (n1.of h).unique n2]
theorem same_soonest (M : MetOk p o b has q0 st e) (M' : MetOk p' o' b' has' q0' st' e') (h : ∀ q, good p o b q ↔ good p' o' b' q) : soonest has q0 st e = soonest has' q0' st' e' := by
  have es := same_empty M M' h
  cases z : isEmpty has e with
  | true =>
    unfold soonest
    rw [← es, z, if_pos rfl, if_pos rfl]
  | false =>
    obtain ⟨q, e1, n1⟩ := soon_spec M z
    obtain ⟨q', e2, n2⟩ := soon_spec M' (es ▸ z)
    rw [e1, e2, (n1.of h).unique n2]
theorem same_latest (M : MetOk p o b has q0 st e) (M' : MetOk p' o' b' has' q0' st' e') (h : ∀ q, good p o b q ↔ good p' o' b' q) : latest has q0 st e = latest has' q0' st' e' := by
  have es := same_empty M M' h
  cases z : isEmpty has e with
  | true =>
    unfold latest
    rw [← es, z, if_pos rfl, if_pos rfl]
  | false =>
    obtain ⟨a1, a2⟩ := late_spec M z
    obtain ⟨c1, c2⟩ := late_spec M' (es ▸ z)
    cases l1 : latest has q0 st e with
    | none =>
      cases l2 : latest has' q0' st' e' with
      | none => rfl
      | some q => exact absurd ((c1 q l2).of fun r => (h r).symm) (a2 l1 q)
    | some q =>
      cases l2 : latest has' q0' st' e' with
      | none => exact absurd ((a1 q l1).of h) (c2 l2 q)
      | some q' => rw [((a1 q l1).of h).unique (c1 q' l2)]
theorem same_amount (M : MetOk p o b has q0 st e) (M' : MetOk p' o' b' has' q0' st' e') (h : ∀ q, good p o b q ↔ good p' o' b' q) : amount has e = amount has' e' := by
  obtain ⟨a1, a2⟩ := amount_spec M
  obtain ⟨c1, c2⟩ := amount_spec M'
  cases l1 : amount has e with
  | none =>
    cases l2 : amount has' e' with
    | none => rfl
    | some n => exact absurd ((c1 n l2).2.of fun r => (h r).symm) (a2 l1 _)
  | some n =>
    cases l2 : amount has' e' with
    | none => exact absurd ((a1 n l1).2.of h) (c2 l2 _)
    | some m =>
      have := ((a1 n l1).2.of h).unique (c1 m l2).2
      have := (a1 n l1).1
      have := (c1 m l2).1
      congr 1
      omega
theorem lt2_irrefl {a : Int × Int} : ¬ lt2 a a := by unfold lt2; omega
theorem lt2_asymm {a c : Int × Int} (h : lt2 a c) : ¬ lt2 c a := by unfold lt2 at *; omega
/-- two ascending walks through one set are one -/
theorem walk_unique {S : PS} {E E' : Nat → Int × Int} {d : Nat → Prop} (hd : ∀ j k, j < k → d k → d j) (s1 : ∀ k, d k → S (E k)) (o1 : ∀ r, S r → ∃ k, r = E k ∧ d k) (m1 : ∀ j k, j < k → lt2 (E j) (E k))
    (s2 : ∀ k, d k → S (E' k)) (o2 : ∀ r, S r → ∃ k, r = E' k ∧ d k) (m2 : ∀ j k, j < k → lt2 (E' j) (E' k)) : ∀ k, d k → E k = E' k := by
  intro k
  induction k using Nat.strongRecOn with
  | ind k ih =>
    intro hk
    obtain ⟨j, e1, dj⟩ := o2 _ (s1 k hk)
    obtain ⟨i, e2, di⟩ := o1 _ (s2 k hk)
    rcases Nat.lt_trichotomy j k with h | h | h
    · have := ih j h dj
      have q := m1 j k h
      rw [this, ← e1] at q
      exact absurd q lt2_irrefl
    · rw [e1, h]
    · rcases Nat.lt_trichotomy i k with h' | h' | h'
      · have := ih i h' di
        have q := m2 i k h'
        rw [← this, ← e2] at q
        exact absurd q lt2_irrefl
      · rw [e2, h']
      · have q1 := m1 k i h'
        have q2 := m2 k j h
        rw [← e2] at q1
        rw [← e1] at q2
        exact absurd q2 (lt2_asymm q1)
theorem same_firsts (M : MetOk p o b has q0 st e) (M' : MetOk p' o' b' has' q0' st' e') (h : ∀ q, good p o b q ↔ good p' o' b' q) (n : Nat) : firsts has q0 st e n = firsts has' q0' st' e' n := by
  have es := same_empty M M' h
  have ea := same_amount M M' h
  cases z : isEmpty has e with
  | true =>
    unfold firsts
    rw [← es, z, if_pos rfl, if_pos rfl]
  | false =>
    obtain ⟨q, e1, s1, o1, m1⟩ := each_spec M z
    obtain ⟨q', e2, s2, o2, m2⟩ := each_spec M' (es ▸ z)
    unfold firsts
    rw [← es, z, if_neg Bool.false_ne_true, if_neg Bool.false_ne_true, e1, e2]
    have em : howMany has e n = howMany has' e' n := by unfold howMany; rw [ea]
    dsimp only
    rw [← em]
    refine List.map_congr_left fun k hk => ?_
    have hk := List.mem_range.mp hk
    refine walk_unique (S := good p o b) (d := fun k => ∀ n, amount has e = some n → (k : Int) < n) (fun j k hjk hd n hn => by have := hd n hn; omega) s1 o1 m1 (fun k hd => (h _).mpr (s2 k (by rw [← ea]; exact hd))) (fun r hr => ?_) m2 k (fun n' hn => ?_)
    · obtain ⟨k, e3, d3⟩ := o2 r ((h r).mp hr)
      exact ⟨k, e3, by rw [ea]; exact d3⟩
    · unfold howMany at hk
      rw [hn] at hk
      dsimp only at hk
      have := (amount_spec M).1 n' hn
      omega
theorem same_distance (M : MetOk p o b has q0 st e) (M' : MetOk p' o' b' has' q0' st' e') (h : ∀ q, good p o b q ↔ good p' o' b' q) : distance has q0 st e = distance has' q0' st' e' := by
  unfold distance
  rw [same_nearest M M' h]
end
end Mt
set_option maxHeartbeats 1000000
/-! Meetings: parts of the pairs; sizes of the first pairs -/
namespace Mt
section
variable {p o q0 st q01 st1 q02 st2 p' o' : Int × Int} {b b1 b2 : Bnd} {has h1 h2 : Bool} {e e1 e2 : Ends}
/-- the amount of what is parted -/
theorem amount_sum (M : MetOk p o b has q0 st e) (M1 : MetOk p o b1 h1 q01 st1 e1) (M2 : MetOk p o b2 h2 q02 st2 e2) (hs : ∀ q, good p o b q ↔ good p o b1 q ∨ good p o b2 q) (hd : ∀ q, good p o b1 q → ¬ good p o b2 q) :
    ((amount h1 e1 = none ∨ amount h2 e2 = none) → amount has e = none) ∧ ∀ x y, amount h1 e1 = some x → amount h2 e2 = some y → amount has e = some (x + y) := by
  obtain ⟨a1, a2⟩ := amount_spec M
  obtain ⟨c1, c2⟩ := amount_spec M1
  obtain ⟨d1, d2⟩ := amount_spec M2
  refine ⟨fun z => ?_, fun x y hx hy => ?_⟩
  · cases am : amount has e with
    | none => rfl
    | some n =>
      have C := (a1 n am).2
      rcases z with z | z
      · obtain ⟨k, hk⟩ := C.part (A := good p o b1) (fun q hq => (hs q).mpr (.inl hq)) (fun q => Classical.em _)
        exact absurd hk (c2 z k)
      · obtain ⟨k, hk⟩ := C.part (A := good p o b2) (fun q hq => (hs q).mpr (.inr hq)) (fun q => Classical.em _)
        exact absurd hk (d2 z k)
  · obtain ⟨x0, cx⟩ := c1 x hx
    obtain ⟨y0, cy⟩ := d1 y hy
    have C := Card.union cx cy hs hd
    cases am : amount has e with
    | none => exact absurd C (a2 am _)
    | some n =>
      have := (a1 n am).2.unique C
      have := (a1 n am).1
      congr 1
      omega
/-- the nearest pair is that of the near part -/
theorem nearest_part (M : MetOk p o b has q0 st e) (M1 : MetOk p o b1 h1 q01 st1 e1) (M2 : MetOk p o b2 h2 q02 st2 e2) (hs : ∀ q, good p o b q ↔ good p o b1 q ∨ good p o b2 q) (hd : ∀ q r, good p o b1 q → good p o b2 r → q.2 - q.1 < r.2 - r.1) :
    nearest has q0 st e = if isEmpty h1 e1 = true then nearest h2 q02 st2 e2 else nearest h1 q01 st1 e1 := by
  cases z : isEmpty h1 e1 with
  | true =>
    rw [if_pos rfl]
    exact same_nearest M M2 fun q => ⟨fun h => ((hs q).mp h).resolve_left (empty_no M1 z), fun h => (hs q).mpr (.inr h)⟩
  | false =>
    rw [if_neg Bool.false_ne_true]
    obtain ⟨q, e1', n1⟩ := near_spec M1 z
    have ne : isEmpty has e = false := by
      cases z' : isEmpty has e with
      | false => rfl
      | true => exact absurd ((hs q).mpr (.inl n1.1)) (empty_no M z')
    obtain ⟨q', e2', n2⟩ := near_spec M ne
    have n3 : IsNear (good p o b) q := ⟨(hs q).mpr (.inl n1.1), fun r hr => ((hs r).mp hr).elim (fun h => n1.2 r h) fun h => .inl (hd q r n1.1 h)⟩
    rw [e1', e2', n3.unique n2]
theorem near_min (M : MetOk p o b has q0 st e) {q r : Int × Int} (hq : nearest has q0 st e = some q) (hr : good p o b r) : good p o b q ∧ q.2 - q.1 ≤ r.2 - r.1 := by
  have ne : isEmpty has e = false := by
    cases z : isEmpty has e with
    | false => rfl
    | true => exact absurd hr (empty_no M z)
  obtain ⟨q', e1, n1⟩ := near_spec M ne
  rw [hq] at e1
  cases e1
  refine ⟨n1.1, ?_⟩
  have := n1.2 r hr
  omega
/-- meetings below a number of rounds have an end -/
theorem amount_bounded (M : MetOk p o b has q0 st e) {n : Int} (hn : b.rounds = some n) : ∃ a, amount has e = some a := by
  cases h : isEmpty has e with
  | true => exact ⟨0, by unfold amount; rw [h, if_pos rfl]⟩
  | false =>
    obtain ⟨hh, hb, hfl⟩ := empty_false.mp h
    have L := M.yes hh
    have O := ends_ok (rows b q0 st)
    rw [← M.he] at O
    obtain ⟨v1, m1⟩ := row_mem1 b q0 st
    obtain ⟨v2, m2⟩ := row_mem2 b q0 st
    obtain ⟨v3, m3⟩ : ∃ v, (v, -st.2) ∈ rows b q0 st := ⟨n - 1 - q0.2, by
      unfold rows spares slopes
      rw [hn]
      cases b.high <;> simp⟩
    have ne := L.ne
    have hf : ∃ f, e.1 = some f := by
      by_cases c1 : 0 < st.1
      · exact O.fs ⟨_, m1, c1⟩
      · by_cases c2 : 0 < st.2 - st.1
        · exact O.fs ⟨_, m2, c2⟩
        · exact O.fs ⟨_, m3, by dsimp only; omega⟩
    have hl : ∃ f, e.2.1 = some f := by
      by_cases c1 : st.1 < 0
      · exact O.ls ⟨_, m1, c1⟩
      · by_cases c2 : st.2 - st.1 < 0
        · exact O.ls ⟨_, m2, c2⟩
        · exact O.ls ⟨_, m3, by dsimp only; omega⟩
    obtain ⟨f, ef⟩ := hf
    obtain ⟨l, el⟩ := hl
    exact ⟨l - f + 1, by unfold amount; rw [h, if_neg Bool.false_ne_true, ef, el]⟩
/-- one pair more -/
theorem amount_more (M1 : MetOk p o b1 h1 q01 st1 e1) (M2 : MetOk p o b2 h2 q02 st2 e2) {q : Int × Int} (hq : ¬ good p o b1 q) (hs : ∀ r, good p o b2 r ↔ good p o b1 r ∨ r = q) {x : Int} (hx : amount h1 e1 = some x) : amount h2 e2 = some (x + 1) := by
  obtain ⟨x0, cx⟩ := (amount_spec M1).1 x hx
  obtain ⟨d1, d2⟩ := amount_spec M2
  have C := Card.union cx (Card.single (S := fun r => r = q) fun r => Iff.rfl) hs fun r hr z => hq (z ▸ hr)
  cases am : amount h2 e2 with
  | none => exact absurd C (d2 am _)
  | some n =>
    have := (d1 n am).2.unique C
    have := (d1 n am).1
    congr 1
    omega
end
/-! ### sizes of the first pairs -/
open Lf
section
variable {p o q0 st q : Int × Int} {b : Bnd} {has : Bool} {e : Ends}
/-- at the first pair some bound is all but reached -/
theorem start_tight (M : MetOk p o b has q0 st e) (h : isEmpty has e = false) (hq : endBy q0 st e (sgn st) = some q) : good p o b q ∧ ∃ v s, (v, s) ∈ rows b q st ∧ v.natAbs < s.natAbs := by
  obtain ⟨hh, hb, hfl⟩ := empty_false.mp h
  obtain ⟨t, rfl, it, _⟩ := end_spec h hq
  refine ⟨(M.good_iff hh t).mpr it, ?_⟩
  have O := ends_ok (rows b q0 st)
  rw [← M.he] at O
  rw [rows_after]
  have pos := (O.iff t).mp it
  have L := M.yes hh
  unfold endBy at hq
  by_cases hw : 0 < sgn st
  · rw [if_pos hw] at hq
    cases ef : e.1 with
    | none => rw [ef] at hq; cases hq
    | some f =>
      rw [ef] at hq
      have et : t = f := (after_inj L.ne (Option.some.inj hq)).symm
      subst et
      obtain ⟨r, hr, r2, r3⟩ := O.fa t ef
      refine ⟨_, _, List.mem_map.mpr ⟨r, hr, rfl⟩, ?_⟩
      have := pos r hr
      rw [Int.mul_sub] at r3
      omega
  · rw [if_neg hw] at hq
    cases ef : e.2.1 with
    | none => rw [ef] at hq; cases hq
    | some f =>
      rw [ef] at hq
      have et : t = f := (after_inj L.ne (Option.some.inj hq)).symm
      subst et
      obtain ⟨r, hr, r2, r3⟩ := O.la t ef
      refine ⟨_, _, List.mem_map.mpr ⟨r, hr, rfl⟩, ?_⟩
      have := pos r hr
      rw [Int.mul_add] at r3
      omega
theorem bd_of_lt {n : Nat} {v s : Int} (h : v.natAbs < s.natAbs) (hs : Bd n s) : Bd n v := Nat.lt_trans h hs
theorem bd_fac {n : Nat} {x y : Int} (h : x ≠ 0) (hb : Bd n (x * y)) : Bd n y := by
  unfold Bd at *
  rw [Int.natAbs_mul] at hb
  have : 0 < x.natAbs := Int.natAbs_pos.mpr h
  have : y.natAbs ≤ x.natAbs * y.natAbs := Nat.le_mul_of_pos_left _ this
  omega
theorem start_bd (M : MetOk p o b has q0 st e) (h : isEmpty has e = false) (hq : endBy q0 st e (sgn st) = some q) (hp1 : Bd 64 p.1) (hp2 : Bd 140 p.2) (ho1 : Bd 64 o.1) (ho2 : Bd 140 o.2) (hs1 : Bd 64 st.1) (hs2 : Bd 64 st.2)
    (hl : Bd 64 b.low) (hh : ∀ x, b.high = some x → Bd 64 x) (hf : Bd 64 b.first) (hr : ∀ x, b.rounds = some x → Bd 64 x) : Bd 145 q.1 ∧ Bd 145 q.2 := by
  obtain ⟨⟨hm, _⟩, v, s, hv, hlt⟩ := start_tight M h hq
  obtain ⟨hh', _, _⟩ := empty_false.mp h
  obtain ⟨_, ⟨g, g0, e1, e2⟩, _⟩ := M.yes hh'
  unfold meets at hm
  have one : ∀ {z : Int}, z = 1 → Bd 64 z := fun h => by rw [h]; exact Bd.lit (by decide)
  have dist : ∀ {d : Int}, d = q.2 - q.1 → Bd 67 d → p.1 ≠ o.1 → Bd 145 q.1 ∧ Bd 145 q.2 := fun {d} hd bd ne => by
    have e3 : (p.1 - o.1) * q.1 = o.1 * d + (o.2 - p.2) := by
      rw [Int.sub_mul, hd, Int.mul_sub]
      omega
    have b1 : Bd 142 (o.1 * d + (o.2 - p.2)) := ((ho1.mul bd (by decide : 64 + 67 ≤ 131)).mono (by decide)).add (ho2.sub hp2 (by decide : 140 + 1 ≤ 141)) (by decide)
    have b2 : Bd 142 q.1 := bd_fac (x := p.1 - o.1) (by omega) (by rw [e3]; exact b1)
    refine ⟨b2.mono (by decide), ?_⟩
    have e4 : q.2 = q.1 + d := by omega
    rw [e4]
    exact (b2.add (bd.mono (by decide)) (by decide : 142 + 1 ≤ 143)).mono (by decide)
  unfold rows spares slopes at hv
  have c1 : (v, s) = (q.1 - b.first, st.1) → Bd 145 q.1 ∧ Bd 145 q.2 := fun z => by
    cases z
    have b1 : Bd 64 (q.1 - b.first) := bd_of_lt hlt hs1
    have b2 : Bd 65 q.1 := by
      have := b1.add hf (by decide : 64 + 1 ≤ 65)
      rwa [show q.1 - b.first + b.first = q.1 by omega] at this
    have n1 : o.1 ≠ 0 := fun z => by
      have : st.1 ≠ 0 := fun y => by rw [y] at hlt; simp at hlt
      rw [e2] at z
      rcases Int.mul_eq_zero.mp z with y | y
      · exact this y
      · omega
    refine ⟨b2.mono (by decide), ?_⟩
    have e3 : o.1 * q.2 = p.1 * q.1 + (p.2 - o.2) := by omega
    have b3 : Bd 142 (p.1 * q.1 + (p.2 - o.2)) := ((hp1.mul b2 (by decide : 64 + 65 ≤ 129)).mono (by decide)).add (hp2.sub ho2 (by decide : 140 + 1 ≤ 141)) (by decide)
    exact (bd_fac n1 (by rw [e3]; exact b3)).mono (by decide)
  have ne : st.2 ≠ st.1 → p.1 ≠ o.1 := fun z y => by
    rw [e1, e2] at y
    exact z (Int.eq_of_mul_eq_mul_right (by omega) y)
  have c2 : (v, s) = (q.2 - q.1 - b.low, st.2 - st.1) → Bd 145 q.1 ∧ Bd 145 q.2 := fun z => by
    cases z
    have b1 : Bd 65 (q.2 - q.1 - b.low) := bd_of_lt hlt (hs2.sub hs1 (by decide))
    refine dist rfl ?_ (ne fun y => by rw [y] at hlt; simp at hlt)
    have := (b1.add (hl.mono (by decide)) (by decide : 65 + 1 ≤ 66))
    rw [show q.2 - q.1 - b.low + b.low = q.2 - q.1 by omega] at this
    exact this.mono (by decide)
  have c3 : ∀ x, b.high = some x → (v, s) = (x - (q.2 - q.1), st.1 - st.2) → Bd 145 q.1 ∧ Bd 145 q.2 := fun x hx z => by
    cases z
    have b1 : Bd 65 (x - (q.2 - q.1)) := bd_of_lt hlt (hs1.sub hs2 (by decide))
    refine dist rfl ?_ (ne fun y => by rw [y] at hlt; simp at hlt)
    have := ((hh x hx).mono (by decide : 64 ≤ 65)).sub b1 (by decide : 65 + 1 ≤ 66)
    rw [show x - (x - (q.2 - q.1)) = q.2 - q.1 by omega] at this
    exact this.mono (by decide)
  have c4 : ∀ x, b.rounds = some x → (v, s) = (x - 1 - q.2, -st.2) → Bd 145 q.1 ∧ Bd 145 q.2 := fun x hx z => by
    cases z
    have b1 : Bd 64 (x - 1 - q.2) := bd_of_lt hlt hs2.neg
    have b2 : Bd 66 q.2 := by
      have a := (hr x hx).sub (one (z := 1) rfl) (by decide : 64 + 1 ≤ 65)
      have := a.sub (b1.mono (by decide : 64 ≤ 65)) (by decide : 65 + 1 ≤ 66)
      rwa [show x - 1 - (x - 1 - q.2) = q.2 by omega] at this
    have n1 : p.1 ≠ 0 := fun z => by
      have : st.2 ≠ 0 := fun y => by rw [y] at hlt; simp at hlt
      rw [e1] at z
      rcases Int.mul_eq_zero.mp z with y | y
      · exact this y
      · omega
    refine ⟨?_, b2.mono (by decide)⟩
    have e3 : p.1 * q.1 = o.1 * q.2 + (o.2 - p.2) := by omega
    have b3 : Bd 142 (o.1 * q.2 + (o.2 - p.2)) := ((ho1.mul b2 (by decide : 64 + 66 ≤ 130)).mono (by decide)).add (ho2.sub hp2 (by decide : 140 + 1 ≤ 141)) (by decide)
    exact (bd_fac n1 (by rw [e3]; exact b3)).mono (by decide)
  cases hhi : b.high with
  | none =>
    cases hro : b.rounds with
    | none =>
      rw [hhi, hro] at hv
      simp only [List.append_nil, List.nil_append, List.zip_cons_cons, List.zip_nil_right, List.cons_append, List.mem_cons, List.not_mem_nil, or_false] at hv
      rcases hv with z | z
      · exact c1 z
      · exact c2 z
    | some x =>
      rw [hhi, hro] at hv
      simp only [List.append_nil, List.nil_append, List.zip_cons_cons, List.zip_nil_right, List.cons_append, List.mem_cons, List.not_mem_nil, or_false] at hv
      rcases hv with z | z | z
      · exact c1 z
      · exact c2 z
      · exact c4 x hro z
  | some y =>
    cases hro : b.rounds with
    | none =>
      rw [hhi, hro] at hv
      simp only [List.append_nil, List.nil_append, List.zip_cons_cons, List.zip_nil_right, List.cons_append, List.mem_cons, List.not_mem_nil, or_false] at hv
      rcases hv with z | z | z
      · exact c1 z
      · exact c2 z
      · exact c3 y hhi z
    | some x =>
      rw [hhi, hro] at hv
      simp only [List.append_nil, List.nil_append, List.zip_cons_cons, List.zip_nil_right, List.cons_append, List.mem_cons, List.not_mem_nil, or_false] at hv
      rcases hv with z | z | z | z
      · exact c1 z
      · exact c2 z
      · exact c3 y hhi z
      · exact c4 x hro z
theorem firsts_bd (M : MetOk p o b has q0 st e) {n : Nat} (hn : n ≤ 1000) {r : Int × Int} (hr' : r ∈ firsts has q0 st e n) (hp1 : Bd 64 p.1) (hp2 : Bd 140 p.2) (ho1 : Bd 64 o.1) (ho2 : Bd 140 o.2) (hs1 : Bd 64 st.1) (hs2 : Bd 64 st.2)
    (hl : Bd 64 b.low) (hh : ∀ x, b.high = some x → Bd 64 x) (hf : Bd 64 b.first) (hr : ∀ x, b.rounds = some x → Bd 64 x) : good p o b r ∧ Bd 150 r.1 ∧ Bd 150 r.2 := by
  cases h : isEmpty has e with
  | true => unfold firsts at hr'; rw [h, if_pos rfl] at hr'; simp at hr'
  | false =>
    obtain ⟨q, e1, s1, _, _⟩ := each_spec M h
    unfold firsts at hr'
    rw [h, if_neg Bool.false_ne_true, e1] at hr'
    obtain ⟨k, hk, rfl⟩ := List.mem_map.mp hr'
    have hk := List.mem_range.mp hk
    have hkn : k < n ∧ ∀ a, amount has e = some a → (k : Int) < a := by
      unfold howMany at hk
      cases am : amount has e with
      | none => rw [am] at hk; exact ⟨hk, fun a z => by cases z⟩
      | some a =>
        rw [am] at hk
        dsimp only at hk
        have := ((amount_spec M).1 a am).1
        exact ⟨by omega, fun a' z => by cases z; omega⟩
    obtain ⟨b1, b2⟩ := start_bd M h e1 hp1 hp2 ho1 ho2 hs1 hs2 hl hh hf hr
    refine ⟨s1 k hkn.2, ?_⟩
    have bk : Bd 11 (sgn st * (k : Int)) := by
      unfold Bd sgn
      split <;> omega
    unfold eachP after
    exact ⟨(b1.add ((hs1.mul bk (by decide : 64 + 11 ≤ 75)).mono (by decide)) (by decide : 145 + 1 ≤ 146)).mono (by decide), (b2.add ((hs2.mul bk (by decide : 64 + 11 ≤ 75)).mono (by decide)) (by decide : 145 + 1 ≤ 146)).mono (by decide)⟩
end
end Mt
set_option maxHeartbeats 4000000
/-! The pair beside the soonest and the latest one; what is counted -/
namespace Mt
open Lf
section
variable {p o q0 st q : Int × Int} {b : Bnd} {has : Bool} {e : Ends}
def sway (st : Int × Int) : Int := if st.2 ≠ 0 then st.2 else -st.1
def tway (st : Int × Int) : Int := if st.1 ≠ 0 then -st.1 else st.2
theorem soon_beside (ne : ¬ (st.1 = 0 ∧ st.2 = 0)) (h : IsSoon (good p o b) q) : good p o b q ∧ ¬ good p o b (after q st (if 0 < sway st then -1 else 1)) := by
  refine ⟨h.1, fun g => ?_⟩
  have w := h.2 _ g
  unfold after sway at w
  dsimp only at w
  by_cases c : st.2 = 0
  · rw [show (if st.2 ≠ 0 then st.2 else -st.1) = -st.1 from if_neg (fun z => z c)] at w
    by_cases d : 0 < -st.1
    · rw [if_pos d] at w
      omega
    · rw [if_neg d] at w
      omega
  · rw [show (if st.2 ≠ 0 then st.2 else -st.1) = st.2 from if_pos c] at w
    by_cases d : 0 < st.2
    · rw [if_pos d] at w
      omega
    · rw [if_neg d] at w
      omega
theorem late_beside (ne : ¬ (st.1 = 0 ∧ st.2 = 0)) (h : IsLate (good p o b) q) : good p o b q ∧ ¬ good p o b (after q st (if 0 < tway st then -1 else 1)) := by
  refine ⟨h.1, fun g => ?_⟩
  have w := h.2 _ g
  unfold after tway at w
  dsimp only at w
  by_cases c : st.1 = 0
  · rw [show (if st.1 ≠ 0 then -st.1 else st.2) = st.2 from if_neg (fun z => z c)] at w
    by_cases d : 0 < st.2
    · rw [if_pos d] at w
      omega
    · rw [if_neg d] at w
      omega
  · rw [show (if st.1 ≠ 0 then -st.1 else st.2) = -st.1 from if_pos c] at w
    by_cases d : 0 < -st.1
    · rw [if_pos d] at w
      omega
    · rw [if_neg d] at w
      omega
theorem sgn_cases (st : Int × Int) : sgn st = 1 ∨ sgn st = -1 := by
  unfold sgn
  split
  · exact .inl rfl
  · exact .inr rfl
/-- along the walk from the first pair -/
theorem count_facts (M : MetOk p o b has q0 st e) (h : isEmpty has e = false) (hq : endBy q0 st e (sgn st) = some q) :
    ¬ good p o b (after q st (-sgn st)) ∧ ∀ k : Nat, good p o b (after q st (sgn st * k)) ↔ ∀ n, amount has e = some n → (k : Int) < n := by
  obtain ⟨hh, _, _⟩ := empty_false.mp h
  have ne := (M.yes hh).ne
  obtain ⟨q', e', s1, s2, s3⟩ := each_spec M h
  rw [hq] at e'
  cases e'
  refine ⟨fun g => ?_, fun k => ⟨fun g => ?_, fun g => s1 k g⟩⟩
  · obtain ⟨k, ek, _⟩ := s2 _ g
    unfold eachP at ek
    have := after_inj ne ek
    rcases sgn_cases st with z | z
    · rw [z] at this
      omega
    · rw [z] at this
      omega
  · obtain ⟨j, ej, hj⟩ := s2 _ g
    unfold eachP at ej
    have := after_inj ne ej
    have : k = j := by
      rcases sgn_cases st with z | z
      · rw [z] at this
        omega
      · rw [z] at this
        omega
    subst this
    exact hj
theorem amount_pos (h : isEmpty has e = false) {n : Int} (am : amount has e = some n) : 1 ≤ n := by
  obtain ⟨_, _, hfl⟩ := empty_false.mp h
  unfold amount at am
  rw [h, if_neg Bool.false_ne_true] at am
  cases ef : e.1 with
  | none => rw [ef] at am; cases am
  | some f =>
    cases el : e.2.1 with
    | none => rw [ef, el] at am; cases am
    | some l =>
      rw [ef, el] at am
      cases am
      have := hfl f l ef el
      omega
theorem lin_bound {v u m : Int} (m0 : 0 ≤ m) (h1 : 0 ≤ v + u * m) (h2 : v + u * (m + 1) < 0) : m ≤ v := by
  rw [Int.mul_add, Int.mul_one] at h2
  have hu : u ≤ -1 := by omega
  have : u * m ≤ -1 * m := Int.mul_le_mul_of_nonneg_right hu m0
  omega
theorem amount_le (M : MetOk p o b has q0 st e) (h : isEmpty has e = false) (hq : endBy q0 st e (sgn st) = some q) {n : Int} (am : amount has e = some n) (b1 : Bd 145 q.1) (b2 : Bd 145 q.2)
    (hl : Bd 64 b.low) (hi : ∀ x, b.high = some x → Bd 64 x) (hf : Bd 64 b.first) (hr : ∀ x, b.rounds = some x → Bd 64 x) : n ≤ 2 ^ 160 := by
  have n1 := amount_pos h am
  obtain ⟨_, cf⟩ := count_facts M h hq
  obtain ⟨hh, _, _⟩ := empty_false.mp h
  obtain ⟨m, rfl⟩ : ∃ m : Nat, n = (m : Int) + 1 := ⟨(n - 1).toNat, by omega⟩
  have g1 := (cf m).mpr fun n' z => by rw [am] at z; cases z; omega
  have g2 : ¬ good p o b (after q st (sgn st * (m + 1 : Nat))) := fun g => by
    have := (cf (m + 1)).mp g _ am
    omega
  have g0 := (cf 0).mpr fun n' z => by rw [am] at z; cases z; omega
  have mt : meets p o (after q st (sgn st * (m + 1 : Nat))) := by
    obtain ⟨t, rfl, _⟩ := end_spec h hq
    rw [after_after]
    exact (M.yes hh).at _
  have k1 := (keeps_iff b _).mp g1.2
  have k2 : ¬ keeps b (after q st (sgn st * (m + 1 : Nat))) := fun z => g2 ⟨mt, z⟩
  rw [keeps_iff] at k2
  unfold after at k1 k2
  dsimp only at k1 k2
  have e1 : ∀ s : Int, s * (sgn st * (m : Int)) = (s * sgn st) * (m : Int) := fun s => (Int.mul_assoc ..).symm
  have e2 : ∀ s : Int, s * (sgn st * ((m + 1 : Nat) : Int)) = (s * sgn st) * ((m : Int) + 1) := fun s => by
    rw [← Int.mul_assoc]
    rfl
  rw [e1, e1] at k1
  rw [e2, e2] at k2
  obtain ⟨c1, c2, c3, c4⟩ := k1
  have m0 : (0 : Int) ≤ m := Int.natCast_nonneg _
  have fin : ∀ {v : Int}, (m : Int) ≤ v → Bd 150 v → (m : Int) + 1 ≤ 2 ^ 160 := fun {v} h1 h2 => by
    unfold Bd at h2
    have h3 : v.natAbs < 2 ^ 150 := h2
    omega
  have d1 : (st.2 - st.1) * sgn st = st.2 * sgn st - st.1 * sgn st := Int.sub_mul ..
  have bq : Bd 146 (q.2 - q.1) := b2.sub b1 (by decide)
  by_cases a1 : b.first ≤ q.1 + st.1 * sgn st * ((m : Int) + 1)
  · by_cases a2 : b.low ≤ q.2 + st.2 * sgn st * ((m : Int) + 1) - (q.1 + st.1 * sgn st * ((m : Int) + 1))
    · by_cases a3 : ∀ h', b.high = some h' → q.2 + st.2 * sgn st * ((m : Int) + 1) - (q.1 + st.1 * sgn st * ((m : Int) + 1)) ≤ h'
      · by_cases a4 : ∀ n', b.rounds = some n' → q.2 + st.2 * sgn st * ((m : Int) + 1) < n'
        · exact absurd ⟨a1, a2, a3, a4⟩ k2
        · obtain ⟨n', a5⟩ := Classical.not_forall.mp a4
          obtain ⟨a6, a7⟩ := Classical.not_imp.mp a5
          have := c4 n' a6
          refine fin (v := n' - 1 - q.2) (lin_bound (u := -(st.2 * sgn st)) m0 ?_ ?_) ((((hr n' a6).sub ((Bd.lit (n := 1) (by decide)).mono (by decide)) (by decide : 64 + 1 ≤ 65)).mono (by decide)).sub b2 (by decide : 145 + 1 ≤ 150))
          · rw [Int.neg_mul]; omega
          · rw [Int.neg_mul]; omega
      · obtain ⟨h', a5⟩ := Classical.not_forall.mp a3
        obtain ⟨a6, a7⟩ := Classical.not_imp.mp a5
        have := c3 h' a6
        refine fin (v := h' - (q.2 - q.1)) (lin_bound (u := -((st.2 - st.1) * sgn st)) m0 ?_ ?_) (((hi h' a6).mono (by decide)).sub bq (by decide : 146 + 1 ≤ 150))
        · rw [Int.neg_mul, d1, Int.sub_mul]; omega
        · rw [Int.neg_mul, d1, Int.sub_mul]; omega
    · refine fin (v := q.2 - q.1 - b.low) (lin_bound (u := (st.2 - st.1) * sgn st) m0 ?_ ?_) (bq.sub (hl.mono (by decide)) (by decide : 146 + 1 ≤ 150))
      · rw [d1, Int.sub_mul]; omega
      · rw [d1, Int.sub_mul]; omega
  · refine fin (v := q.1 - b.first) (lin_bound (u := st.1 * sgn st) m0 ?_ ?_) (b1.sub (hf.mono (by decide)) (by decide : 145 + 1 ≤ 150))
    · omega
    · omega
theorem late_none (h : isEmpty has e = false) (hl : latest has q0 st e = none) : amount has e = none := by
  unfold latest at hl
  rw [h, if_neg Bool.false_ne_true] at hl
  unfold endBy at hl
  unfold amount
  rw [h, if_neg Bool.false_ne_true]
  cases ef : e.1 with
  | none => rfl
  | some f =>
    cases el : e.2.1 with
    | none => rfl
    | some l =>
      rw [ef, el] at hl
      exfalso
      generalize (if st.1 ≠ 0 then -st.1 else st.2) = g at hl
      by_cases c : 0 < g
      · rw [if_pos c] at hl
        cases hl
      · rw [if_neg c] at hl
        cases hl
theorem late_endless (M : MetOk p o b has q0 st e) (h : isEmpty has e = false) (am : amount has e = none) : latest has q0 st e = none ↔ st.1 ≠ 0 := by
  obtain ⟨hh, _, _⟩ := empty_false.mp h
  have ne := (M.yes hh).ne
  obtain ⟨q, hq, s1, s2, _⟩ := each_spec M h
  obtain ⟨l1, l2⟩ := late_spec M h
  have all : ∀ k : Nat, good p o b (eachP q st k) := fun k => s1 k fun n z => by rw [am] at z; cases z
  have fl : ∀ k : Nat, b.first ≤ q.1 + (st.1 * sgn st) * k := fun k => by
    have := ((keeps_iff b _).mp (all k).2).1
    unfold eachP after at this
    dsimp only at this
    rw [← Int.mul_assoc] at this
    exact this
  constructor
  · intro hn z
    refine l2 hn q ⟨?_, fun r hr => ?_⟩
    · have := all 0
      unfold eachP after at this
      simpa using this
    · obtain ⟨k, rfl, _⟩ := s2 r hr
      refine .inr ?_
      unfold eachP after
      dsimp only
      rw [z]
      refine ⟨by omega, ?_⟩
      have gn : growth st = st.2 := by
        unfold growth
        rw [if_pos (fun y => ne ⟨z, y⟩)]
      have : 0 ≤ st.2 * (sgn st * (k : Int)) := by
        rw [← Int.mul_assoc]
        refine Int.mul_nonneg ?_ (by omega)
        unfold sgn
        rw [gn]
        split <;> omega
      omega
  · intro z
    cases hl : latest has q0 st e with
    | none => rfl
    | some r =>
      exfalso
      have il := l1 r hl
      have u1 : 1 ≤ st.1 * sgn st := by
        have u0 : st.1 * sgn st ≠ 0 := Int.mul_ne_zero z (by rcases sgn_cases st with y | y <;> omega)
        by_cases c : 0 < st.1 * sgn st
        · omega
        · exfalso
          have c' : st.1 * sgn st ≤ -1 := by omega
          have f0 := fl (q.1 - b.first + 1).toNat
          have f1 := fl 0
          have : st.1 * sgn st * ((q.1 - b.first + 1).toNat : Int) ≤ -1 * ((q.1 - b.first + 1).toNat : Int) := Int.mul_le_mul_of_nonneg_right c' (Int.natCast_nonneg _)
          omega
      have w := il.2 _ (all ((r.1 - q.1).natAbs + 1))
      unfold eachP after at w
      dsimp only at w
      rw [← Int.mul_assoc] at w
      have : 1 * (((r.1 - q.1).natAbs + 1 : Nat) : Int) ≤ st.1 * sgn st * (((r.1 - q.1).natAbs + 1 : Nat) : Int) := Int.mul_le_mul_of_nonneg_right u1 (Int.natCast_nonneg _)
      omega
end
end Mt
set_option maxHeartbeats 4000000
/-! All meetings of small places, by force -/
namespace Mt
open Lf
/-! ### lists that ascend -/
theorem lt2_trans {a b c : Int × Int} (h1 : lt2 a b) (h2 : lt2 b c) : lt2 a c := by unfold lt2 at *; omega
theorem sorted_eq : ∀ {l1 l2 : List (Int × Int)}, l1.Pairwise lt2 → l2.Pairwise lt2 → (∀ x, x ∈ l1 ↔ x ∈ l2) → l1 = l2
  | [], [], _, _, _ => rfl
  | [], y :: l2, _, _, h => by have := (h y).mpr (List.mem_cons_self ..); simp at this
  | x :: l1, [], _, _, h => by have := (h x).mp (List.mem_cons_self ..); simp at this
  | x :: l1, y :: l2, s1, s2, h => by
    obtain ⟨a1, b1⟩ := List.pairwise_cons.mp s1
    obtain ⟨a2, b2⟩ := List.pairwise_cons.mp s2
    have e : x = y := by
      rcases List.mem_cons.mp ((h x).mp (List.mem_cons_self ..)) with z | z
      · exact z
      · rcases List.mem_cons.mp ((h y).mpr (List.mem_cons_self ..)) with w | w
        · exact w.symm
        · exact absurd (a1 y w) (lt2_asymm (a2 x z))
    subst e
    have ih := sorted_eq b1 b2 fun z => by
      constructor
      · intro hz
        rcases List.mem_cons.mp ((h z).mp (List.mem_cons_of_mem _ hz)) with w | w
        · subst w
          exact absurd (a1 _ hz) lt2_irrefl
        · exact w
      · intro hz
        rcases List.mem_cons.mp ((h z).mpr (List.mem_cons_of_mem _ hz)) with w | w
        · subst w
          exact absurd (a2 _ hz) lt2_irrefl
        · exact w
    rw [ih]
/-! ### by force -/
def earl (p o : Int × Int) (fi later : Int) : List Int :=
  if p.1 = 0 then (if o.1 * later + o.2 = p.2 then (List.range (later + 1 - fi).toNat).map fun (i : Nat) => fi + (i : Int) else [])
  else if (o.1 * later + o.2 - p.2).fmod p.1 = 0 then [(o.1 * later + o.2 - p.2).fdiv p.1] else []
def rowF (g : Int × Int → Bool) (p o : Int × Int) (fi later : Int) : List (Int × Int) := ((earl p o fi later).filter fun a => g (a, later)).map fun a => (a, later)
def forced (g : Int × Int → Bool) (p o : Int × Int) (fi : Int) : Nat → List (Int × Int)
  | 0 => []
  | n + 1 => forced g p o fi n ++ rowF g p o fi n
section
variable {p o : Int × Int} {b : Bnd} {g : Int × Int → Bool}
theorem mem_earl {a l : Int} (hl : 0 ≤ b.low) (h : good p o b (a, l)) : a ∈ earl p o b.first l := by
  obtain ⟨hm, hk⟩ := h
  obtain ⟨k1, k2, _, _⟩ := (keeps_iff b _).mp hk
  unfold meets at hm
  dsimp only at hm k1 k2
  unfold earl
  by_cases c : p.1 = 0
  · rw [if_pos c]
    rw [c, Int.zero_mul, Int.zero_add] at hm
    rw [if_pos hm.symm]
    exact List.mem_map.mpr ⟨(a - b.first).toNat, List.mem_range.mpr (by omega), by omega⟩
  · rw [if_neg c]
    have e : o.1 * l + o.2 - p.2 = p.1 * a := by omega
    rw [e, if_pos (Int.mul_fmod_right ..), Int.mul_fdiv_cancel_left _ c]
    simp
theorem mem_row (hg : ∀ q, g q = true ↔ good p o b q) (hl : 0 ≤ b.low) {later : Int} {q : Int × Int} : q ∈ rowF g p o b.first later ↔ good p o b q ∧ q.2 = later := by
  unfold rowF
  rw [List.mem_map]
  constructor
  · rintro ⟨a, ha, rfl⟩
    exact ⟨(hg _).mp (List.mem_filter.mp ha).2, rfl⟩
  · rintro ⟨h1, rfl⟩
    exact ⟨q.1, List.mem_filter.mpr ⟨mem_earl hl h1, (hg _).mpr h1⟩, rfl⟩
theorem mem_forced (hg : ∀ q, g q = true ↔ good p o b q) (hl : 0 ≤ b.low) (hf : 0 ≤ b.first) : ∀ (n : Nat) {q : Int × Int}, q ∈ forced g p o b.first n ↔ good p o b q ∧ q.2 < n
  | 0, q => by
    unfold forced
    constructor
    · intro h; cases h
    · rintro ⟨h1, h2⟩
      obtain ⟨k1, k2, _, _⟩ := (keeps_iff b _).mp h1.2
      omega
  | n + 1, q => by
    unfold forced
    rw [List.mem_append, mem_forced hg hl hf n, mem_row hg hl]
    constructor
    · rintro (⟨h1, h2⟩ | ⟨h1, h2⟩)
      · exact ⟨h1, by omega⟩
      · exact ⟨h1, by omega⟩
    · rintro ⟨h1, h2⟩
      by_cases c : q.2 < n
      · exact .inl ⟨h1, c⟩
      · exact .inr ⟨h1, by omega⟩
theorem earl_sorted (p o : Int × Int) (fi l : Int) : (earl p o fi l).Pairwise (· < ·) := by
  unfold earl
  split
  · split
    · rw [List.pairwise_map]
      exact List.pairwise_lt_range.imp fun h => by omega
    · exact .nil
  · split
    · exact List.pairwise_singleton ..
    · exact .nil
theorem row_sorted (fi l : Int) : (rowF g p o fi l).Pairwise lt2 := by
  unfold rowF
  rw [List.pairwise_map]
  refine ((earl_sorted p o fi l).filter _).imp fun h => ?_
  exact .inr ⟨rfl, h⟩
theorem forced_sorted (hg : ∀ q, g q = true ↔ good p o b q) (hl : 0 ≤ b.low) (hf : 0 ≤ b.first) : ∀ n : Nat, (forced g p o b.first n).Pairwise lt2
  | 0 => by unfold forced; exact .nil
  | n + 1 => by
    unfold forced
    refine List.pairwise_append.mpr ⟨forced_sorted hg hl hf n, row_sorted _ _, fun x hx y hy => ?_⟩
    have h1 := ((mem_forced hg hl hf n).mp hx).2
    have h2 := ((mem_row hg hl).mp hy).2
    exact .inl (by omega)
end
/-! ### sizes -/
structure Small (p o : Int × Int) (b : Bnd) : Prop where
  p1 : p.1.natAbs ≤ 5
  o1 : o.1.natAbs ≤ 5
  p2 : p.2.natAbs ≤ 12
  o2 : o.2.natAbs ≤ 12
  lo : 0 ≤ b.low ∧ b.low ≤ 6
  fi : 0 ≤ b.first ∧ b.first ≤ 6
  hi : ∀ h, b.high = some h → h ≤ 10
  ro : ∀ n, b.rounds = some n → n ≤ 20
theorem mul_small {a x : Int} {m n : Nat} (ha : a.natAbs ≤ m) (hx : x.natAbs ≤ n) : (a * x).natAbs ≤ m * n := by
  rw [Int.natAbs_mul]
  exact Nat.mul_le_mul ha hx
theorem le_mul_abs {a x : Int} (ha : a ≠ 0) : x.natAbs ≤ (a * x).natAbs := by
  rw [Int.natAbs_mul]
  exact Nat.le_mul_of_pos_left _ (Int.natAbs_pos.mpr ha)
section
variable {p o q0 st q : Int × Int} {b : Bnd} {has : Bool} {e : Ends}
/-- a pair of the meetings beside which there is none is not far -/
theorem tight_near (S : Small p o b) (L : Line p o q0 st) (hq : good p o b q) {s : Int} (hs : s = 1 ∨ s = -1) (hn : ¬ good p o b (after q st s)) (on : ∃ t, q = after q0 st t) : q.2 < 100 := by
  obtain ⟨t, rfl⟩ := on
  have mt : meets p o (after (after q0 st t) st s) := by
    rw [after_after]
    exact L.at _
  have nk : ¬ keeps b (after (after q0 st t) st s) := fun z => hn ⟨mt, z⟩
  obtain ⟨hm, hk⟩ := hq
  generalize after q0 st t = q at *
  obtain ⟨k1, k2, k3, k4⟩ := (keeps_iff b q).mp hk
  rw [keeps_iff] at nk
  unfold meets at hm
  obtain ⟨g, g0, e1, e2⟩ := L.st1
  have c1 := S.p1
  have c2 := S.o1
  have c3 := S.p2
  have c4 := S.o2
  obtain ⟨l0, l1⟩ := S.lo
  obtain ⟨f0, f1⟩ := S.fi
  -- the steps are no greater than the places' own
  have a1 : st.1.natAbs ≤ o.1.natAbs := by
    rw [e2, Int.natAbs_mul]
    exact Nat.le_mul_of_pos_right _ (Int.natAbs_pos.mpr (by omega))
  have d1 : (st.2 - st.1).natAbs ≤ (p.1 - o.1).natAbs := by
    rw [e1, e2, ← Int.sub_mul, Int.natAbs_mul]
    exact Nat.le_mul_of_pos_right _ (Int.natAbs_pos.mpr (by omega))
  have z1 : st.1 = 0 ↔ o.1 = 0 := by
    rw [e2]
    constructor
    · intro z; rw [z, Int.zero_mul]
    · intro z; exact (Int.mul_eq_zero.mp z).resolve_right (by omega)
  have zd : st.2 - st.1 = 0 ↔ p.1 - o.1 = 0 := by
    rw [e1, e2, ← Int.sub_mul]
    constructor
    · intro z; rw [z, Int.zero_mul]
    · intro z; exact (Int.mul_eq_zero.mp z).resolve_right (by omega)
  unfold after at nk
  dsimp only at nk
  have far : ∀ {d m : Nat}, (q.2 - q.1).natAbs ≤ d → p.1 - o.1 ≠ 0 → 5 * d + 24 ≤ (p.1 - o.1).natAbs * m → m < 100 → q.2 < 100 := by
    intro d m hd hz hm2 hm3
    have e3 : (p.1 - o.1) * q.2 = p.1 * (q.2 - q.1) + (o.2 - p.2) := by
      rw [Int.sub_mul, Int.mul_sub]
      omega
    have h1 := mul_small c1 hd
    have h2 : ((p.1 - o.1) * q.2).natAbs ≤ 5 * d + 24 := by
      rw [e3]
      omega
    rw [Int.natAbs_mul] at h2
    have h3 : (p.1 - o.1).natAbs * q.2.natAbs ≤ (p.1 - o.1).natAbs * m := Nat.le_trans h2 hm2
    have h4 := Nat.le_of_mul_le_mul_left h3 (Int.natAbs_pos.mpr hz)
    omega
  by_cases b1 : b.first ≤ q.1 + st.1 * s
  · by_cases b2 : b.low ≤ q.2 + st.2 * s - (q.1 + st.1 * s)
    · by_cases b3 : ∀ h, b.high = some h → q.2 + st.2 * s - (q.1 + st.1 * s) ≤ h
      · by_cases b4 : ∀ n, b.rounds = some n → q.2 + st.2 * s < n
        · exact absurd ⟨b1, b2, b3, b4⟩ nk
        · obtain ⟨n, hn2⟩ := Classical.not_forall.mp b4
          obtain ⟨en, _⟩ := Classical.not_imp.mp hn2
          have := S.ro n en
          have := k4 n en
          omega
      · obtain ⟨h, hn2⟩ := Classical.not_forall.mp b3
        obtain ⟨eh, hn3⟩ := Classical.not_imp.mp hn2
        have h1 := S.hi h eh
        have h2 := k3 h eh
        have hz : p.1 - o.1 ≠ 0 := fun z => by
          have := zd.mpr z
          rcases hs with rfl | rfl <;> omega
        refine far (d := 10) (m := 74) (by omega) hz ?_ (by decide)
        have : 1 ≤ (p.1 - o.1).natAbs := Int.natAbs_pos.mpr hz
        omega
    · have hz : p.1 - o.1 ≠ 0 := fun z => by
        have := zd.mpr z
        rcases hs with rfl | rfl <;> omega
      have h1 : 1 ≤ (p.1 - o.1).natAbs := Int.natAbs_pos.mpr hz
      refine far (d := 5 + (p.1 - o.1).natAbs) (m := 54) ?_ hz ?_ (by decide)
      · rcases hs with rfl | rfl <;> omega
      · omega
  · have hz : o.1 ≠ 0 := fun z => by
      have := z1.mpr z
      rcases hs with rfl | rfl <;> omega
    have h1 : q.1.natAbs ≤ 10 := by rcases hs with rfl | rfl <;> omega
    have h2 := mul_small c1 h1
    have h3 := le_mul_abs (x := q.2) hz
    omega
end
end Mt
set_option maxHeartbeats 4000000
/-! What the list of all pairs below 160 tells -/
namespace Mt
open Lf
/-! ### the first and the last of those that are wanted -/
theorem head_filter {L : List (Int × Int)} {f : Int × Int → Bool} {x : Int × Int} (hs : L.Pairwise lt2) (hx : x ∈ L) (fx : f x = true) (h : ∀ y ∈ L, f y = true → y = x ∨ lt2 x y) : ∃ r, L.filter f = x :: r := by
  have hs' := hs.filter f
  have mx : x ∈ L.filter f := List.mem_filter.mpr ⟨hx, fx⟩
  cases e : L.filter f with
  | nil => rw [e] at mx; cases mx
  | cons y r =>
    rw [e] at mx hs'
    have my : y ∈ L.filter f := by rw [e]; exact List.mem_cons_self ..
    obtain ⟨my, fy⟩ := List.mem_filter.mp my
    obtain ⟨a1, _⟩ := List.pairwise_cons.mp hs'
    rcases List.mem_cons.mp mx with z | z
    · rw [z]
      exact ⟨r, rfl⟩
    · rcases h y my fy with w | w
      · rw [w]
        exact ⟨r, rfl⟩
      · exact absurd (a1 x z) (lt2_asymm w)
theorem last_filter {L : List (Int × Int)} {f : Int × Int → Bool} {x : Int × Int} (hs : L.Pairwise lt2) (hx : x ∈ L) (fx : f x = true) (h : ∀ y ∈ L, f y = true → y = x ∨ lt2 y x) : ∃ r, L.filter f = r ++ [x] := by
  have hs' := hs.filter f
  have mx : x ∈ L.filter f := List.mem_filter.mpr ⟨hx, fx⟩
  obtain ⟨r, y, e⟩ : ∃ r y, L.filter f = r ++ [y] := by
    rcases List.eq_nil_or_concat (L.filter f) with z | ⟨r, y, z⟩
    · rw [z] at mx; cases mx
    · exact ⟨r, y, by rw [z, List.concat_eq_append]⟩
  rw [e] at mx hs'
  have my : y ∈ L.filter f := by rw [e]; simp
  obtain ⟨my, fy⟩ := List.mem_filter.mp my
  obtain ⟨_, _, a1⟩ := List.pairwise_append.mp hs'
  rw [e]
  rcases List.mem_append.mp mx with z | z
  · rcases h y my fy with w | w
    · rw [w]
      exact ⟨r, rfl⟩
    · exact absurd (a1 x z y (by simp)) (lt2_asymm w)
  · rw [List.mem_singleton.mp z]
    exact ⟨r, rfl⟩
theorem last_most {L r : List (Int × Int)} {z : Int × Int} (hs : L.Pairwise lt2) (e : L = r ++ [z]) {x : Int × Int} (hx : x ∈ L) : x.2 ≤ z.2 := by
  rw [e] at hs hx
  obtain ⟨_, _, a1⟩ := List.pairwise_append.mp hs
  rcases List.mem_append.mp hx with w | w
  · have := a1 x w z (by simp)
    unfold lt2 at this
    omega
  · rw [List.mem_singleton.mp w]
    exact Int.le_refl _
section
variable {p o q0 st q : Int × Int} {b : Bnd} {has : Bool} {e : Ends} {g : Int × Int → Bool}
theorem each_le (M : MetOk p o b has q0 st e) (h : isEmpty has e = false) (hq : endBy q0 st e (sgn st) = some q) {j k : Nat} (hjk : j ≤ k) : (eachP q st j).2 ≤ (eachP q st k).2 := by
  obtain ⟨q', e', _, _, s3⟩ := each_spec M h
  rw [hq] at e'
  cases e'
  rcases Nat.lt_or_ge j k with c | c
  · have := s3 j k c
    unfold lt2 at this
    omega
  · have : j = k := by omega
    subst this
    exact Int.le_refl _
theorem on_line (M : MetOk p o b has q0 st e) (h : isEmpty has e = false) (hr : good p o b q) : ∃ t, q = after q0 st t := by
  obtain ⟨hh, _, _⟩ := empty_false.mp h
  obtain ⟨u, hu, _⟩ := M.on hh hr
  exact ⟨u, hu⟩
theorem all_finite (S : Small p o b) (M : MetOk p o b has q0 st e) {n : Int} (am : amount has e = some n) {r : Int × Int} (hr : good p o b r) : r.2 < 100 := by
  have h : isEmpty has e = false := by
    cases z : isEmpty has e with
    | false => rfl
    | true => exact absurd hr ((empty_iff M).mp z r)
  obtain ⟨hh, _, _⟩ := empty_false.mp h
  have n1 := amount_pos h am
  obtain ⟨q, hq, _, s2, _⟩ := each_spec M h
  obtain ⟨_, cf⟩ := count_facts M h hq
  obtain ⟨m, rfl⟩ : ∃ m : Nat, n = (m : Int) + 1 := ⟨(n - 1).toNat, by omega⟩
  have g1 := (cf m).mpr fun n' z => by rw [am] at z; cases z; omega
  have g2 : ¬ good p o b (after (after q st (sgn st * m)) st (sgn st)) := fun z => by
    have e1 : after (after q st (sgn st * m)) st (sgn st) = after q st (sgn st * ((m + 1 : Nat) : Int)) := by
      rw [after_after]
      congr 1
      rw [show ((m + 1 : Nat) : Int) = (m : Int) + 1 from rfl, Int.mul_add, Int.mul_one]
    rw [e1] at z
    have := (cf (m + 1)).mp z _ am
    omega
  have t1 := tight_near S (M.yes hh) g1 (sgn_cases st) g2 (on_line M h g1)
  obtain ⟨k, rfl, hk⟩ := s2 r hr
  have := hk _ am
  have := each_le M h hq (show k ≤ m by omega)
  unfold eachP at this ⊢
  omega
theorem inf_facts (S : Small p o b) (M : MetOk p o b has q0 st e) (h : isEmpty has e = false) (hq : endBy q0 st e (sgn st) = some q) (am : amount has e = none) :
    q.2 < 100 ∧ 1 ≤ st.2 * sgn st ∧ st.2 * sgn st ≤ 5 := by
  obtain ⟨hh, _, _⟩ := empty_false.mp h
  have ne := (M.yes hh).ne
  obtain ⟨nb, cf⟩ := count_facts M h hq
  have all : ∀ k : Nat, good p o b (after q st (sgn st * k)) := fun k => (cf k).mpr fun n z => by rw [am] at z; cases z
  have g0 : good p o b q := by
    have := all 0
    unfold after at this
    simpa using this
  have t1 := tight_near S (M.yes hh) g0 (s := -sgn st) (by rcases sgn_cases st with z | z <;> rw [z] <;> simp) nb (on_line M h g0)
  obtain ⟨gg, gp, e1, e2⟩ := (M.yes hh).st1
  have a2 : st.2.natAbs ≤ p.1.natAbs := by
    rw [e1, Int.natAbs_mul]
    exact Nat.le_mul_of_pos_right _ (Int.natAbs_pos.mpr (by omega))
  have c1 := S.p1
  have z2 : st.2 ≠ 0 := fun z => by
    -- the later round stays, the earlier one would grow without end
    have s1 : st.1 ≠ 0 := fun y => ne ⟨y, z⟩
    have gr : growth st = st.1 := if_neg (fun y => y z)
    have u1 : 1 ≤ st.1 * sgn st := by
      unfold sgn
      rw [gr]
      split <;> omega
    have k1 := (keeps_iff b _).mp (all ((q.2 - q.1).natAbs + 1)).2
    have k2 := k1.2.1
    unfold after at k2
    dsimp only at k2
    rw [z, Int.zero_mul, ← Int.mul_assoc] at k2
    have := S.lo.1
    have w : 1 * (((q.2 - q.1).natAbs + 1 : Nat) : Int) ≤ st.1 * sgn st * (((q.2 - q.1).natAbs + 1 : Nat) : Int) := Int.mul_le_mul_of_nonneg_right u1 (Int.natCast_nonneg _)
    omega
  have gr : growth st = st.2 := if_pos z2
  refine ⟨t1, ?_, ?_⟩
  · unfold sgn
    rw [gr]
    split <;> omega
  · rcases sgn_cases st with z | z <;> rw [z] <;> omega
/-- the list of all pairs below 160 begins the walk -/
theorem found_walk (S : Small p o b) (hg : ∀ q, g q = true ↔ good p o b q) (M : MetOk p o b has q0 st e) (h : isEmpty has e = false) (hq : endBy q0 st e (sgn st) = some q) :
    ∃ m : Nat, forced g p o b.first 160 = (List.range m).map (eachP q st) ∧ (∀ k < m, ∀ n, amount has e = some n → (k : Int) < n) ∧ ((∃ n, amount has e = some n ∧ n ≤ m) ∨ 160 ≤ (eachP q st m).2) := by
  have l0 := S.lo.1
  have f0 := S.fi.1
  obtain ⟨q', e', s1, s2, s3⟩ := each_spec M h
  rw [hq] at e'
  cases e'
  have mf := fun {r : Int × Int} => mem_forced (n := 160) hg l0 f0 (q := r)
  have fs := forced_sorted hg l0 f0 160
  let ok : Nat → Prop := fun k => (∀ n, amount has e = some n → (k : Int) < n) ∧ (eachP q st k).2 < 160
  have inF : ∀ k, ok k → eachP q st k ∈ forced g p o b.first 160 := fun k hk => mf.mpr ⟨s1 k hk.1, hk.2⟩
  have inj : ∀ i j, eachP q st i = eachP q st j → i = j := fun i j hij => by
    rcases Nat.lt_trichotomy i j with c | c | c
    · have := s3 i j c; rw [hij] at this; exact absurd this lt2_irrefl
    · exact c
    · have := s3 j i c; rw [hij] at this; exact absurd this lt2_irrefl
  -- the least one that is not below 160
  have ex : ∃ k, ¬ ok k := Classical.byContradiction fun no => by
    have al : ∀ k, ok k := fun k => Classical.byContradiction fun z => no ⟨k, z⟩
    have := nodup_le (l1 := (List.range ((forced g p o b.first 160).length + 1)).map (eachP q st)) (nodup_map inj _) fun x hx => by
      obtain ⟨k, _, rfl⟩ := List.mem_map.mp hx
      exact inF k (al k)
    rw [List.length_map, List.length_range] at this
    exact absurd this (by omega)
  have least : ∃ m, ¬ ok m ∧ ∀ k < m, ok k := by
    obtain ⟨k, hk⟩ := ex
    induction k using Nat.strongRecOn with
    | _ k ih =>
      by_cases c : ∀ j < k, ok j
      · exact ⟨k, hk, c⟩
      · obtain ⟨j, hj⟩ := Classical.not_forall.mp c
        obtain ⟨h1, h2⟩ := Classical.not_imp.mp hj
        exact ih j h1 h2
  obtain ⟨m, hm, hlt⟩ := least
  refine ⟨m, sorted_eq fs ?_ fun x => ?_, fun k hk => (hlt k hk).1, ?_⟩
  · rw [List.pairwise_map]
    exact List.pairwise_lt_range.imp fun hab => s3 _ _ hab
  · constructor
    · intro hx
      obtain ⟨h1, h2⟩ := mf.mp hx
      obtain ⟨k, rfl, hk⟩ := s2 x h1
      refine List.mem_map.mpr ⟨k, List.mem_range.mpr (Classical.byContradiction fun c => hm ?_), rfl⟩
      have := each_le M h hq (show m ≤ k by omega)
      refine ⟨fun n z => ?_, by omega⟩
      have := hk n z
      omega
    · intro hx
      obtain ⟨k, hk, rfl⟩ := List.mem_map.mp hx
      exact inF k (hlt k (List.mem_range.mp hk))
  · by_cases c : ∀ n, amount has e = some n → (m : Int) < n
    · refine .inr (Classical.byContradiction fun c2 => hm ⟨c, by omega⟩)
    · obtain ⟨n, hn⟩ := Classical.not_forall.mp c
      obtain ⟨h1, h2⟩ := Classical.not_imp.mp hn
      exact .inl ⟨n, h1, by omega⟩
/-- what is told of the walk -/
theorem told_facts (S : Small p o b) (hg : ∀ q, g q = true ↔ good p o b q) (M : MetOk p o b has q0 st e) :
    (firsts has q0 st e ((forced g p o b.first 160).length + 2)).take (forced g p o b.first 160).length = forced g p o b.first 160 ∧
    ((forced g p o b.first 160 = [] ∨ ∃ r z, forced g p o b.first 160 = r ++ [z] ∧ z.2 < 100) → (firsts has q0 st e ((forced g p o b.first 160).length + 2)).length = (forced g p o b.first 160).length ∧ amount has e = some ((forced g p o b.first 160).length : Int)) ∧
    ((∃ r z, forced g p o b.first 160 = r ++ [z] ∧ ¬ z.2 < 100) → (∃ x y, firsts has q0 st e ((forced g p o b.first 160).length + 2) = forced g p o b.first 160 ++ [x, y] ∧ 160 ≤ x.2) ∧ amount has e = none) := by
  have l0 := S.lo.1
  have f0 := S.fi.1
  have mf := fun {r : Int × Int} => mem_forced (n := 160) hg l0 f0 (q := r)
  have fs := forced_sorted hg l0 f0 160
  cases h : isEmpty has e with
  | true =>
    have e0 : forced g p o b.first 160 = [] := by
      cases z : forced g p o b.first 160 with
      | nil => rfl
      | cons x r => exact absurd (mf.mp (by rw [z]; exact List.mem_cons_self ..)).1 ((empty_iff M).mp h x)
    rw [e0]
    refine ⟨rfl, fun _ => ⟨?_, ?_⟩, fun ⟨r, z, hz, _⟩ => ?_⟩
    · unfold firsts
      rw [h, if_pos rfl]
    · unfold amount
      rw [h, if_pos rfl]
      rfl
    · have := congrArg List.length hz
      simp at this
  | false =>
    obtain ⟨q, hq, s1, s2, s3⟩ := each_spec M h
    obtain ⟨m, em, hv, hw⟩ := found_walk S hg M h hq
    have lm : (forced g p o b.first 160).length = m := by rw [em, List.length_map, List.length_range]
    have fe : ∀ j, firsts has q0 st e j = (List.range (howMany has e j)).map (eachP q st) := fun j => by
      unfold firsts
      rw [h, if_neg Bool.false_ne_true, hq]
    rw [lm]
    cases am : amount has e with
    | none =>
      have hm : howMany has e (m + 2) = m + 2 := by unfold howMany; rw [am]
      have sp : firsts has q0 st e (m + 2) = forced g p o b.first 160 ++ [eachP q st m, eachP q st (m + 1)] := by
        rw [fe, hm, em, List.range_succ, List.range_succ, List.map_append, List.map_append, List.append_assoc]
        rfl
      obtain ⟨i1, i2, i3⟩ := inf_facts S M h hq am
      have ek : ∀ k : Nat, (eachP q st k).2 = q.2 + st.2 * sgn st * k := fun k => by
        unfold eachP after
        dsimp only
        rw [Int.mul_assoc]
      have big : 160 ≤ (eachP q st m).2 := by
        rcases hw with ⟨n, hn, _⟩ | hw
        · rw [am] at hn; cases hn
        · exact hw
      have m0 : 0 < m := Nat.pos_of_ne_zero fun z => by
        subst z
        have := ek 0
        simp at this
        omega
      have pen : 100 ≤ (eachP q st (m - 1)).2 := by
        have a1 := ek m
        have a2 := ek (m - 1)
        have : st.2 * sgn st * (m : Int) = st.2 * sgn st * ((m - 1 : Nat) : Int) + st.2 * sgn st := by
          rw [show (m : Int) = ((m - 1 : Nat) : Int) + 1 by omega, Int.mul_add, Int.mul_one]
        omega
      have lst : ∃ r, forced g p o b.first 160 = r ++ [eachP q st (m - 1)] := by
        refine ⟨(List.range (m - 1)).map (eachP q st), ?_⟩
        rw [em]
        obtain ⟨m', rfl⟩ : ∃ m', m = m' + 1 := ⟨m - 1, by omega⟩
        rw [Nat.add_sub_cancel, List.range_succ, List.map_append]
        rfl
      obtain ⟨r0, er0⟩ := lst
      refine ⟨?_, fun hc => ?_, fun _ => ⟨⟨_, _, sp, big⟩, rfl⟩⟩
      · rw [sp, ← lm, List.take_left]
      · exfalso
        rcases hc with hc | ⟨r, z, hz, hz2⟩
        · rw [hc] at er0
          have := congrArg List.length er0
          simp at this
        · have := last_most fs hz (x := eachP q st (m - 1)) (by rw [er0]; simp)
          omega
    | some n =>
      have n1 := amount_pos h am
      have all := fun {r : Int × Int} => all_finite S M am (r := r)
      have nm : n = m := by
        rcases Nat.lt_or_ge m n.toNat with c | c
        · exfalso
          have : eachP q st m ∈ forced g p o b.first 160 := by
            have gm := s1 m fun n' z => by rw [am] at z; cases z; omega
            exact mf.mpr ⟨gm, by have := all gm; omega⟩
          rw [em] at this
          obtain ⟨k, hk, ek⟩ := List.mem_map.mp this
          have hk := List.mem_range.mp hk
          have := s3 k m hk
          rw [ek] at this
          exact lt2_irrefl this
        · rcases Nat.eq_zero_or_pos m with z | z
          · omega
          · have := hv (m - 1) (by omega) n am
            omega
      have hm : howMany has e (m + 2) = m := by unfold howMany; rw [am]; dsimp only; omega
      have sp : firsts has q0 st e (m + 2) = forced g p o b.first 160 := by rw [fe, hm, em]
      refine ⟨?_, fun _ => ⟨?_, by rw [nm]⟩, fun ⟨r, z, hz, hz2⟩ => ?_⟩
      · rw [sp, ← lm, List.take_length]
      · rw [sp, lm]
      · exact absurd (all (mf.mp (by rw [hz]; simp)).1) hz2
theorem ends_facts (S : Small p o b) (hg : ∀ q, g q = true ↔ good p o b q) (M : MetOk p o b has q0 st e) (h : isEmpty has e = false) :
    ∃ qn qs, nearest has q0 st e = some qn ∧ soonest has q0 st e = some qs ∧ qn ∈ forced g p o b.first 160 ∧ (∀ r ∈ forced g p o b.first 160, qn.2 - qn.1 ≤ r.2 - r.1) ∧
      (∃ r, (forced g p o b.first 160).filter (fun x => decide (x.2 - x.1 = qn.2 - qn.1)) = qn :: r) ∧ (∃ r, (forced g p o b.first 160).filter (fun x => decide (x.2 = qs.2)) = r ++ [qs]) ∧ (∀ x r, forced g p o b.first 160 = x :: r → x.2 = qs.2) ∧
      (∀ ql, latest has q0 st e = some ql → ql ∈ forced g p o b.first 160 ∧ (∀ r ∈ forced g p o b.first 160, r.1 ≤ ql.1) ∧ ∃ r, (forced g p o b.first 160).filter (fun x => decide (x.1 = ql.1)) = ql :: r) ∧
      (amount has e = none → (latest has q0 st e = none → ∃ x y r, forced g p o b.first 160 = x :: y :: r ∧ x.1 ≠ y.1) ∧ ∀ ql, latest has q0 st e = some ql → ∀ r ∈ forced g p o b.first 160, r.1 = ql.1) ∧
      (∀ n, amount has e = some n → ∃ ql, latest has q0 st e = some ql) := by
  have l0 := S.lo.1
  have f0 := S.fi.1
  have mf := fun {r : Int × Int} => mem_forced (n := 160) hg l0 f0 (q := r)
  have fs := forced_sorted hg l0 f0 160
  obtain ⟨hh, _, _⟩ := empty_false.mp h
  have L := M.yes hh
  have ne := L.ne
  have pm : ∀ w : Int, (if 0 < w then (-1 : Int) else 1) = 1 ∨ (if 0 < w then (-1 : Int) else 1) = -1 := fun w => by split <;> simp
  obtain ⟨qn, en, nn⟩ := near_spec M h
  obtain ⟨n1, n2⟩ := (near_iff (st' := st) M fun _ => rfl).mp en
  have t1 := tight_near S L n1 (pm _) n2 (on_line M h n1)
  have mn : qn ∈ forced g p o b.first 160 := mf.mpr ⟨n1, by omega⟩
  obtain ⟨qs, eqs, ns⟩ := soon_spec M h
  obtain ⟨s1, s2⟩ := soon_beside ne ns
  have t2 := tight_near S L s1 (pm _) s2 (on_line M h s1)
  have ms : qs ∈ forced g p o b.first 160 := mf.mpr ⟨s1, by omega⟩
  obtain ⟨la1, la2⟩ := late_spec M h
  have late : ∀ ql, latest has q0 st e = some ql → ql ∈ forced g p o b.first 160 ∧ (∀ r ∈ forced g p o b.first 160, r.1 ≤ ql.1) ∧ ∃ r, (forced g p o b.first 160).filter (fun x => decide (x.1 = ql.1)) = ql :: r := fun ql el => by
    have il := la1 ql el
    obtain ⟨h1, h2⟩ := late_beside ne il
    have t3 := tight_near S L h1 (pm _) h2 (on_line M h h1)
    have ml : ql ∈ forced g p o b.first 160 := mf.mpr ⟨h1, by omega⟩
    refine ⟨ml, fun r hr => ?_, head_filter fs ml (decide_eq_true rfl) fun y hy fy => ?_⟩
    · have := il.2 r (mf.mp hr).1
      omega
    · have fy := of_decide_eq_true fy
      have := il.2 y (mf.mp hy).1
      by_cases c : y.2 = ql.2
      · exact .inl (Prod.ext fy c)
      · exact .inr (.inl (by omega))
  refine ⟨qn, qs, en, eqs, mn, fun r hr => ?_, head_filter fs mn (decide_eq_true rfl) fun y hy fy => ?_, last_filter fs ms (decide_eq_true rfl) fun y hy fy => ?_, fun x r hx => ?_, late, fun am => ⟨fun el => ?_, fun ql el r hr => ?_⟩, fun n am => ?_⟩
  · have := nn.2 r (mf.mp hr).1
    omega
  · have fy := of_decide_eq_true fy
    have := nn.2 y (mf.mp hy).1
    by_cases c : y.2 = qn.2
    · exact .inl (Prod.ext (by omega) c)
    · exact .inr (.inl (by omega))
  · have fy := of_decide_eq_true fy
    have := ns.2 y (mf.mp hy).1
    by_cases c : y.1 = qs.1
    · exact .inl (Prod.ext c fy)
    · exact .inr (.inr ⟨fy, by omega⟩)
  · have hx1 : x ∈ forced g p o b.first 160 := by rw [hx]; exact List.mem_cons_self ..
    have := ns.2 x (mf.mp hx1).1
    rw [hx] at fs ms
    obtain ⟨a1, _⟩ := List.pairwise_cons.mp fs
    rcases List.mem_cons.mp ms with z | z
    · rw [z]
    · have := a1 qs z
      unfold lt2 at this
      omega
  · have z1 := (late_endless M h am).mp el
    obtain ⟨q, hq, _, _, _⟩ := each_spec M h
    obtain ⟨m, em, _, hw⟩ := found_walk S hg M h hq
    obtain ⟨i1, i2, i3⟩ := inf_facts S M h hq am
    have big : 160 ≤ (eachP q st m).2 := by
      rcases hw with ⟨n, hn, _⟩ | hw
      · rw [am] at hn; cases hn
      · exact hw
    have m2 : 2 ≤ m := by
      rcases Nat.lt_or_ge m 2 with c | c
      · exfalso
        have : (eachP q st m).2 = q.2 + st.2 * sgn st * m := by
          unfold eachP after
          dsimp only
          rw [Int.mul_assoc]
        have : m = 0 ∨ m = 1 := by omega
        rcases this with rfl | rfl
        · simp at *; omega
        · simp at *; omega
      · exact c
    obtain ⟨m', rfl⟩ : ∃ m', m = m' + 1 + 1 := ⟨m - 2, by omega⟩
    rw [em, List.range_succ_eq_map, List.range_succ_eq_map, List.map_cons, List.map_cons, List.map_cons]
    refine ⟨_, _, _, rfl, ?_⟩
    unfold eachP after
    dsimp only
    intro z
    have : st.1 * (sgn st * ((Nat.succ 0 : Nat) : Int)) = 0 := by
      have e0 : st.1 * (sgn st * ((0 : Nat) : Int)) = 0 := by simp
      omega
    rcases Int.mul_eq_zero.mp this with y | y
    · exact z1 y
    · rcases sgn_cases st with w | w <;> rw [w] at y <;> simp at y
  · have z1 : st.1 = 0 := Classical.byContradiction fun z => by
      rw [(late_endless M h am).mpr z] at el
      cases el
    obtain ⟨q, hq, _, s2, _⟩ := each_spec M h
    have each1 : ∀ r, good p o b r → r.1 = q.1 := fun r hr => by
      obtain ⟨k, rfl, _⟩ := s2 r hr
      unfold eachP after
      dsimp only
      rw [z1, Int.zero_mul, Int.add_zero]
    rw [each1 r (mf.mp hr).1, each1 ql (la1 ql el).1]
  · cases el : latest has q0 st e with
    | some ql => exact ⟨ql, rfl⟩
    | none => rw [late_none h el] at am; cases am
end
end Mt
set_option maxHeartbeats 4000000
namespace My
open PySem L2 Lf Evl
def top (i : Nat) : Stmt := PySem.Challenge.pw_loopfoundry_k12_all_meetings_of_small_pl.main.body.getD i (.Pass ⟨0, 0, 0, 0⟩)
def great : Int := 10000000000000000000000000000000000000000000000000000000000000000000000000000000000000000000000000000
structure Txt (P : Program) (K : PySem.W.Frag) (mg : Str → Option Value) (CN fI CA FE : Addr) : Prop where
  n_isinstance : mg "isinstance" = none
  n_int : mg "int" = none
  n_bool : mg "bool" = none
  n_tuple : mg "tuple" = none
  n_len : mg "len" = none
  n_abs : mg "abs" = none
  n_max : mg "max" = none
  n_min : mg "min" = none
  n_list : mg "list" = none
  n_range : mg "range" = none
  n_zip : mg "zip" = none
  n_all : mg "all" = none
  n_set : mg "set" = none
  g_GREAT : ∃ t, mg "GREAT" = some (.int great t)
  num : PySem.LfX.XTxt P K mg "InvalidNumber" "value" "RuntimeError" "RuntimeError.__init__" "RuntimeError.__new__" [.type "RuntimeError", .type "Exception", .type "BaseException", .type "object"] CN fI
  gA : mg "InvalidArgument" = some (.ref CA)
  xA : PySem.W.excIn K CA [.type "ValueError", .type "Exception", .type "BaseException", .type "object"] "ValueError.__new__" = true
  kA : PySem.W.keepIn K (.ref CA) = true
  bA : PySem.W.subIn K (.ref CA) (.type "BaseException") = some true
  tA : PySem.W.typeIn K (.ref CA) = some (.type "type")
  c_Met : Cls K FE
  g_Meetings : mg "Meetings" = some (.ref FE)
  nf : NoAttr K FE "place" ∧ NoAttr K FE "other" ∧ NoAttr K FE "low" ∧ NoAttr K FE "high" ∧ NoAttr K FE "first" ∧ NoAttr K FE "rounds" ∧ NoAttr K FE "own_line" ∧ NoAttr K FE "has_line" ∧ NoAttr K FE "own_ends"
abbrev s_is_number : Stmt := top 6
theorem sc_is_number : FnScope ["value"] ["value"] (defScope s_is_number) := ⟨rfl, rfl, rfl, by decide +kernel, rfl, by decide +kernel, by decide +kernel⟩
abbrev s_combination : Stmt := top 8
theorem sc_combination : FnScope ["one", "other", "old", "new", "many", "was", "now", "part"] ["one", "other"] (defScope s_combination) := ⟨rfl, rfl, rfl, by decide +kernel, rfl, by decide +kernel, by decide +kernel⟩
abbrev s_line_of : Stmt := top 9
theorem sc_line_of : FnScope ["place", "other", "divisor", "one", "two", "apart", "many"] ["place", "other"] (defScope s_line_of) := ⟨rfl, rfl, rfl, by decide +kernel, rfl, by decide +kernel, by decide +kernel⟩
abbrev s_pair_after : Stmt := top 10
theorem sc_pair_after : FnScope ["pair", "step", "many"] ["pair", "step", "many"] (defScope s_pair_after) := ⟨rfl, rfl, rfl, by decide +kernel, rfl, by decide +kernel, by decide +kernel⟩
abbrev s_ends_of : Stmt := top 11
theorem sc_ends_of : FnScope ["values", "slopes", "first", "last", "barred", "value", "slope", "bound"] ["values", "slopes"] (defScope s_ends_of) := ⟨rfl, rfl, rfl, by decide +kernel, rfl, by decide +kernel, by decide +kernel⟩
abbrev s_is_great : Stmt := top 14
theorem sc_is_great : FnScope ["value"] ["value"] (defScope s_is_great) := ⟨rfl, rfl, rfl, by decide +kernel, rfl, by decide +kernel, by decide +kernel⟩
abbrev s_is_count : Stmt := top 15
theorem sc_is_count : FnScope ["value"] ["value"] (defScope s_is_count) := ⟨rfl, rfl, rfl, by decide +kernel, rfl, by decide +kernel, by decide +kernel⟩
abbrev s_is_pair : Stmt := top 16
theorem sc_is_pair : FnScope ["value"] ["value"] (defScope s_is_pair) := ⟨rfl, rfl, rfl, by decide +kernel, rfl, by decide +kernel, by decide +kernel⟩
abbrev s_require_great_place : Stmt := top 17
theorem sc_require_great_place : FnScope ["value"] ["value"] (defScope s_require_great_place) := ⟨rfl, rfl, rfl, by decide +kernel, rfl, by decide +kernel, by decide +kernel⟩
abbrev s_require_count : Stmt := top 18
theorem sc_require_count : FnScope ["value"] ["value"] (defScope s_require_count) := ⟨rfl, rfl, rfl, by decide +kernel, rfl, by decide +kernel, by decide +kernel⟩
/-! ### comprehensions over zip and tuples, the heap growing -/
section
variable {K : PySem.W.Frag} {σ : L2.St} {H : Hp} {te tl : TE} {ta : TA} {g : TG} {vs : List Nat} {a b : Addr} {xs ys : List V}
/-- [e for x, y in zip(a, b)] of two tuples -/
theorem el_zipT (ev : Nat → V) (h : EvA ta σ H [.ref a, .ref b]) (ha : SqT K H a xs) (hb : SqT K H b ys) (hl : xs.length = ys.length) (hz : xs.length ≤ 1000)
    (he : ∀ i x y H1, Ex H H1 → xs[i]? = some x → ys[i]? = some y → ∀ T, H1 T = none → ∀ Q : L2.St → Hp → Prop, (∀ σ2 H2, Ex H1 H2 → wipe σ2 vs = wipe σ vs → Ev te σ2 H2 (ev i) → Q σ2 H2) → g (.ref T) (wipe σ vs) (upd H1 T (.tup [x, y])) Q) :
    EvL (tLc (RZ.iZipA K ta) g tYes te vs) σ H ((List.range xs.length).map ev) := fun H0 e0 Q q => h H0 e0 _ fun H1 e1 =>
  ⟨a, b, xs, ys, rfl, .inr ⟨ex_t (e0.trans e1) ha, ex_t (e0.trans e1) hb, fun D hD => by
    have eD : Ex H1 (upd H1 D (.lst [])) := Ex.new hD
    refine ⟨fun i m H' => m = xs.length - i ∧ i ≤ xs.length ∧ Ex H1 H' ∧ H' D = some (.lst ((List.range i).map ev)), ⟨xs.length, by simp, Nat.zero_le _, eD, upd_same⟩, ?_⟩
    rintro i m H' ⟨rfl, hi, e2, hL⟩
    have s1 := ex_t (e0.trans (e1.trans e2)) ha
    have s2 := ex_t (e0.trans (e1.trans e2)) hb
    by_cases hlt : i < xs.length
    · obtain ⟨x, hx⟩ : ∃ x, xs[i]? = some x := ⟨_, List.getElem?_eq_getElem hlt⟩
      obtain ⟨y, hy⟩ : ∃ y, ys[i]? = some y := ⟨_, List.getElem?_eq_getElem (hl ▸ hlt)⟩
      refine .inr ⟨⟨xs, ys, x, y, s1, s2, hx, hy⟩, fun H3 => Ex H1 H3 ∧ H3 D = some (.lst ((List.range (i + 1)).map ev)), fun H3 ⟨a3, b3⟩ => ⟨xs.length - (i + 1), by omega, rfl, hlt, a3, b3⟩, ?_⟩
      rintro v H3 ⟨T, x', y', rfl, hT, rfl, kx, ky⟩
      have ex := Option.some.inj ((kx xs s1).symm.trans hx)
      have ey := Option.some.inj ((ky ys s2).symm.trans hy)
      subst ex
      subst ey
      refine he i x' y' H' (e0.trans (e1.trans e2)) hx hy T hT _ fun σ2 H4 e4 hw hev => ⟨hw, ?_⟩
      dsimp only [tYes]
      rw [if_pos rfl]
      refine hev H4 (Ex.refl _) _ fun H5 e5 => ⟨_, e5 _ _ (e4 _ _ hL), ?_, ?_⟩
      · rw [List.length_map, List.length_range]
        exact Nat.lt_of_lt_of_le (Nat.lt_of_lt_of_le hlt hz) (show 1000 ≤ sizeLine by decide)
      · refine ⟨Ex.mut (e2.trans (e4.trans e5)) hD, ?_⟩
        rw [upd_same, List.range_succ, List.map_append]
        rfl
    · have ei : i = xs.length := by omega
      subst ei
      exact .inl ⟨⟨xs, ys, s1, s2, .inl (Nat.le_refl _)⟩, q D H' (by cases z : H0 D with | none => rfl | some o => rw [e1 _ _ z] at hD; cases hD) (e1.trans e2) hL⟩⟩⟩
/-- tuple([..]) -/
theorem eu_tuple {xs : List V} (h : EvL te σ H xs) : EvU (tCB (fun vs H Q => ∃ p ys, vs = [V.ref p] ∧ ((SqL K H p ys ∧ ∀ l, H l = none → Q (.ref l) (upd H l (.tup ys))) ∨ (SqT K H p ys ∧ Q (.ref p) H))) (tCons te tNil)) σ H xs := fun H1 e Q q =>
  h H1 e _ fun p H2 hp e2 hL => ⟨p, xs, rfl, .inl ⟨SqL.of hL, fun l hl => q l _ (fresh_back e2 hl) (e2.trans (Ex.new hl)) upd_same⟩⟩
/-- [e for x in t] of a tuple -/
theorem el_tup {j : Nat} (ev : Nat → V) (h : Ev tl σ H (.ref a)) (ha : SqT K H a xs) (hz : xs.length ≤ 1000) (hw : ∀ x, wipe ((wipe σ vs).set j (some x)) vs = wipe σ vs)
    (he : ∀ i x H1, Ex H H1 → xs[i]? = some x → Ev te ((wipe σ vs).set j (some x)) H1 (ev i)) :
    EvL (tLc (iTup K tl) (gName j) tYes te vs) σ H ((List.range xs.length).map ev) := fun H0 e0 Q q => h H0 e0 _ fun H1 e1 =>
  ⟨a, rfl, ⟨xs, ex_t (e0.trans e1) ha⟩, fun D hD => lc_tup (K := K) (a := a) (xs := xs) (fun i H' => Ex H1 H' ∧ H' D = some (.lst ((List.range i).map ev))) ⟨Ex.new hD, upd_same⟩ (fun i H' _ ⟨e2, _⟩ => ex_t (e0.trans (e1.trans e2)) ha)
    (fun i x H' hx ⟨e2, hL⟩ => ⟨hw x, (he i x H' (e0.trans (e1.trans e2)) hx) H' (Ex.refl _) _ fun H5 e5 => ⟨_, e5 _ _ hL, (by
      rw [List.length_map, List.length_range]
      exact Nat.lt_of_lt_of_le (Nat.lt_of_lt_of_le (List.getElem?_eq_some_iff.mp hx).1 hz) (show 1000 ≤ sizeLine by decide)), Ex.mut (e2.trans e5) hD, (by
      rw [upd_same, List.range_succ, List.map_append]
      rfl)⟩⟩)
    (fun H' ⟨e2, hL⟩ => q D H' (fresh_back e1 hD) (e1.trans e2) hL)⟩
end
/-! ### openers: the goal as a reading of its first part -/
section
variable {σ : L2.St} {H : Hp} {D : Ends} {t u : TS} {te : TE} {ta tr : TA} {i j : Nat}
theorem o_par {P : L2.St → Hp → Prop} (h : ta σ H fun vs H1 => ∃ v w, vs = [v, w] ∧ D.nx ((σ.set i (some v)).set j (some w)) H1) : tPar i j ta D σ H := h
theorem o_cons {Q : List V → Hp → Prop} (h : te σ H fun x H1 => tr σ H1 fun xs H2 => Q (x :: xs) H2) : tCons te tr σ H Q := h
theorem o_ret (h : te σ H D.rt) : tRet te D σ H := h
end
end My
set_option maxHeartbeats 4000000
namespace My
open PySem L2 Lf Evl
def spComb : Sp := fun vs H Q _ => ∃ a b : Int, vs = [.int a, .int b] ∧ Bd 400 a ∧ Bd 400 b ∧
  ∀ t H' g x y, Ex H H' → H' t = some (.tup [.int g, .int x, .int y]) → Mt.Comb a b g x y → Bd 900 x → Bd 900 y → Q (.ref t) H'
/-- what holds between two turns of the combination's loop -/
structure CombW (a b r0 x0 y0 r1 x1 y1 : Int) : Prop where
  ci : Mt.CombI a b r0 x0 y0 r1 x1 y1
  b0 : Bd 400 r0
  b1 : Bd 400 r1
  bx : Bd 900 x0 ∧ Bd 900 y0 ∧ Bd 900 x1 ∧ Bd 900 y1
  ph : (r0 = a ∧ x0 = 1 ∧ y0 = 0 ∧ r1 = b ∧ x1 = 0 ∧ y1 = 1) ∨ (Mt.Like r0 r1 ∧ r0 ≠ 0 ∧ Mt.Sz (2 ^ 850) r0 x0 r1 x1 ∧ Mt.Sz (2 ^ 850) r0 y0 r1 y1)
theorem CombW.start {a b : Int} (ha : Bd 400 a) (hb : Bd 400 b) : CombW a b a 1 0 b 0 1 :=
  ⟨.start a b, ha, hb, ⟨Bd.lit (by decide), Bd.lit (by decide), Bd.lit (by decide), Bd.lit (by decide)⟩, .inl ⟨rfl, rfl, rfl, rfl, rfl, rfl⟩⟩
theorem bd_of_sz {r0 x0 r1 x1 : Int} (h : r0 ≠ 0) (s : Mt.Sz (2 ^ 850) r0 x0 r1 x1) : Bd 900 x1 :=
  Nat.lt_of_le_of_lt (Mt.sz_part h s) (Nat.pow_lt_pow_right (by decide) (by decide))
theorem CombW.step {a b r0 x0 y0 r1 x1 y1 : Int} (h : CombW a b r0 x0 y0 r1 x1 y1) (hr : r1 ≠ 0) :
    CombW a b r1 x1 y1 (r0 - r0.fdiv r1 * r1) (x0 - r0.fdiv r1 * x1) (y0 - r0.fdiv r1 * y1) := by
  obtain ⟨ci, b0, b1, ⟨bx0, by0, bx1, by1⟩, ph⟩ := h
  obtain ⟨hl, hlt⟩ := Mt.like_step (r0 := r0) hr
  have sz : Mt.Sz (2 ^ 850) r1 x1 (r0 - r0.fdiv r1 * r1) (x0 - r0.fdiv r1 * x1) ∧ Mt.Sz (2 ^ 850) r1 y1 (r0 - r0.fdiv r1 * r1) (y0 - r0.fdiv r1 * y1) := by
    rcases ph with ⟨rfl, rfl, rfl, rfl, rfl, rfl⟩ | ⟨lk, r00, s1, s2⟩
    · have p : (2 : Nat) ^ 400 * 2 ^ 400 = 2 ^ 800 := by rw [← Nat.pow_add]
      have p2 : (2 : Nat) ^ 400 ≤ 2 ^ 800 := Nat.pow_le_pow_right (by decide) (by decide)
      have p3 : (2 : Nat) ^ 800 + 2 ^ 800 = 2 ^ 801 := by rw [Nat.pow_succ]; omega
      have p4 : (2 : Nat) ^ 801 ≤ 2 ^ 850 := Nat.pow_le_pow_right (by decide) (by decide)
      unfold Bd at b0 b1
      constructor
      · unfold Mt.Sz
        have e : (1 - r0.fdiv r1 * 0 : Int) = 1 := by omega
        rw [e]
        show r1.natAbs * 1 + _ * 0 ≤ _
        omega
      · unfold Mt.Sz
        have e : (0 - r0.fdiv r1 * 1 : Int) = -(r0.fdiv r1) := by omega
        rw [e, Int.natAbs_neg]
        have f := Int.natAbs_fdiv_le_natAbs r0 r1
        have m : r1.natAbs * (r0.fdiv r1).natAbs ≤ 2 ^ 400 * 2 ^ 400 := Nat.mul_le_mul (Nat.le_of_lt b1) (Nat.le_of_lt (Nat.lt_of_le_of_lt f b0))
        show _ + _ * 1 ≤ _
        omega
    · exact ⟨Mt.sz_step hr lk s1, Mt.sz_step hr lk s2⟩
  exact ⟨ci.step, b1, Nat.lt_trans hlt b1, ⟨bx1, by1, bd_of_sz hr sz.1, bd_of_sz hr sz.2⟩, .inr ⟨hl, hr, sz.1, sz.2⟩⟩
section
variable {P : Program} {w : World} {K : PySem.W.Frag} {mg : Str → Option Value} {base : Heap} {CN fI CA FE : Addr}
theorem ok_is_number (T : Txt P K mg CN fI CA FE) (D : Df K mg "is_number" s_is_number) : DefOk P w K mg base CX0 1 "is_number" ["value"] spIsNumber := by
  refine D.ok sc_is_number (fun _ _ _ _ _ _ us hl => match us, hl with | [_], _ => rfl) (fun vs H Q E h => ?_) (fun f cdv A outer s H vs Q E hr h => ?_)
  · obtain ⟨v, t, rfl, _⟩ := h
    rfl
  · obtain ⟨v, t, rfl, kd, q⟩ := h
    refine ⟨_, (pss_one (ps_ret (pe_and (pe_callB call_isi (by rfl) T.n_isinstance (by decide +kernel) (pa_cons (pv 0) (pa_cons (pe_bltn (v := .ty "int") (by rfl) T.n_int (by decide +kernel) rfl) pa_nil))) (pe_one (pe_not (pe_callB call_isi (by rfl) T.n_isinstance (by decide +kernel) (pa_cons (pv 0) (pa_cons (pe_bltn (v := .ty "bool") (by rfl) T.n_bool (by decide +kernel) rfl) pa_nil)))))))), ?_⟩
    refine ⟨v, rfl, v, _, _, _, _, rfl, .ty "int", kd.ty K, kit_ty kd.int_, _, rfl, ?_⟩
    have e := kd.num_
    cases h : (numV v || t == "bool") with
    | true =>
      rw [h] at e
      refine if_so rfl ⟨v, rfl, v, _, _, _, _, rfl, .ty "bool", kd.ty K, kit_ty kd.bool_, _, rfl, ?_⟩
      rw [if_pos rfl] at e
      show Q (.bl (!(t == "bool"))) H
      rw [e]
      exact q
    | false =>
      rw [h] at e
      refine if_no rfl ?_
      rw [if_neg Bool.false_ne_true] at e
      rw [e]
      exact q
theorem ok_combination (T : Txt P K mg CN fI CA FE) (D : Df K mg "combination" s_combination) : DefOk P w K mg base CX0 1 "combination" ["one", "other"] spComb := by
  refine D.ok sc_combination (fun _ _ _ _ _ _ us hl => match us, hl with | [_, _], _ => rfl) (fun vs H Q E h => ?_) (fun f cdv A outer s H vs Q E hr h => ?_)
  · obtain ⟨a, b, rfl, _⟩ := h
    rfl
  · obtain ⟨a, b, rfl, ha, hb, q⟩ := h
    refine ⟨_, (pss_cons (ps_par (by rfl) sc_combination.nd (i := 2) (j := 3) rfl rfl (by decide) rfl rfl (pa_cons (pe_tup (pa_cons (pv 0) (pa_cons pe_int (pa_cons pe_int pa_nil)))) (pa_cons (pe_tup (pa_cons (pv 1) (pa_cons pe_int (pa_cons pe_int pa_nil)))) pa_nil)) (by rfl))
 (pss_cons (ps_while PassesOwn.never (pt_cmpR op_ne (pe_ix ix_tup (pv 3) pe_int (fun _ _ => rfl)) pe_int (nomark _))
 (pss_cons (ps_set (i := 4) sc_combination.nd rfl (Or.inr rfl) (pe_op op_fdivV (pe_ix ix_tup (pv 2) pe_int (fun _ _ => rfl)) (pe_ix ix_tup (pv 3) pe_int (fun _ _ => rfl))))
 (pss_one (ps_par (by rfl) sc_combination.nd (i := 2) (j := 3) rfl rfl (by decide) rfl rfl (pa_cons (pv 3) (pa_cons (pe_callTy call_tuple_of (by rfl) T.n_tuple (by decide +kernel) (pa_cons (pe_lc (own := [("was", 5), ("now", 6)]) (g := (gTup K 2 (gCons (gName 5) (gCons (gName 6) gNil)))) (by rfl) sc_combination.nd (RZ.pi_zipA (by rfl) T.n_zip (pa_cons (pv 2) (pa_cons (pv 3) pa_nil))) (blkOk_by (own := [("was", 5), ("now", 6)]) (N := ["one", "other", "old", "new", "many", "was", "now", "part"]) (sc := defScope s_combination) (by decide +kernel)) (fun _ _ _ _ _ => (pg_tup (by rfl) (pgs_cons (pg_name (i := 5) sc_combination.nd rfl (Or.inl rfl)) (pgs_cons (pg_name (i := 6) sc_combination.nd rfl (Or.inl rfl)) pgs_nil)))) (fun _ _ _ _ _ => pts_nil) (fun _ _ _ _ _ => (pe_op op_sub (pv 5) (pe_op op_mulW (pv 4) (pv 6))))) pa_nil)) pa_nil)) (by rfl)))))
 (pss_cons (ps_if (pt_cmpR op_lt (pe_ix ix_tup (pv 2) pe_int (fun _ _ => rfl)) pe_int (nomark _))
 (pss_one (ps_ret (pe_callTy call_tuple_of (by rfl) T.n_tuple (by decide +kernel) (pa_cons (pe_lc (own := [("part", 7)]) (by rfl) sc_combination.nd (pi_tup (pv 2)) (blkOk_by (own := [("part", 7)]) (N := ["one", "other", "old", "new", "many", "was", "now", "part"]) (sc := defScope s_combination) (by decide +kernel)) (fun _ _ _ _ _ => (pg_name (i := 7) sc_combination.nd rfl (Or.inl rfl))) (fun _ _ _ _ _ => pts_nil) (fun _ _ _ _ _ => (pe_un un_neg (pv 7)))) pa_nil))))
 pss_nil)
 (pss_one (ps_ret (pv 2)))))), ?_⟩
    refine ⟨_, rfl, show 3 ≤ sizeLine by decide, fun t0 ht0 => ⟨_, rfl, show 3 ≤ sizeLine by decide, fun t1 ht1 => ⟨_, _, rfl, ?_⟩⟩⟩
    refine ⟨fun m σ H' => ∃ (to tn : Addr) (r0 x0 y0 r1 x1 y1 : Int) (mv : Option V), σ = [some (.int a), some (.int b), some (.ref to), some (.ref tn), mv, none, none, none] ∧ Ex H H' ∧ H' to = some (.tup [.int r0, .int x0, .int y0]) ∧ H' tn = some (.tup [.int r1, .int x1, .int y1]) ∧ CombW a b r0 x0 y0 r1 x1 y1 ∧ m = r1.natAbs,
      ⟨b.natAbs, t0, t1, a, 1, 0, b, 0, 1, none, rfl, (Ex.new ht0).trans (Ex.new ht1), Ex.new ht1 _ _ upd_same, upd_same, CombW.start ha hb, rfl⟩, ?_⟩
    rintro m σ H' ⟨to, tn, r0, x0, y0, r1, x1, y1, mv, rfl, e1, hto, htn, W, rfl⟩
    refine ⟨_, rfl, _, _, _, _, rfl, rfl, SqT.of htn, rfl, rfl, _, rfl, ?_⟩
    by_cases hz : r1 = 0
    · subst hz
      refine if_no (by simp) ?_
      refine ⟨_, rfl, _, _, _, _, rfl, rfl, SqT.of hto, rfl, _, _, rfl, rfl, _, rfl, ?_⟩
      by_cases hn : r0 < 0
      · refine if_so (decide_eq_true hn) ?_
        refine s_retU (xs := [.int (-r0), .int (-x0), .int (-y0)]) (eu_tuple ?_) fun t H2 ht e2 hT => q t H2 (-r0) (-x0) (-y0) (e1.trans e2) hT (Mt.Comb.neg W.ci hn) W.bx.1.neg W.bx.2.1.neg
        refine el_tup (xs := [.int r0, .int x0, .int y0]) (fun i => match i with | 0 => .int (-r0) | 1 => .int (-x0) | _ => .int (-y0)) (ev_var rfl) (SqT.of hto) (by simp) (fun x => rfl) (fun i x H1 e hx => ?_)
        match i, hx with
        | 0, hx => cases hx; exact ev_un (ev_var rfl) ru_neg
        | 1, hx => cases hx; exact ev_un (ev_var rfl) ru_neg
        | 2, hx => cases hx; exact ev_un (ev_var rfl) ru_neg
        | n + 3, hx => simp at hx
      · refine if_no (decide_eq_false hn) ?_
        exact ⟨_, rfl, q to H' r0 x0 y0 e1 hto (Mt.Comb.of W.ci (by omega)) W.bx.1 W.bx.2.1⟩
    · refine if_so (by simp [hz]) ?_
      refine ⟨fun σ' H2 => ∃ (to tn : Addr) (r0' x0' y0' r1' x1' y1' : Int) (mv : Option V), σ' = [some (.int a), some (.int b), some (.ref to), some (.ref tn), mv, none, none, none] ∧ Ex H H2 ∧ H2 to = some (.tup [.int r0', .int x0', .int y0']) ∧ H2 tn = some (.tup [.int r1', .int x1', .int y1']) ∧ CombW a b r0' x0' y0' r1' x1' y1' ∧ r1'.natAbs < r1.natAbs,
        fun σ' H2 ⟨to, tn, r0', x0', y0', r1', x1', y1', mv, e, a2, a3, a4, a5, a6⟩ => ⟨r1'.natAbs, a6, to, tn, r0', x0', y0', r1', x1', y1', mv, e, a2, a3, a4, a5, rfl⟩, ?_⟩
      refine ⟨_, rfl, _, _, _, _, rfl, rfl, SqT.of hto, rfl, _, rfl, _, _, _, _, rfl, rfl, SqT.of htn, rfl, _, _, rfl, rfl, W.b1.dok hz (by decide) (by decide), ?_⟩
      refine ⟨_, rfl, ?_⟩
      refine o_cons ?_
      refine eu_tuple (xs := [.int (r0 - r0.fdiv r1 * r1), .int (x0 - r0.fdiv r1 * x1), .int (y0 - r0.fdiv r1 * y1)]) ?_ H' (Ex.refl _) _ fun t H2 ht e2 hT => ?_
      · have bm : Bd 400 (r0.fdiv r1) := Nat.lt_of_le_of_lt (Int.natAbs_fdiv_le_natAbs r0 r1) W.b0
        refine el_zipT (xs := [.int r0, .int x0, .int y0]) (ys := [.int r1, .int x1, .int y1]) (fun i => match i with | 0 => .int (r0 - r0.fdiv r1 * r1) | 1 => .int (x0 - r0.fdiv r1 * x1) | _ => .int (y0 - r0.fdiv r1 * y1)) (ea_cons (ev_var rfl) (ea_cons (ev_var rfl) ea_nil)) (SqT.of hto) (SqT.of htn) rfl (by simp) (fun i x y H1 e hx hy T hT Q q => ?_)
        refine ⟨T, [x, y], rfl, SqT.of upd_same, rfl, x, [y], rfl, y, [], rfl, rfl, q _ _ (Ex.new hT) rfl ?_⟩
        match i, hx, hy with
        | 0, hx, hy => cases hx; cases hy; exact ev_op (ev_var rfl) (ev_op (ev_var rfl) (ev_var rfl) (rv_I (bm.ok W.b1 (by decide) (by decide) (by decide)))) rv_I0
        | 1, hx, hy => cases hx; cases hy; exact ev_op (ev_var rfl) (ev_op (ev_var rfl) (ev_var rfl) (rv_I (bm.ok W.bx.2.2.1 (by decide) (by decide) (by decide)))) rv_I0
        | 2, hx, hy => cases hx; cases hy; exact ev_op (ev_var rfl) (ev_op (ev_var rfl) (ev_var rfl) (rv_I (bm.ok W.bx.2.2.2 (by decide) (by decide) (by decide)))) rv_I0
        | n + 3, hx, _ => simp at hx
      · exact ⟨_, _, rfl, tn, t, r1, x1, y1, _, _, _, _, rfl, e1.trans e2, e2 _ _ htn, hT, W.step hz, (Mt.like_step hz).2⟩
end
end My
set_option maxHeartbeats 4000000
namespace My
open PySem L2 Lf Evl
abbrev tup2 (q : Int × Int) : HO := .tup [.int q.1, .int q.2]
def Bd2 (n : Nat) (q : Int × Int) : Prop := Bd n q.1 ∧ Bd n q.2
theorem Bd2.mono {n m : Nat} {q : Int × Int} (h : Bd2 n q) (hm : n ≤ m) : Bd2 m q := ⟨h.1.mono hm, h.2.mono hm⟩
def oV : Option Int → V
  | none => .non
  | some i => .int i
def stepOf (p o : Int × Int) : Int × Int := (o.1 / (Int.gcd p.1 o.1 : Int), p.1 / (Int.gcd p.1 o.1 : Int))
/-- what line_of says of two places -/
def spLine : Sp := fun vs H Q _ => ∃ (pa oa : Addr) (p o : Int × Int), vs = [.ref pa, .ref oa] ∧ H pa = some (tup2 p) ∧ H oa = some (tup2 o) ∧ Bd2 400 p ∧ Bd2 400 o ∧ ¬ (p.1 = 0 ∧ o.1 = 0) ∧
  (∀ H', Ex H H' → (∀ q, ¬ Mt.meets p o q) → ¬ (o.2 - p.2) % (Int.gcd p.1 o.1 : Int) = 0 → Q .non H') ∧
  (∀ t tq ts H' q0, Ex H H' → H' t = some (.tup [.ref tq, .ref ts]) → H' tq = some (tup2 q0) → H' ts = some (tup2 (stepOf p o)) → Mt.Line p o q0 (stepOf p o) → Bd2 1400 q0 → Bd2 400 (stepOf p o) → Q (.ref t) H')
def spAfter : Sp := fun vs H Q _ => ∃ (qa sa : Addr) (q st : Int × Int) (t : Int), vs = [.ref qa, .ref sa, .int t] ∧ H qa = some (tup2 q) ∧ H sa = some (tup2 st) ∧ Bd2 400 st ∧ Bd 5000 t ∧
  ∀ r H', Ex H H' → H' r = some (tup2 (Mt.after q st t)) → Q (.ref r) H'
abbrev endsT (e : Mt.Ends) : HO := .tup [oV e.1, oV e.2.1, .bl e.2.2]
def spEnds : Sp := fun vs H Q _ => ∃ (l1 l2 : Addr) (ns ms : List Int), vs = [.ref l1, .ref l2] ∧ H l1 = some (.lst (ns.map V.int)) ∧ H l2 = some (.lst (ms.map V.int)) ∧ ns.length = ms.length ∧ (∀ m ∈ ms, Bd 900 m) ∧
  ∀ r H', Ex H H' → H' r = some (endsT (Mt.ends (ns.zip ms))) → Q (.ref r) H'
theorem take_more {α : Type} : ∀ {l : List α} {i : Nat} {x : α}, l[i]? = some x → l.take (i + 1) = l.take i ++ [x]
  | [], i, x, h => by simp at h
  | a :: l, 0, x, h => by
    have e : a = x := Option.some.inj h
    subst e
    rfl
  | a :: l, i + 1, x, h => by
    have ih := take_more (l := l) (i := i) (x := x) h
    show a :: l.take (i + 1) = a :: l.take i ++ [x]
    rw [ih]
    rfl
theorem map_int_at {ns : List Int} {i : Nat} {x : V} (h : (ns.map V.int)[i]? = some x) : ∃ n, ns[i]? = some n ∧ x = V.int n := by
  rw [List.getElem?_map] at h
  cases e : ns[i]? with
  | none => rw [e] at h; cases h
  | some n => rw [e] at h; exact ⟨n, rfl, (Option.some.inj h).symm⟩
theorem nei_f {x y : Int} (h : x = y) : (!decide (V.int x = V.int y)) = false := by rw [h]; simp
theorem nei_t {x y : Int} (h : ¬ x = y) : (!decide (V.int x = V.int y)) = true := by simp [h]
theorem eqi_t {x y : Int} (h : x = y) : decide (V.int x = V.int y) = true := by rw [h]; simp
theorem eqi_f {x y : Int} (h : ¬ x = y) : decide (V.int x = V.int y) = false := by simp [h]
section
variable {P : Program} {w : World} {K : PySem.W.Frag} {mg : Str → Option Value} {base : Heap} {CN fI CA FE : Addr}
theorem ok_line_of (T : Txt P K mg CN fI CA FE) (D : Df K mg "line_of" s_line_of) (D_combination : DefOk P w K mg base CX0 1 "combination" ["one", "other"] spComb) : DefOk P w K mg base CX0 2 "line_of" ["place", "other"] spLine := by
  refine D.ok sc_line_of (fun _ _ _ _ _ _ us hl => match us, hl with | [_, _], _ => rfl) (fun vs H Q E h => ?_) (fun f cdv A outer s H vs Q E hr h => ?_)
  · obtain ⟨a, b, _, _, rfl, _⟩ := h
    rfl
  · obtain ⟨pa, oa, p, o, rfl, hp, ho, bp, bo, nz, q1, q2⟩ := h
    refine ⟨_, (pss_cons (ps_asg (pe_callD D_combination (hr.mono (by decide)) pass0 (pa_cons (pe_ix ix_tup (pv 0) pe_int (fun _ _ => rfl)) (pa_cons (pe_ix ix_tup (pv 1) pe_int (fun _ _ => rfl)) pa_nil))) (pg_tup (by rfl) (pgs_cons (pg_name (i := 2) sc_line_of.nd rfl (Or.inl rfl)) (pgs_cons (pg_name (i := 3) sc_line_of.nd rfl (Or.inl rfl)) (pgs_cons (pg_name (i := 4) sc_line_of.nd rfl (Or.inl rfl)) pgs_nil)))))
 (pss_cons (ps_set (i := 5) sc_line_of.nd rfl (Or.inl rfl) (pe_op op_sub (pe_ix ix_tup (pv 1) pe_int (fun _ _ => rfl)) (pe_ix ix_tup (pv 0) pe_int (fun _ _ => rfl))))
 (pss_cons (ps_if (pt_cmpR op_ne (pe_op op_mod (pv 5) (pv 2)) pe_int (nomark _))
 (pss_one (ps_ret pe_non))
 pss_nil)
 (pss_cons (ps_set (i := 6) sc_line_of.nd rfl (Or.inl rfl) (pe_op op_fdivW (pv 5) (pv 2)))
 (pss_one (ps_ret (pe_tup (pa_cons (pe_tup (pa_cons (pe_op op_mulW (pv 3) (pv 6)) (pa_cons (pe_op op_mulW (pe_un un_neg (pv 4)) (pv 6)) pa_nil))) (pa_cons (pe_tup (pa_cons (pe_op op_fdivW (pe_ix ix_tup (pv 1) pe_int (fun _ _ => rfl)) (pv 2)) (pa_cons (pe_op op_fdivW (pe_ix ix_tup (pv 0) pe_int (fun _ _ => rfl)) (pv 2)) pa_nil))) pa_nil))))))))), ?_⟩
    refine ⟨_, rfl, _, _, _, _, rfl, rfl, SqT.of hp, rfl, _, rfl, _, _, _, _, rfl, rfl, SqT.of ho, rfl, _, _, rfl, bp.1, bo.1, fun t H1 g x y e1 ht cb bx by_ => ?_⟩
    have g0 := cb.pos nz
    have hg := cb.gcd
    refine ⟨t, _, rfl, SqT.of ht, rfl, _, _, rfl, _, _, rfl, _, _, rfl, rfl, ?_⟩
    have hp1 := e1 _ _ hp
    have ho1 := e1 _ _ ho
    refine ⟨_, rfl, _, _, _, _, rfl, rfl, SqT.of ho1, rfl, _, rfl, _, _, _, _, rfl, rfl, SqT.of hp1, rfl, _, _, rfl, rfl, ?_⟩
    refine ⟨_, rfl, _, rfl, _, _, rfl, rfl, g0, rfl, _, rfl, ?_⟩
    by_cases hm : (o.2 - p.2) % g = 0
    · refine if_no (nei_f hm) ?_
      have ba : Bd 401 (o.2 - p.2) := bo.2.sub bp.2 (by decide)
      have bg : Bd 400 g := by
        unfold Bd
        rw [hg, Int.natAbs_natCast]
        by_cases z : p.1 = 0
        · have : o.1 ≠ 0 := fun y => nz ⟨z, y⟩
          have h1 : Int.gcd p.1 o.1 ≤ o.1.natAbs := Nat.le_of_dvd (Int.natAbs_pos.mpr this) (Nat.gcd_dvd_right _ _)
          exact Nat.lt_of_le_of_lt h1 bo.1
        · have h1 : Int.gcd p.1 o.1 ≤ p.1.natAbs := Nat.le_of_dvd (Int.natAbs_pos.mpr z) (Nat.gcd_dvd_left _ _)
          exact Nat.lt_of_le_of_lt h1 bp.1
      have dv : ∀ i : Int, CDivW i g := fun i => bg.dpos g0 (by decide) (by decide)
      refine ⟨_, rfl, _, rfl, _, _, rfl, rfl, dv _, ?_⟩
      have bm : Bd 401 ((o.2 - p.2) / g) := ba.div
      refine ⟨_, rfl, _, rfl, _, _, rfl, rfl, bx.ok bm (by decide) (by decide) (by decide), _, rfl, _, rfl, _, rfl, _, _, rfl, rfl, by_.neg.ok bm (by decide) (by decide) (by decide), show 2 ≤ sizeLine by decide, fun tq htq => ?_⟩
      refine ⟨_, rfl, _, _, _, _, rfl, rfl, SqT.of (Ex.new htq _ _ ho1), rfl, _, rfl, _, _, rfl, rfl, dv _, _, rfl, _, _, _, _, rfl, rfl, SqT.of (Ex.new htq _ _ hp1), rfl, _, rfl, _, _, rfl, rfl, dv _, show 2 ≤ sizeLine by decide, fun ts hts => ?_⟩
      refine ⟨show 2 ≤ sizeLine by decide, fun tt htt => ?_⟩
      have es : stepOf p o = (o.1 / g, p.1 / g) := by unfold stepOf; rw [hg]
      have ed : o.2 - p.2 = g * ((o.2 - p.2) / g) := by
        have := Int.mul_ediv_add_emod (o.2 - p.2) g
        omega
      have L := Mt.line_of (p := p) (o := o) cb g0 ed
      rw [← es] at L
      refine q2 tt tq ts _ (x * ((o.2 - p.2) / g), -y * ((o.2 - p.2) / g)) (((e1.trans (Ex.new htq)).trans (Ex.new hts)).trans (Ex.new htt)) upd_same (Ex.new htt _ _ (Ex.new hts _ _ upd_same)) ?_ L ⟨bx.mul bm (by decide), by_.neg.mul bm (by decide)⟩ ?_
      · rw [es]
        exact Ex.new htt _ _ upd_same
      · rw [es]
        exact ⟨bo.1.div, bp.1.div⟩
    · refine if_so (nei_t hm) ?_
      exact q1 H1 e1 (fun q => Mt.no_line cb hm) (by rw [← hg]; exact hm)
theorem ok_pair_after (T : Txt P K mg CN fI CA FE) (D : Df K mg "pair_after" s_pair_after) : DefOk P w K mg base CX0 1 "pair_after" ["pair", "step", "many"] spAfter := by
  refine D.ok sc_pair_after (fun _ _ _ _ _ _ us hl => match us, hl with | [_, _, _], _ => rfl) (fun vs H Q E h => ?_) (fun f cdv A outer s H vs Q E hr h => ?_)
  · obtain ⟨a, b, _, _, _, rfl, _⟩ := h
    rfl
  · obtain ⟨qa, sa, q, st, t, rfl, hq, hs, bs, bt, k⟩ := h
    refine ⟨_, (pss_one (ps_ret (pe_tup (pa_cons (pe_op op_add (pe_ix ix_tup (pv 0) pe_int (fun _ _ => rfl)) (pe_op op_mulW (pe_ix ix_tup (pv 1) pe_int (fun _ _ => rfl)) (pv 2))) (pa_cons (pe_op op_add (pe_ix ix_tup (pv 0) pe_int (fun _ _ => rfl)) (pe_op op_mulW (pe_ix ix_tup (pv 1) pe_int (fun _ _ => rfl)) (pv 2))) pa_nil))))), ?_⟩
    refine ⟨_, rfl, _, _, _, _, rfl, rfl, SqT.of hq, rfl, _, rfl, _, _, _, _, rfl, rfl, SqT.of hs, rfl, _, rfl, _, _, rfl, rfl, bs.1.ok bt (by decide) (by decide) (by decide), _, _, rfl, rfl, ?_⟩
    refine ⟨_, rfl, _, _, _, _, rfl, rfl, SqT.of hq, rfl, _, rfl, _, _, _, _, rfl, rfl, SqT.of hs, rfl, _, rfl, _, _, rfl, rfl, bs.2.ok bt (by decide) (by decide) (by decide), _, _, rfl, rfl, show 2 ≤ sizeLine by decide, fun r hr' => ?_⟩
    exact k r _ (Ex.new hr') upd_same
theorem ok_ends_of (T : Txt P K mg CN fI CA FE) (D : Df K mg "ends_of" s_ends_of) : DefOk P w K mg base CX0 1 "ends_of" ["values", "slopes"] spEnds := by
  refine D.ok sc_ends_of (fun _ _ _ _ _ _ us hl => match us, hl with | [_, _], _ => rfl) (fun vs H Q E h => ?_) (fun f cdv A outer s H vs Q E hr h => ?_)
  · obtain ⟨a, b, _, _, rfl, _⟩ := h
    rfl
  · obtain ⟨l1, l2, ns, ms, rfl, h1, h2, hl, bm, k⟩ := h
    refine ⟨_, (pss_cons (ps_asg (pe_tup (pa_cons pe_non (pa_cons pe_non (pa_cons pe_bl pa_nil)))) (pg_tup (by rfl) (pgs_cons (pg_name (i := 2) sc_ends_of.nd rfl (Or.inl rfl)) (pgs_cons (pg_name (i := 3) sc_ends_of.nd rfl (Or.inl rfl)) (pgs_cons (pg_name (i := 4) sc_ends_of.nd rfl (Or.inl rfl)) pgs_nil)))))
 (pss_cons (ps_for PassesOwn.never rfl (RZ.pi_zipA (by rfl) T.n_zip (pa_cons (pv 0) (pa_cons (pv 1) pa_nil))) (pg_tup (by rfl) (pgs_cons (pg_name (i := 5) sc_ends_of.nd rfl (Or.inl rfl)) (pgs_cons (pg_name (i := 6) sc_ends_of.nd rfl (Or.inl rfl)) pgs_nil)))
 (pss_one (ps_if (pt_cmpR op_gt (pv 6) pe_int (nomark _))
 (pss_cons (ps_set (i := 7) sc_ends_of.nd rfl (Or.inl rfl) (pe_un un_neg (pe_op op_fdivW (pv 5) (pv 6))))
 (pss_one (ps_set (i := 2) sc_ends_of.nd rfl (Or.inl rfl) (pe_ifExp (pt_cmpR op_isN (pv 2) pe_non (nomark _)) (pv 7) (pe_callB (call_max2 rfl) (by rfl) T.n_max (by decide +kernel) (pa_cons (pv 2) (pa_cons (pv 7) pa_nil)))))))
 (pss_one (ps_if (pt_cmpR op_lt (pv 6) pe_int (nomark _))
 (pss_cons (ps_set (i := 7) sc_ends_of.nd rfl (Or.inl rfl) (pe_op op_fdivW (pv 5) (pe_un un_neg (pv 6))))
 (pss_one (ps_set (i := 3) sc_ends_of.nd rfl (Or.inl rfl) (pe_ifExp (pt_cmpR op_isN (pv 3) pe_non (nomark _)) (pv 7) (pe_callB (call_min2 rfl) (by rfl) T.n_min (by decide +kernel) (pa_cons (pv 3) (pa_cons (pv 7) pa_nil)))))))
 (pss_one (ps_if (pt_cmpR op_lt (pv 5) pe_int (nomark _))
 (pss_one (ps_set (i := 4) sc_ends_of.nd rfl (Or.inl rfl) pe_bl))
 pss_nil)))))))
 (pss_one (ps_ret (pe_tup (pa_cons (pv 2) (pa_cons (pv 3) (pa_cons (pv 4) pa_nil)))))))), ?_⟩
    refine ⟨show 3 ≤ sizeLine by decide, fun t0 ht0 => ⟨t0, _, rfl, SqT.of upd_same, rfl, _, _, rfl, _, _, rfl, _, _, rfl, rfl, ?_⟩⟩
    have e0 : Ex H (upd H t0 (.tup [.non, .non, .bl false])) := Ex.new ht0
    refine ⟨_, rfl, _, rfl, l1, l2, _, _, rfl, .inl ⟨SqL.of (e0 _ _ h1), SqL.of (e0 _ _ h2), RZ.for_zipL (K := K) (a := l1) (b := l2) (xs := ns.map V.int) (ys := ms.map V.int) (by rw [List.length_map, List.length_map, hl])
      (fun i σ H' => ∃ vv sv bv : Option V, σ = [some (.ref l1), some (.ref l2), some (oV (Mt.ends ((ns.zip ms).take i)).1), some (oV (Mt.ends ((ns.zip ms).take i)).2.1), some (.bl (Mt.ends ((ns.zip ms).take i)).2.2), vv, sv, bv] ∧ Ex H H')
      ⟨none, none, none, rfl, e0⟩ (fun i σ H' ⟨_, _, _, _, e⟩ => ⟨SqL.of (e _ _ h1), SqL.of (e _ _ h2)⟩) ?_ ?_⟩⟩
    · rintro i x y T' σ H' hx hy ⟨vv, sv, bv, rfl, e1⟩ hT
      obtain ⟨v, hv, rfl⟩ := map_int_at hx
      obtain ⟨s, hs, rfl⟩ := map_int_at hy
      have bs : Bd 900 s := bm s (List.mem_of_getElem? hs)
      have hz : (ns.zip ms)[i]? = some (v, s) := by rw [List.getElem?_zip_eq_some]; exact ⟨hv, hs⟩
      have en : Mt.ends ((ns.zip ms).take (i + 1)) = Mt.endStep (Mt.ends ((ns.zip ms).take i)) v s := by rw [take_more hz]; exact Mt.endsFrom_snoc _ _ _
      generalize Mt.ends ((ns.zip ms).take i) = e0 at en
      have e2 : Ex H (upd H' T' (.tup [.int v, .int s])) := e1.trans (Ex.new hT)
      obtain ⟨f, l, c⟩ := e0
      refine ⟨T', _, rfl, SqT.of upd_same, rfl, _, _, rfl, _, _, rfl, rfl, ?_⟩
      refine ⟨_, rfl, _, _, rfl, rfl, _, rfl, ?_⟩
      rw [en]
      unfold Mt.endStep
      by_cases c1 : 0 < s
      · refine if_so (decide_eq_true c1) ?_
        rw [if_pos c1]
        refine ⟨_, rfl, _, rfl, _, _, rfl, rfl, bs.dpos c1 (by decide) (by decide), _, rfl, ?_⟩
        refine ⟨_, rfl, rfl, _, rfl, ?_⟩
        cases f with
        | none => exact if_so (decide_eq_true rfl) ⟨_, rfl, _, _, _, rfl, e2⟩
        | some f => exact if_no (decide_eq_false (fun z => by cases z)) ⟨_, rfl, _, rfl, _, _, rfl, _, _, _, rfl, e2⟩
      · refine if_no (decide_eq_false c1) ?_
        rw [if_neg c1]
        refine ⟨_, rfl, _, _, rfl, rfl, _, rfl, ?_⟩
        by_cases c2 : s < 0
        · refine if_so (decide_eq_true c2) ?_
          rw [if_pos c2]
          refine ⟨_, rfl, _, rfl, _, rfl, _, _, rfl, rfl, bs.neg.dpos (by omega) (by decide) (by decide), ?_⟩
          refine ⟨_, rfl, rfl, _, rfl, ?_⟩
          cases l with
          | none => exact if_so (decide_eq_true rfl) ⟨_, rfl, _, _, _, rfl, e2⟩
          | some l => exact if_no (decide_eq_false (fun z => by cases z)) ⟨_, rfl, _, rfl, _, _, rfl, _, _, _, rfl, e2⟩
        · refine if_no (decide_eq_false c2) ?_
          rw [if_neg c2]
          refine ⟨_, rfl, _, _, rfl, rfl, _, rfl, ?_⟩
          by_cases c3 : v < 0
          · refine if_so (decide_eq_true c3) ?_
            rw [if_pos c3]
            exact ⟨_, _, _, rfl, e2⟩
          · refine if_no (decide_eq_false c3) ?_
            rw [if_neg c3]
            exact ⟨_, _, _, rfl, e2⟩
    · rintro σ H' ⟨vv, sv, bv, rfl, e1⟩
      have hlen : (ns.map V.int).length = (ns.zip ms).length := by rw [List.length_map, List.length_zip, hl, Nat.min_self]
      rw [hlen, List.take_length]
      exact ⟨_, rfl, _, rfl, _, rfl, show 3 ≤ sizeLine by decide, fun r hr' => k r _ (e1.trans (Ex.new hr')) upd_same⟩
end
end My
set_option maxHeartbeats 4000000
namespace My
open PySem L2 Lf Evl
abbrev s_Meetings___init__ : Stmt := inClass (top 19) 0
theorem sc_Meetings___init__ : FnScope ["self", "place", "other", "low", "high", "first", "rounds", "line"] ["self", "place", "other", "low", "high", "first", "rounds"] (defScope s_Meetings___init__) := ⟨rfl, rfl, rfl, by decide +kernel, rfl, by decide +kernel, by decide +kernel⟩
abbrev s_Meetings_spares_at : Stmt := inClass (top 19) 1
theorem sc_Meetings_spares_at : FnScope ["self", "pair", "distance", "found"] ["self", "pair"] (defScope s_Meetings_spares_at) := ⟨rfl, rfl, rfl, by decide +kernel, rfl, by decide +kernel, by decide +kernel⟩
abbrev s_Meetings_slopes : Stmt := inClass (top 19) 2
theorem sc_Meetings_slopes : FnScope ["self", "one", "two", "found"] ["self"] (defScope s_Meetings_slopes) := ⟨rfl, rfl, rfl, by decide +kernel, rfl, by decide +kernel, by decide +kernel⟩
def Great (i : Int) : Prop := -great < i ∧ i < great
theorem great_le : great ≤ 2 ^ 400 := by decide +kernel
theorem Great.bd {i : Int} (h : Great i) : Bd 400 i := by
  unfold Bd
  obtain ⟨h1, h2⟩ := h
  have := great_le
  have e : ((2 : Nat) ^ 400 : Int) = (2 : Int) ^ 400 := by decide +kernel
  omega
theorem bd_great {n : Nat} {i : Int} (h : Bd n i) (hn : n ≤ 300) : Great i := by
  have h' := Bd.mono h hn
  unfold Bd at h'
  have e : ((2 : Nat) ^ 300 : Int) ≤ great := by decide +kernel
  unfold Great
  omega
def spGreat : Sp := fun vs H Q _ => ∃ i : Int, vs = [.int i] ∧ Great i ∧ Q (.bl true) H
def spCount : Sp := fun vs H Q _ => ∃ i : Int, vs = [.int i] ∧ Great i ∧ 0 ≤ i ∧ Q (.bl true) H
/-- a value that is no pair of ints -/
inductive NoPair (H : Hp) : V → Prop
  | kind {v : V} {t : String} (k : Kd H v t) (h : (t == "tuple") = false) : NoPair H v
  | len {a : Addr} {xs : List V} (e : H a = some (.tup xs)) (h : ¬ xs.length = 2) : NoPair H (.ref a)
  | num {a : Addr} {x y : V} {t : String} (e : H a = some (.tup [x, y])) (k : Kd H x t) (h : numV x = false) : NoPair H (.ref a)
def spPair : Sp := fun vs H Q _ => (∃ (a : Addr) (q : Int × Int), vs = [.ref a] ∧ H a = some (tup2 q) ∧ Q (.bl true) H) ∨ ∃ v, vs = [v] ∧ NoPair H v ∧ Q (.bl false) H
def spReqPlace : Sp := fun vs H Q _ => ∃ (a : Addr) (q : Int × Int), vs = [.ref a] ∧ H a = some (tup2 q) ∧ Great q.1 ∧ Great q.2 ∧ Q .non H
def spReqCount : Sp := fun vs H Q _ => ∃ i : Int, vs = [.int i] ∧ Great i ∧ 0 ≤ i ∧ Q .non H
/-- what spares_at and slopes read -/
structure BndAt (fs : List (Str × V)) (b : Mt.Bnd) : Prop where
  lo : fs.lookup ("low" : Str) = some (.int b.low)
  hi : fs.lookup ("high" : Str) = some (oV b.high)
  fi : fs.lookup ("first" : Str) = some (.int b.first)
  ro : fs.lookup ("rounds" : Str) = some (oV b.rounds)
def spSpares (C : Addr) : Sp := fun vs H Q _ => ∃ (m qa dx : Addr) (fs : List (Str × V)) (q : Int × Int) (b : Mt.Bnd), vs = [.ref m, .ref qa] ∧ H m = some (.ins C dx fs) ∧ BndAt fs b ∧ H qa = some (tup2 q) ∧
  ∀ l H', H l = none → Ex H H' → H' l = some (.lst ((Mt.spares b q).map V.int)) → Q (.ref l) H'
def spSlopes (C : Addr) : Sp := fun vs H Q _ => ∃ (m dx la qa sa : Addr) (fs : List (Str × V)) (st : Int × Int) (b : Mt.Bnd), vs = [.ref m] ∧ H m = some (.ins C dx fs) ∧ BndAt fs b ∧ fs.lookup ("own_line" : Str) = some (.ref la) ∧ H la = some (.tup [.ref qa, .ref sa]) ∧ H sa = some (tup2 st) ∧
  ∀ l H', H l = none → Ex H H' → H' l = some (.lst ((Mt.slopes b st).map V.int)) → Q (.ref l) H'
section
variable {P : Program} {w : World} {K : PySem.W.Frag} {mg : Str → Option Value} {base : Heap} {CN fI CA FE : Addr}
theorem ok_is_great (T : Txt P K mg CN fI CA FE) (D : Df K mg "is_great" s_is_great) (D_is_number : DefOk P w K mg base CX0 1 "is_number" ["value"] spIsNumber) : DefOk P w K mg base CX0 2 "is_great" ["value"] spGreat := by
  refine D.ok sc_is_great (fun _ _ _ _ _ _ us hl => match us, hl with | [_], _ => rfl) (fun vs H Q E h => ?_) (fun f cdv A outer s H vs Q E hr h => ?_)
  · obtain ⟨v, rfl, _⟩ := h
    rfl
  · obtain ⟨i, rfl, ⟨h1, h2⟩, q⟩ := h
    refine ⟨_, (pss_one (ps_ret (pe_and (pe_callD D_is_number (hr.mono (by decide)) pass0 (pa_cons (pv 0) pa_nil)) (pe_one (pe_chain op_lt op_lt (pe_un un_neg (pe_gInt (by rfl) T.g_GREAT)) (pv 0) (pe_gInt (by rfl) T.g_GREAT)))))), ?_⟩
    refine ⟨_, rfl, _, _, rfl, .int i, _, rfl, if_so rfl ⟨_, rfl, _, rfl, _, _, rfl, rfl, _, rfl, if_so (decide_eq_true h1) ⟨_, _, rfl, rfl, ?_⟩⟩⟩
    show Q (.bl (decide (i < great))) H
    rw [decide_eq_true h2]
    exact q
theorem ok_is_count (T : Txt P K mg CN fI CA FE) (D : Df K mg "is_count" s_is_count) (D_is_great : DefOk P w K mg base CX0 2 "is_great" ["value"] spGreat) : DefOk P w K mg base CX0 3 "is_count" ["value"] spCount := by
  refine D.ok sc_is_count (fun _ _ _ _ _ _ us hl => match us, hl with | [_], _ => rfl) (fun vs H Q E h => ?_) (fun f cdv A outer s H vs Q E hr h => ?_)
  · obtain ⟨v, rfl, _⟩ := h
    rfl
  · obtain ⟨i, rfl, hg, h0, q⟩ := h
    refine ⟨_, (pss_one (ps_ret (pe_and (pe_callD D_is_great (hr.mono (by decide)) pass0 (pa_cons (pv 0) pa_nil)) (pe_one (pe_cmpR op_ge (pv 0) pe_int (nomark _)))))), ?_⟩
    refine ⟨_, rfl, _, rfl, hg, _, rfl, if_so rfl ⟨_, rfl, _, _, rfl, rfl, ?_⟩⟩
    show Q (.bl (decide (0 ≤ i))) H
    rw [decide_eq_true h0]
    exact q
theorem ok_is_pair (T : Txt P K mg CN fI CA FE) (D : Df K mg "is_pair" s_is_pair) (D_is_number : DefOk P w K mg base CX0 1 "is_number" ["value"] spIsNumber) : DefOk P w K mg base CX0 2 "is_pair" ["value"] spPair := by
  refine D.ok sc_is_pair (fun _ _ _ _ _ _ us hl => match us, hl with | [_], _ => rfl) (fun vs H Q E h => ?_) (fun f cdv A outer s H vs Q E hr h => ?_)
  · rcases h with ⟨v, _, rfl, _⟩ | ⟨v, rfl, _⟩
    · rfl
    · rfl
  · rcases h with ⟨a, p, rfl, e, q⟩ | ⟨v, rfl, np, q⟩
    rotate_left
    · refine ⟨_, (pss_one (ps_ret (pe_and (pe_callB call_isi (by rfl) T.n_isinstance (by decide +kernel) (pa_cons (pv 0) (pa_cons (pe_bltn (v := .ty "tuple") (by rfl) T.n_tuple (by decide +kernel) rfl) pa_nil))) (pe_and (pe_cmpR op_eq (pe_callB call_len_seq (by rfl) T.n_len (by decide +kernel) (pa_cons (pv 0) pa_nil)) pe_int (nomark _)) (pe_and (pe_callD D_is_number (hr.mono (by decide)) pass0 (pa_cons (pe_ix ix_tup (pv 0) pe_int (fun _ _ => rfl)) pa_nil)) (pe_one (pe_callD D_is_number (hr.mono (by decide)) pass0 (pa_cons (pe_ix ix_tup (pv 0) pe_int (fun _ _ => rfl)) pa_nil)))))))), ?_⟩
      cases np with
      | kind k h =>
        refine ⟨_, rfl, _, _, _, _, _, rfl, .ty "tuple", k.ty K, kit_ty k.tuple_, _, rfl, ?_⟩
        exact if_no h q
      | len e h =>
        refine ⟨_, rfl, _, _, _, _, _, rfl, .ty "tuple", (Kd.tup e).ty K, kit_ty (Kd.tup e).tuple_, _, rfl, ?_⟩
        refine if_so rfl ⟨_, rfl, _, _, rfl, .inr (SqT.of e), rfl, _, rfl, if_no (eqi_f fun z => h (by omega)) ?_⟩
        exact q
      | num e k h =>
        refine ⟨_, rfl, _, _, _, _, _, rfl, .ty "tuple", (Kd.tup e).ty K, kit_ty (Kd.tup e).tuple_, _, rfl, ?_⟩
        refine if_so rfl ⟨_, rfl, _, _, rfl, .inr (SqT.of e), rfl, _, rfl, ?_⟩
        refine if_so (decide_eq_true rfl) ?_
        refine ⟨_, rfl, _, _, _, _, rfl, rfl, SqT.of e, rfl, _, _, rfl, k, _, rfl, if_no h ?_⟩
        exact q
    refine ⟨_, (pss_one (ps_ret (pe_and (pe_callB call_isi (by rfl) T.n_isinstance (by decide +kernel) (pa_cons (pv 0) (pa_cons (pe_bltn (v := .ty "tuple") (by rfl) T.n_tuple (by decide +kernel) rfl) pa_nil))) (pe_and (pe_cmpR op_eq (pe_callB call_len_seq (by rfl) T.n_len (by decide +kernel) (pa_cons (pv 0) pa_nil)) pe_int (nomark _)) (pe_and (pe_callD D_is_number (hr.mono (by decide)) pass0 (pa_cons (pe_ix ix_tup (pv 0) pe_int (fun _ _ => rfl)) pa_nil)) (pe_one (pe_callD D_is_number (hr.mono (by decide)) pass0 (pa_cons (pe_ix ix_tup (pv 0) pe_int (fun _ _ => rfl)) pa_nil)))))))), ?_⟩
    refine ⟨_, rfl, _, _, _, _, _, rfl, .ty "tuple", (Kd.tup e).ty K, kit_ty (Kd.tup e).tuple_, _, rfl, ?_⟩
    refine if_so rfl ⟨_, rfl, _, _, rfl, .inr (SqT.of e), rfl, _, rfl, ?_⟩
    refine if_so (decide_eq_true rfl) ?_
    refine ⟨_, rfl, _, _, _, _, rfl, rfl, SqT.of e, rfl, _, _, rfl, .int _, _, rfl, if_so rfl ?_⟩
    exact ⟨_, rfl, _, _, _, _, rfl, rfl, SqT.of e, rfl, _, _, rfl, .int _, q⟩
theorem ok_require_great_place (T : Txt P K mg CN fI CA FE) (D : Df K mg "require_great_place" s_require_great_place) (D_is_pair : DefOk P w K mg base CX0 2 "is_pair" ["value"] spPair) (D_is_great : DefOk P w K mg base CX0 2 "is_great" ["value"] spGreat) :
    DefOk P w K mg base (L2.CX P w) 3 "require_great_place" ["value"] spReqPlace := by
  refine D.okX sc_require_great_place (fun _ _ _ _ _ _ us hl => match us, hl with | [_], _ => rfl) (fun vs H Q E h => ?_) (fun f cdv A outer s H vs Q E hr h => ?_)
  · obtain ⟨v, _, rfl, _⟩ := h
    rfl
  · obtain ⟨a, p, rfl, e, g1, g2, q⟩ := h
    refine ⟨_, (pss_one (ps_if (PW.pt (pw_or (pt_not (pt_val (pe_callD D_is_pair (hr.mono (by decide)) pass0 (pa_cons (pv 0) pa_nil)))) (pw_or (pt_not (pt_val (pe_callD D_is_great (hr.mono (by decide)) pass0 (pa_cons (pe_ix ix_tup (pv 0) pe_int (fun _ _ => rfl)) pa_nil)))) (pw_or1 (pt_not (pt_val (pe_callD D_is_great (hr.mono (by decide)) pass0 (pa_cons (pe_ix ix_tup (pv 0) pe_int (fun _ _ => rfl)) pa_nil))))))))
 (pss_one (ps_raise rfl (takes_of rfl rfl rfl rfl) (pmk_own PySem.F.excBase_ValueError T.xA T.gA T.kA (raises_own T.bA T.tA) rfl)))
 pss_nil)), ?_⟩
    refine ⟨_, rfl, .inl ⟨_, _, rfl, e, _, rfl, if_no rfl ?_⟩⟩
    refine ⟨_, rfl, _, _, _, _, rfl, rfl, SqT.of e, rfl, _, rfl, g1, _, rfl, if_no rfl ?_⟩
    exact ⟨_, rfl, _, _, _, _, rfl, rfl, SqT.of e, rfl, _, rfl, g2, _, rfl, if_no rfl q⟩
theorem ok_require_count (T : Txt P K mg CN fI CA FE) (D : Df K mg "require_count" s_require_count) (D_is_count : DefOk P w K mg base CX0 3 "is_count" ["value"] spCount) : DefOk P w K mg base (L2.CX P w) 4 "require_count" ["value"] spReqCount := by
  refine D.okX sc_require_count (fun _ _ _ _ _ _ us hl => match us, hl with | [_], _ => rfl) (fun vs H Q E h => ?_) (fun f cdv A outer s H vs Q E hr h => ?_)
  · obtain ⟨v, rfl, _⟩ := h
    rfl
  · obtain ⟨i, rfl, hg, h0, q⟩ := h
    refine ⟨_, (pss_one (ps_if (pt_not (pt_val (pe_callD D_is_count (hr.mono (by decide)) pass0 (pa_cons (pv 0) pa_nil))))
 (pss_one (ps_raise rfl (takes_of rfl rfl rfl rfl) (pmk_x T.num PySem.F.excBase_RuntimeError PySem.W.kxs_RuntimeError hr (pa_cons (pv 0) pa_nil))))
 pss_nil)), ?_⟩
    exact ⟨_, rfl, _, rfl, hg, h0, _, rfl, if_no rfl q⟩
theorem ok_spares_at (T : Txt P K mg CN fI CA FE) (D : Dm K FE "spares_at" "Meetings.spares_at" s_Meetings_spares_at) : MethOk P w K mg base CX0 1 FE "spares_at" ["self", "pair"] (spSpares FE) := by
  refine D.ok sc_Meetings_spares_at (fun _ _ _ _ _ _ us hl => match us, hl with | [_, _], _ => rfl) (fun vs H Q E h => ?_) (fun f cdv A outer s H vs Q E hr h => ?_)
  · obtain ⟨_, _, _, _, _, _, rfl, _⟩ := h
    rfl
  · obtain ⟨m, qa, dx, fs, q, b, rfl, hm, B, hq, k⟩ := h
    obtain ⟨n1, n2, n3, n4, n5, n6, n7, n8, n9⟩ := T.nf
    refine ⟨_, (pss_cons (ps_set (i := 2) sc_Meetings_spares_at.nd rfl (Or.inl rfl) (pe_op op_sub (pe_ix ix_tup (pv 1) pe_int (fun _ _ => rfl)) (pe_ix ix_tup (pv 1) pe_int (fun _ _ => rfl))))
 (pss_cons (ps_set (i := 3) sc_Meetings_spares_at.nd rfl (Or.inl rfl) (pe_lst (pa_cons (pe_op op_sub (pe_ix ix_tup (pv 1) pe_int (fun _ _ => rfl)) (pe_fld (pv 0) rfl)) (pa_cons (pe_op op_sub (pv 2) (pe_fld (pv 0) rfl)) pa_nil))))
 (pss_cons (ps_if (pt_cmpR op_notN (pe_fld (pv 0) rfl) pe_non (nomark _))
 (pss_one (ps_expr (pe_bm PySem.F.plainAttrs_list PySem.F.slot_list_append PySem.F.type_list_append mt_append (pv 3) (pa_cons (pe_op op_sub (pe_fld (pv 0) rfl) (pv 2)) pa_nil))))
 pss_nil)
 (pss_cons (ps_if (pt_cmpR op_notN (pe_fld (pv 0) rfl) pe_non (nomark _))
 (pss_one (ps_expr (pe_bm PySem.F.plainAttrs_list PySem.F.slot_list_append PySem.F.type_list_append mt_append (pv 3) (pa_cons (pe_op op_sub (pe_op op_sub (pe_fld (pv 0) rfl) pe_int) (pe_ix ix_tup (pv 1) pe_int (fun _ _ => rfl))) pa_nil))))
 pss_nil)
 (pss_one (ps_ret (pv 3))))))), ?_⟩
    refine ⟨_, rfl, _, _, _, _, rfl, rfl, SqT.of hq, rfl, _, rfl, _, _, _, _, rfl, rfl, SqT.of hq, rfl, _, _, rfl, rfl, ?_⟩
    refine ⟨_, rfl, _, _, _, _, rfl, rfl, SqT.of hq, rfl, _, rfl, m, FE, dx, fs, V.int b.first, rfl, hm, T.c_Met, n5, B.fi, _, _, rfl, rfl, _, rfl, _, rfl, m, FE, dx, fs, V.int b.low, rfl, hm, T.c_Met, n3, B.lo, _, _, rfl, rfl, show 2 ≤ sizeLine by decide, fun l hl => ?_⟩
    have nml : m ≠ l := ne_of_none hm hl
    have nql : qa ≠ l := ne_of_none hq hl
    -- the third and the fourth spare
    have fin : ∀ (xs : List Int) (H1 : Hp), Ex H H1 → H1 l = some (.lst (xs.map V.int)) → xs ++ (match b.rounds with | none => [] | some n => [n - 1 - q.2]) = Mt.spares b q → xs.length ≤ 3 →
        tSeq (tIfS (tTest (tOp (fun x y H Q => y = .non ∧ Q (.bl (!decide (x = .non))) H) (tFld K (tVar 0) "rounds") (tC .non))) (tDrop (tBM K "list" rAppend (tVar 3) (tCons (tOp (rI0 fun i j => .int (i - j)) (tOp (rI0 fun i j => .int (i - j)) (tFld K (tVar 0) "rounds") (tC (.int 1))) (tOp (rIxT K) (tVar 1) (tC (.int 1)))) tNil))) tNext) (tRet (tVar 3))
          { nx := fun _ H' => Q .non H', rt := Q } [some (.ref m), some (.ref qa), some (.int (q.2 - q.1)), some (.ref l)] H1 := by
      intro xs H1 e1 hL hx hn
      have hm1 := e1 _ _ hm
      refine ⟨_, rfl, m, FE, dx, fs, _, rfl, hm1, T.c_Met, n6, B.ro, rfl, _, rfl, ?_⟩
      cases hr0 : b.rounds with
      | none =>
        rw [hr0] at hx
        refine if_no rfl ⟨_, rfl, k l H1 hl e1 ?_⟩
        rw [hL, ← hx, List.append_nil]
      | some n =>
        rw [hr0] at hx
        refine if_so rfl ?_
        refine ⟨_, rfl, .inl ⟨rfl, _, SqL.of hL⟩, _, rfl, m, FE, dx, fs, _, rfl, hm1, T.c_Met, n6, (by rw [B.ro, hr0]; rfl), _, _, rfl, rfl, _, rfl, _, _, _, _, rfl, rfl, SqT.of (e1 _ _ hq), rfl, _, _, rfl, rfl, l, _, _, rfl, rfl, hL, ?_, ?_⟩
        · rw [List.length_map]
          exact Nat.lt_of_le_of_lt hn (show 3 < sizeLine by decide)
        · refine ⟨_, rfl, k l _ hl (Ex.mut e1 hl) ?_⟩
          rw [upd_same, ← hx, List.map_append]
          rfl
    have e0 : Ex H (upd H l (.lst [.int (q.1 - b.first), .int (q.2 - q.1 - b.low)])) := Ex.new hl
    refine ⟨_, rfl, m, FE, dx, fs, _, rfl, e0 _ _ hm, T.c_Met, n4, B.hi, rfl, _, rfl, ?_⟩
    cases hh0 : b.high with
    | none =>
      refine if_no rfl ?_
      exact fin [q.1 - b.first, q.2 - q.1 - b.low] _ e0 upd_same (by unfold Mt.spares; rw [hh0]; rfl) (by simp)
    | some hv =>
      refine if_so rfl ?_
      refine ⟨_, rfl, .inl ⟨rfl, _, SqL.of upd_same⟩, _, rfl, m, FE, dx, fs, _, rfl, e0 _ _ hm, T.c_Met, n4, (by rw [B.hi, hh0]; rfl), _, rfl, _, _, rfl, rfl, l, _, _, rfl, rfl, upd_same, show 2 < sizeLine by decide, ?_⟩
      exact fin [q.1 - b.first, q.2 - q.1 - b.low, hv - (q.2 - q.1)] _ (Ex.mut e0 hl) upd_same (by unfold Mt.spares; rw [hh0]; rfl) (by simp)
theorem ok_slopes (T : Txt P K mg CN fI CA FE) (D : Dm K FE "slopes" "Meetings.slopes" s_Meetings_slopes) : MethOk P w K mg base CX0 1 FE "slopes" ["self"] (spSlopes FE) := by
  refine D.ok sc_Meetings_slopes (fun _ _ _ _ _ _ us hl => match us, hl with | [_], _ => rfl) (fun vs H Q E h => ?_) (fun f cdv A outer s H vs Q E hr h => ?_)
  · obtain ⟨_, _, _, _, _, _, _, _, rfl, _⟩ := h
    rfl
  · obtain ⟨m, dx, la, qa, sa, fs, st, b, rfl, hm, B, hl0, hla, hsa, k⟩ := h
    obtain ⟨n1, n2, n3, n4, n5, n6, n7, n8, n9⟩ := T.nf
    refine ⟨_, (pss_cons (ps_asg (pe_ix ix_tup (pe_fld (pv 0) rfl) pe_int (fun _ _ => rfl)) (pg_tup (by rfl) (pgs_cons (pg_name (i := 1) sc_Meetings_slopes.nd rfl (Or.inl rfl)) (pgs_cons (pg_name (i := 2) sc_Meetings_slopes.nd rfl (Or.inl rfl)) pgs_nil))))
 (pss_cons (ps_set (i := 3) sc_Meetings_slopes.nd rfl (Or.inl rfl) (pe_lst (pa_cons (pv 1) (pa_cons (pe_op op_sub (pv 2) (pv 1)) pa_nil))))
 (pss_cons (ps_if (pt_cmpR op_notN (pe_fld (pv 0) rfl) pe_non (nomark _))
 (pss_one (ps_expr (pe_bm PySem.F.plainAttrs_list PySem.F.slot_list_append PySem.F.type_list_append mt_append (pv 3) (pa_cons (pe_op op_sub (pv 1) (pv 2)) pa_nil))))
 pss_nil)
 (pss_cons (ps_if (pt_cmpR op_notN (pe_fld (pv 0) rfl) pe_non (nomark _))
 (pss_one (ps_expr (pe_bm PySem.F.plainAttrs_list PySem.F.slot_list_append PySem.F.type_list_append mt_append (pv 3) (pa_cons (pe_un un_neg (pv 2)) pa_nil))))
 pss_nil)
 (pss_one (ps_ret (pv 3))))))), ?_⟩
    refine ⟨_, rfl, m, FE, dx, fs, _, rfl, hm, T.c_Met, n7, hl0, _, _, _, _, rfl, rfl, SqT.of hla, rfl, sa, _, rfl, SqT.of hsa, rfl, _, _, rfl, _, _, rfl, rfl, ?_⟩
    refine ⟨_, rfl, _, rfl, _, rfl, _, _, rfl, rfl, show 2 ≤ sizeLine by decide, fun l hl => ?_⟩
    have fin : ∀ (xs : List Int) (H1 : Hp), Ex H H1 → H1 l = some (.lst (xs.map V.int)) → xs ++ (match b.rounds with | none => [] | some n => [-st.2]) = Mt.slopes b st → xs.length ≤ 3 →
        tSeq (tIfS (tTest (tOp (fun x y H Q => y = .non ∧ Q (.bl (!decide (x = .non))) H) (tFld K (tVar 0) "rounds") (tC .non))) (tDrop (tBM K "list" rAppend (tVar 3) (tCons (tUn (rU fun i => .int (-i)) (tVar 2)) tNil))) tNext) (tRet (tVar 3))
          { nx := fun _ H' => Q .non H', rt := Q } [some (.ref m), some (.int st.1), some (.int st.2), some (.ref l)] H1 := by
      intro xs H1 e1 hL hx hn
      have hm1 := e1 _ _ hm
      refine ⟨_, rfl, m, FE, dx, fs, _, rfl, hm1, T.c_Met, n6, B.ro, rfl, _, rfl, ?_⟩
      cases hr0 : b.rounds with
      | none =>
        rw [hr0] at hx
        refine if_no rfl ⟨_, rfl, k l H1 hl e1 ?_⟩
        rw [hL, ← hx, List.append_nil]
      | some n =>
        rw [hr0] at hx
        refine if_so rfl ?_
        refine ⟨_, rfl, .inl ⟨rfl, _, SqL.of hL⟩, _, rfl, _, rfl, l, _, _, rfl, rfl, hL, ?_, ?_⟩
        · rw [List.length_map]
          exact Nat.lt_of_le_of_lt hn (show 3 < sizeLine by decide)
        · refine ⟨_, rfl, k l _ hl (Ex.mut e1 hl) ?_⟩
          rw [upd_same, ← hx, List.map_append]
          rfl
    have e0 : Ex H (upd H l (.lst [.int st.1, .int (st.2 - st.1)])) := Ex.new hl
    refine ⟨_, rfl, m, FE, dx, fs, _, rfl, e0 _ _ hm, T.c_Met, n4, B.hi, rfl, _, rfl, ?_⟩
    cases hh0 : b.high with
    | none =>
      refine if_no rfl ?_
      exact fin [st.1, st.2 - st.1] _ e0 upd_same (by unfold Mt.slopes; rw [hh0]; rfl) (by simp)
    | some hv =>
      refine if_so rfl ?_
      refine ⟨_, rfl, .inl ⟨rfl, _, SqL.of upd_same⟩, _, rfl, _, rfl, _, _, rfl, rfl, l, _, _, rfl, rfl, upd_same, show 2 < sizeLine by decide, ?_⟩
      exact fin [st.1, st.2 - st.1, st.1 - st.2] _ (Ex.mut e0 hl) upd_same (by unfold Mt.slopes; rw [hh0]; rfl) (by simp)
end
end My
set_option maxHeartbeats 4000000
namespace My
open PySem L2 Lf Evl
/-! ### the sizes of the ends -/
def EndBd (n : Nat) (e : Mt.Ends) : Prop := (∀ f, e.1 = some f → Bd n f) ∧ ∀ l, e.2.1 = some l → Bd n l
theorem EndBd.step {n : Nat} {e : Mt.Ends} (h : EndBd n e) {v s : Int} (hv : Bd n v) : EndBd n (Mt.endStep e v s) := by
  obtain ⟨f, l, c⟩ := e
  unfold Mt.endStep
  split
  · refine ⟨fun g z => ?_, h.2⟩
    cases z
    rcases Mt.maxO_is f (-(v / s)) with q | q
    · dsimp only; rw [q]; exact (Bd.div hv).neg
    · exact h.1 _ q
  · split
    · refine ⟨h.1, fun g z => ?_⟩
      cases z
      rcases Mt.minO_is l (v / -s) with q | q
      · dsimp only; rw [q]; exact Bd.div hv
      · exact h.2 _ q
    · split
      · exact ⟨h.1, h.2⟩
      · exact h
theorem EndBd.all {n : Nat} : ∀ (rs : List (Int × Int)) (e : Mt.Ends), EndBd n e → (∀ r ∈ rs, Bd n r.1) → EndBd n (Mt.endsFrom e rs)
  | [], _, h, _ => h
  | r :: l, e, h, hr => EndBd.all l _ (h.step (hr r (List.mem_cons_self ..))) (fun u hu => hr u (List.mem_cons_of_mem _ hu))
theorem ends_bd {n : Nat} {rs : List (Int × Int)} (hr : ∀ r ∈ rs, Bd n r.1) : EndBd n (Mt.ends rs) := EndBd.all rs _ ⟨fun f z => (by cases z), fun f z => (by cases z)⟩ hr
/-! ### a meetings object -/
/-- the bounds are such that the program takes them -/
structure BndOk (b : Mt.Bnd) : Prop where
  lo : Great b.low ∧ 0 ≤ b.low
  hi : ∀ h, b.high = some h → Great h
  fi : Great b.first ∧ 0 ≤ b.first
  ro : ∀ n, b.rounds = some n → Great n ∧ 0 ≤ n
theorem spares_bd {b : Mt.Bnd} (B : BndOk b) {q : Int × Int} {n : Nat} (hn : 400 ≤ n) (hq : Bd2 n q) : ∀ v ∈ Mt.spares b q, Bd (n + 3) v := by
  obtain ⟨lo, hi, fi, ro⟩ := b
  obtain ⟨⟨l1, _⟩, h1, ⟨f1, _⟩, r1⟩ := B
  have bl := l1.bd.mono hn
  have bf := f1.bd.mono hn
  have bq : Bd (n + 1) (q.2 - q.1) := hq.2.sub hq.1 (Nat.le_refl _)
  have x1 : Bd (n + 3) (q.1 - fi) := hq.1.sub bf (by omega)
  have x2 : Bd (n + 3) (q.2 - q.1 - lo) := bq.sub (bl.mono (by omega)) (by omega)
  have x3 : ∀ h, hi = some h → Bd (n + 3) (h - (q.2 - q.1)) := fun h e => ((h1 h e).bd.mono (by omega)).sub bq (by omega)
  have x4 : ∀ m, ro = some m → Bd (n + 3) (m - 1 - q.2) := fun m e => by
    have a : Bd (n + 1) (m - 1) := ((r1 m e).1.bd.mono hn).sub ((Bd.lit (n := 400) (i := 1) (by decide)).mono hn) (Nat.le_refl _)
    exact a.sub (hq.2.mono (by omega)) (by omega)
  unfold Mt.spares
  intro v hv
  cases hi <;> cases ro <;> simp at hv
  · rcases hv with rfl | rfl
    · exact x1
    · exact x2
  · rcases hv with rfl | rfl | rfl
    · exact x1
    · exact x2
    · exact x4 _ rfl
  · rcases hv with rfl | rfl | rfl
    · exact x1
    · exact x2
    · exact x3 _ rfl
  · rcases hv with rfl | rfl | rfl | rfl
    · exact x1
    · exact x2
    · exact x3 _ rfl
    · exact x4 _ rfl
def mF (p o : Addr) (b : Mt.Bnd) (la : Addr) (has : Bool) (ea : Addr) : List (Str × V) :=
  [("place", .ref p), ("other", .ref o), ("low", .int b.low), ("high", oV b.high), ("first", .int b.first), ("rounds", oV b.rounds), ("own_line", .ref la), ("has_line", .bl has), ("own_ends", .ref ea)]
/-- a meetings object at m in H: the places p, o, the bounds b, a line from q0 by st, the ends e -/
structure MetAt (C : Addr) (H : Hp) (m : Addr) (p o : Int × Int) (b : Mt.Bnd) (has : Bool) (q0 st : Int × Int) (e : Mt.Ends) : Prop where
  at_ : ∃ dx pa oa la qa sa ea, H m = some (.ins C dx (mF pa oa b la has ea)) ∧ H pa = some (tup2 p) ∧ H oa = some (tup2 o) ∧ H la = some (.tup [.ref qa, .ref sa]) ∧ H qa = some (tup2 q0) ∧ H sa = some (tup2 st) ∧ H ea = some (endsT e)
  ok : Mt.MetOk p o b has q0 st e
  yes : has = true → st = stepOf p o
  no : has = false → ¬ (o.2 - p.2) % (Int.gcd p.1 o.1 : Int) = 0
  nz : ¬ (p.1 = 0 ∧ o.1 = 0)
  bo : BndOk b
  bp : Bd2 400 p ∧ Bd2 400 o
  bq : Bd2 1400 q0 ∧ Bd2 400 st
  be : EndBd 1403 e
theorem MetAt.mono {C : Addr} {H H' : Hp} {m : Addr} {p o : Int × Int} {b : Mt.Bnd} {has : Bool} {q0 st : Int × Int} {e : Mt.Ends} (M : MetAt C H m p o b has q0 st e) (x : Ex H H') : MetAt C H' m p o b has q0 st e := by
  obtain ⟨dx, pa, oa, la, qa, sa, ea, h1, h2, h3, h4, h5, h6, h7⟩ := M.at_
  exact { M with at_ := ⟨dx, pa, oa, la, qa, sa, ea, x _ _ h1, x _ _ h2, x _ _ h3, x _ _ h4, x _ _ h5, x _ _ h6, x _ _ h7⟩ }
theorem mF_bnd (p o : Addr) (b : Mt.Bnd) (la : Addr) (has : Bool) (ea : Addr) : BndAt (mF p o b la has ea) b := ⟨rfl, rfl, rfl, rfl⟩
theorem putF_new {f : Str} {v : V} : ∀ {fs : List (Str × V)}, fs.lookup f = none → putF f v fs = fs ++ [(f, v)]
  | [], _ => rfl
  | (g, x) :: r, h => by
    simp only [List.lookup] at h
    split at h
    · cases h
    · rename_i hne
      have ne : ¬ g = f := fun z => by rw [z] at hne; simp at hne
      show (if g = f then (g, v) :: r else (g, x) :: putF f v r) = _
      rw [if_neg ne, putF_new h]
      rfl
/-- all but x stays -/
def Eb (x : Addr) (H H' : Hp) : Prop := ∀ a o, a ≠ x → H a = some o → H' a = some o
theorem Eb.of {x : Addr} {H H' : Hp} (e : Ex H H') : Eb x H H' := fun a o _ h => e a o h
theorem Eb.trans {x : Addr} {H H1 H2 : Hp} (a : Eb x H H1) (b : Eb x H1 H2) : Eb x H H2 := fun c o n h => b c o n (a c o n h)
theorem Eb.upd {x : Addr} {H : Hp} {o : HO} : Eb x H (upd H x o) := fun a u n h => by rw [upd_ne n]; exact h
section
variable {K : PySem.W.Frag} {σ : L2.St} {H0 : Hp} {x C dx : Addr} {fs : List (Str × V)} {i j : Nat} {y : V} {f : Str} {D : Ends} {tz : TS}
/-- self.f = a name -/
theorem q_fldv (hi : σ[i]? = some (some (.ref x))) (hj : σ[j]? = some (some y)) (c : Cls K C) (n : NoAttr K C f) (hn : fs.lookup f = none) (hl : fs.length < 1000) (k : tz D σ (upd H0 x (.ins C dx (fs ++ [(f, y)])))) :
    tSeq (sFld K (tVar i) (tVar j) f) tz D σ (upd H0 x (.ins C dx fs)) := by
  refine ⟨_, hj, _, hi, x, C, dx, fs, rfl, upd_same, c, n, hl, ?_⟩
  rw [upd_upd, putF_new hn]
  exact k
end
def m6 (p o : Addr) (b : Mt.Bnd) : List (Str × V) := [("place", .ref p), ("other", .ref o), ("low", .int b.low), ("high", oV b.high), ("first", .int b.first), ("rounds", oV b.rounds)]
def m7 (p o : Addr) (b : Mt.Bnd) (la : Addr) : List (Str × V) := [("place", .ref p), ("other", .ref o), ("low", .int b.low), ("high", oV b.high), ("first", .int b.first), ("rounds", oV b.rounds), ("own_line", .ref la)]
def m8 (p o : Addr) (b : Mt.Bnd) (la : Addr) (has : Bool) : List (Str × V) := [("place", .ref p), ("other", .ref o), ("low", .int b.low), ("high", oV b.high), ("first", .int b.first), ("rounds", oV b.rounds), ("own_line", .ref la), ("has_line", .bl has)]
def spInit (C : Addr) : Sp := fun vs H Q _ => ∃ (x dx pa oa : Addr) (p o : Int × Int) (b : Mt.Bnd) (H0 : Hp), vs = [.ref x, .ref pa, .ref oa, .int b.low, oV b.high, .int b.first, oV b.rounds] ∧ H = upd H0 x (.ins C dx []) ∧ H0 x = none ∧ H0 pa = some (tup2 p) ∧ H0 oa = some (tup2 o) ∧
  Great p.1 ∧ Great p.2 ∧ Great o.1 ∧ Great o.2 ∧ ¬ (p.1 = 0 ∧ o.1 = 0) ∧ BndOk b ∧
  ∀ H' has q0 st e, Eb x H0 H' → MetAt C H' x p o b has q0 st e → Q .non H'
theorem both {c : Bool} {A B T : Prop} (ha : c = true → T → A) (hb : c = false → T → B) (t : T) : if c = true then A else B := by
  cases c with
  | true => exact if_so rfl (ha rfl t)
  | false => exact if_no rfl (hb rfl t)
section
variable {P : Program} {w : World} {K : PySem.W.Frag} {mg : Str → Option Value} {base : Heap} {CN fI CA FE : Addr}
theorem ok_init {f : Addr} {fd : FuncData} {kws : List (Str × V)} (T : Txt P K mg CN fI CA FE) (F : FunD K "__init__" "Meetings.__init__" (defArgs s_Meetings___init__) (defBody s_Meetings___init__) (defScope s_Meetings___init__) [] kws f fd)
    (D_require_great_place : DefOk P w K mg base (L2.CX P w) 3 "require_great_place" ["value"] spReqPlace) (D_require_count : DefOk P w K mg base (L2.CX P w) 4 "require_count" ["value"] spReqCount) (D_is_great : DefOk P w K mg base CX0 2 "is_great" ["value"] spGreat)
    (D_line_of : DefOk P w K mg base CX0 2 "line_of" ["place", "other"] spLine) (D_ends_of : DefOk P w K mg base CX0 1 "ends_of" ["values", "slopes"] spEnds) (D_Met_spares_at : MethOk P w K mg base CX0 1 FE "spares_at" ["self", "pair"] (spSpares FE))
    (D_Met_slopes : MethOk P w K mg base CX0 1 FE "slopes" ["self"] (spSlopes FE)) :
    FnOk P w K mg base (L2.CX P w) 5 f fd ["self", "place", "other", "low", "high", "first", "rounds"] (spInit FE) := by
  refine F.ok sc_Meetings___init__ (fun vs H Q E h => ?_) (fun cdv A outer s H vs Q E hr h => ?_)
  · obtain ⟨_, _, _, _, _, _, _, _, rfl, _⟩ := h
    rfl
  · obtain ⟨x, dx, pa, oa, p, o, b, H0, rfl, rfl, x0, hp, ho, gp1, gp2, go1, go2, nz, B, k⟩ := h
    obtain ⟨n1, n2, n3, n4, n5, n6, n7, n8, n9⟩ := T.nf
    have npx : pa ≠ x := ne_of_none hp x0
    have nox : oa ≠ x := ne_of_none ho x0
    have kp : ∀ ob, upd H0 x ob pa = some (tup2 p) := fun ob => by rw [upd_ne npx]; exact hp
    have ko : ∀ ob, upd H0 x ob oa = some (tup2 o) := fun ob => by rw [upd_ne nox]; exact ho
    refine ⟨_, (pss_cons (ps_expr (pe_callD D_require_great_place (hr.mono (by decide)) (passes_call (takes_of rfl rfl rfl rfl) (fun _ _ _ _ h => h)) (pa_cons (pv 1) pa_nil)))
 (pss_cons (ps_expr (pe_callD D_require_great_place (hr.mono (by decide)) (passes_call (takes_of rfl rfl rfl rfl) (fun _ _ _ _ h => h)) (pa_cons (pv 2) pa_nil)))
 (pss_cons (ps_expr (pe_callD D_require_count (hr.mono (by decide)) (passes_call (takes_of rfl rfl rfl rfl) (fun _ _ _ _ h => h)) (pa_cons (pv 3) pa_nil)))
 (pss_cons (ps_if (PW.pt (pw_and (pt_cmpR op_notN (pv 4) pe_non (nomark _)) (pw_and1 (pt_not (pt_val (pe_callD D_is_great (hr.mono (by decide)) pass0 (pa_cons (pv 4) pa_nil)))))))
 (pss_one (ps_raise rfl (takes_of rfl rfl rfl rfl) (pmk_x T.num PySem.F.excBase_RuntimeError PySem.W.kxs_RuntimeError hr (pa_cons (pv 4) pa_nil))))
 pss_nil)
 (pss_cons (ps_expr (pe_callD D_require_count (hr.mono (by decide)) (passes_call (takes_of rfl rfl rfl rfl) (fun _ _ _ _ h => h)) (pa_cons (pv 5) pa_nil)))
 (pss_cons (ps_if (pt_cmpR op_notN (pv 6) pe_non (nomark _))
 (pss_one (ps_expr (pe_callD D_require_count (hr.mono (by decide)) (passes_call (takes_of rfl rfl rfl rfl) (fun _ _ _ _ h => h)) (pa_cons (pv 6) pa_nil))))
 pss_nil)
 (pss_cons (ps_if (PW.pt (pw_and (pt_cmpR op_eq (pe_ix ix_tup (pv 1) pe_int (fun _ _ => rfl)) pe_int (nomark _)) (pw_and1 (pt_cmpR op_eq (pe_ix ix_tup (pv 2) pe_int (fun _ _ => rfl)) pe_int (nomark _)))))
 (pss_one (ps_raise rfl (takes_of rfl rfl rfl rfl) (pmk_own PySem.F.excBase_ValueError T.xA T.gA T.kA (raises_own T.bA T.tA) rfl)))
 pss_nil)
 (pss_cons (ps_fld (pv 0) (pv 1) rfl)
 (pss_cons (ps_fld (pv 0) (pv 2) rfl)
 (pss_cons (ps_fld (pv 0) (pv 3) rfl)
 (pss_cons (ps_fld (pv 0) (pv 4) rfl)
 (pss_cons (ps_fld (pv 0) (pv 5) rfl)
 (pss_cons (ps_fld (pv 0) (pv 6) rfl)
 (pss_cons (ps_set (i := 7) sc_Meetings___init__.nd rfl (Or.inl rfl) (pe_callD D_line_of (hr.mono (by decide)) pass0 (pa_cons (pv 1) (pa_cons (pv 2) pa_nil))))
 (pss_cons (ps_fld (pv 0) (pe_ifExp (pt_cmpR op_isN (pv 7) pe_non (nomark _)) (pe_tup (pa_cons (pe_tup (pa_cons pe_int (pa_cons pe_int pa_nil))) (pa_cons (pe_tup (pa_cons pe_int (pa_cons pe_int pa_nil))) pa_nil))) (pv 7)) rfl)
 (pss_cons (ps_fld (pv 0) (pe_cmpR op_notN (pv 7) pe_non (nomark _)) rfl)
 (pss_one (ps_fld (pv 0) (pe_callD D_ends_of (hr.mono (by decide)) pass0 (pa_cons (pe_methD (pv 0) T.c_Met D_Met_spares_at (hr.mono (by decide)) pass0 (pa_cons (pe_ix ix_tup (pe_fld (pv 0) rfl) pe_int (fun _ _ => rfl)) pa_nil)) (pa_cons (pe_methD0 (pv 0) T.c_Met D_Met_slopes (hr.mono (by decide)) pass0) pa_nil))) rfl)))))))))))))))))), ?_⟩
    refine ⟨_, rfl, pa, p, rfl, kp _, gp1, gp2, ?_⟩
    refine ⟨_, rfl, oa, o, rfl, ko _, go1, go2, ?_⟩
    refine ⟨_, rfl, _, rfl, B.lo.1, B.lo.2, ?_⟩
    refine ⟨_, rfl, rfl, _, rfl, ?_⟩
    obtain ⟨lo, hi, fi, ro⟩ := b
    refine both (fun hc t => ?_) (fun hc t => if_no rfl t) ?_
    · cases hi with
      | none => cases hc
      | some h => exact ⟨_, rfl, _, rfl, B.hi h rfl, _, rfl, if_no rfl t⟩
    refine ⟨_, rfl, _, rfl, B.fi.1, B.fi.2, ?_⟩
    refine ⟨_, rfl, rfl, _, rfl, ?_⟩
    refine both (fun hc t => ?_) (fun hc t => t) ?_
    · cases ro with
      | none => cases hc
      | some h => exact ⟨_, rfl, _, rfl, (B.ro h rfl).1, (B.ro h rfl).2, t⟩
    refine ⟨_, rfl, _, _, _, _, rfl, rfl, SqT.of (kp _), rfl, rfl, _, rfl, ?_⟩
    refine both (fun hc t => ?_) (fun hc t => if_no rfl t) ?_
    · refine ⟨_, rfl, _, _, _, _, rfl, rfl, SqT.of (ko _), rfl, rfl, _, rfl, if_no (eqi_f ?_) t⟩
      intro z
      exact nz ⟨by simpa using hc, z⟩
    refine q_fldv rfl rfl T.c_Met n1 rfl (by simp) ?_
    refine q_fldv rfl rfl T.c_Met n2 rfl (by simp) ?_
    refine q_fldv rfl rfl T.c_Met n3 rfl (by simp) ?_
    refine q_fldv rfl rfl T.c_Met n4 rfl (by simp) ?_
    refine q_fldv rfl rfl T.c_Met n5 rfl (by simp) ?_
    refine q_fldv rfl rfl T.c_Met n6 rfl (by simp) ?_
    dsimp only [List.cons_append, List.nil_append]
    have hpx : ∀ {H8 : Hp}, Eb x H0 H8 → H8 pa = some (tup2 p) := fun z => z _ _ npx hp
    have hox : ∀ {H8 : Hp}, Eb x H0 H8 → H8 oa = some (tup2 o) := fun z => z _ _ nox ho
    have fin : ∀ (lv : V) (has : Bool) (la qa sa : Addr) (q0 st : Int × Int) (H8 : Hp), (!decide (lv = V.non)) = has → H8 x = some (.ins FE dx (m7 pa oa ⟨lo, hi, fi, ro⟩ la)) → Eb x H0 H8 →
        H8 la = some (.tup [.ref qa, .ref sa]) → H8 qa = some (tup2 q0) → H8 sa = some (tup2 st) → (∀ e, e = Mt.ends (Mt.rows ⟨lo, hi, fi, ro⟩ q0 st) → Mt.MetOk p o ⟨lo, hi, fi, ro⟩ has q0 st e) → (has = true → st = stepOf p o) → (has = false → ¬ (o.2 - p.2) % (Int.gcd p.1 o.1 : Int) = 0) →
        Bd2 1400 q0 → Bd2 400 st →
        tSeq (sFld K (tVar 0) (tOp (fun x y H Q => y = V.non ∧ Q (V.bl !decide (x = V.non)) H) (tVar 7) (tC V.non)) "has_line")
          (sFld K (tVar 0) (tCallD spEnds E0 (tCons (tMethD FE "spares_at" (spSpares FE) E0 (tVar 0) (tCons (tOp (rIxT K) (tFld K (tVar 0) "own_line") (tC (V.int 0))) tNil)) (tCons (tMethD FE "slopes" (spSlopes FE) E0 (tVar 0) tNil) tNil))) "own_ends")
          { nx := fun _ H' => Q .non H', rt := Q } [some (.ref x), some (.ref pa), some (.ref oa), some (.int lo), some (oV hi), some (.int fi), some (oV ro), some lv] H8 := by
      intro lv has la qa sa q0 st H8 hlv hx8 e8 hla hqa hsa mk yes no b0 bs
      have nl : la ≠ x := fun z => by rw [z, hx8] at hla; cases hla
      have nq : qa ≠ x := fun z => by rw [z, hx8] at hqa; cases hqa
      have ns : sa ≠ x := fun z => by rw [z, hx8] at hsa; cases hsa
      refine ⟨_, rfl, rfl, _, rfl, x, FE, dx, _, rfl, hx8, T.c_Met, n8, show 7 < 1000 by decide, ?_⟩
      rw [hlv]
      refine (?_ : (fun H => _) (upd H8 x (.ins FE dx (m8 pa oa ⟨lo, hi, fi, ro⟩ la has))))
      dsimp only
      have ef : ∀ ob, Eb x H8 (upd H8 x ob) := fun ob => Eb.upd
      generalize hH9 : upd H8 x (.ins FE dx (m8 pa oa ⟨lo, hi, fi, ro⟩ la has)) = H9
      have hx9 : H9 x = some (.ins FE dx (m8 pa oa ⟨lo, hi, fi, ro⟩ la has)) := by rw [← hH9]; exact upd_same
      have e9 : Eb x H0 H9 := e8.trans (by rw [← hH9]; exact Eb.upd)
      have hla9 : H9 la = some (.tup [.ref qa, .ref sa]) := by rw [← hH9, upd_ne nl]; exact hla
      have hqa9 : H9 qa = some (tup2 q0) := by rw [← hH9, upd_ne nq]; exact hqa
      have hsa9 : H9 sa = some (tup2 st) := by rw [← hH9, upd_ne ns]; exact hsa
      refine ⟨_, rfl, x, dx, _, rfl, hx9, rfl, _, rfl, x, FE, dx, _, V.ref la, rfl, hx9, T.c_Met, n7, rfl, _, _, _, _, rfl, rfl, SqT.of hla9, rfl, ?_⟩
      refine ⟨x, qa, dx, _, q0, ⟨lo, hi, fi, ro⟩, rfl, hx9, ⟨rfl, rfl, rfl, rfl⟩, hqa9, fun l1 H10 f10 e10 hl1 => ?_⟩
      refine ⟨_, rfl, x, dx, _, rfl, e10 _ _ hx9, rfl, ?_⟩
      refine ⟨x, dx, la, qa, sa, _, st, ⟨lo, hi, fi, ro⟩, rfl, e10 _ _ hx9, ⟨rfl, rfl, rfl, rfl⟩, rfl, e10 _ _ hla9, e10 _ _ hsa9, fun l2 H11 f11 e11 hl2 => ?_⟩
      have hb : ∀ m ∈ Mt.slopes ⟨lo, hi, fi, ro⟩ st, Bd 900 m := by
        intro m hm
        have a1 : Bd 900 st.1 := bs.1.mono (by decide)
        have a2 : Bd 900 (st.2 - st.1) := bs.2.sub bs.1 (by decide)
        have a3 : Bd 900 (st.1 - st.2) := bs.1.sub bs.2 (by decide)
        have a4 : Bd 900 (-st.2) := bs.2.neg.mono (by decide)
        unfold Mt.slopes at hm
        cases hi <;> cases ro <;> simp at hm <;> (first | (rcases hm with rfl | rfl) | (rcases hm with rfl | rfl | rfl) | (rcases hm with rfl | rfl | rfl | rfl)) <;> assumption
      refine ⟨l1, l2, _, _, rfl, e11 _ _ hl1, hl2, Mt.len_eq _ _ _, hb, fun r H12 e12 hr' => ?_⟩
      have ex := (e10.trans e11).trans e12
      refine ⟨_, rfl, x, FE, dx, _, rfl, ex _ _ hx9, T.c_Met, n9, show 8 < 1000 by decide, ?_⟩
      have nr : r ≠ x := fun z => by rw [z, ex _ _ hx9] at hr'; cases hr'
      refine k _ has q0 st _ (e9.trans ((Eb.of ex).trans Eb.upd)) { at_ := ⟨dx, pa, oa, la, qa, sa, r, upd_same, ?_, ?_, ?_, ?_, ?_, ?_⟩, ok := mk _ rfl, yes := yes, no := no, nz := nz, bo := B, bp := ⟨⟨gp1.bd, gp2.bd⟩, ⟨go1.bd, go2.bd⟩⟩, bq := ⟨b0, bs⟩, be := ends_bd ?_ }
      · rw [upd_ne npx]; exact ex _ _ (hpx e9)
      · rw [upd_ne nox]; exact ex _ _ (hox e9)
      · rw [upd_ne nl]; exact ex _ _ hla9
      · rw [upd_ne nq]; exact ex _ _ hqa9
      · rw [upd_ne ns]; exact ex _ _ hsa9
      · rw [upd_ne nr]; exact hr'
      · intro u hu
        exact spares_bd B (by decide) b0 _ (List.of_mem_zip hu).1
    refine ⟨_, rfl, _, rfl, _, _, _, _, rfl, kp _, ko _, ⟨gp1.bd, gp2.bd⟩, ⟨go1.bd, go2.bd⟩, nz, fun H7 e7 no nd => ?_, fun t tq ts H7 q0 e7 ht htq hts L b0 bs => ?_⟩
    · have hx7 := e7 _ _ upd_same
      have eb7 : Eb x H0 H7 := Eb.upd.trans (Eb.of e7)
      refine ⟨_, rfl, rfl, _, rfl, ?_⟩
      refine if_so rfl ?_
      refine ⟨show 2 ≤ sizeLine by decide, fun qa hqa => ?_⟩
      refine ⟨show 2 ≤ sizeLine by decide, fun sa hsa => ?_⟩
      refine ⟨show 2 ≤ sizeLine by decide, fun la hla => ?_⟩
      have q1 := hx7
      have w1 := Ex.new (o := tup2 (0, 0)) hqa
      have w2 := Ex.new (o := tup2 (0, 0)) hsa
      have w3 := Ex.new (o := HO.tup [.ref qa, .ref sa]) hla
      have hx8 := w3 _ _ (w2 _ _ (w1 _ _ hx7))
      have nl : la ≠ x := (ne_of_none (w2 _ _ (w1 _ _ hx7)) hla).symm
      have ns : sa ≠ x := (ne_of_none (w1 _ _ hx7) hsa).symm
      have nq : qa ≠ x := (ne_of_none hx7 hqa).symm
      refine ⟨_, rfl, x, FE, dx, _, rfl, hx8, T.c_Met, n7, show 6 < 1000 by decide, ?_⟩
      refine fin .non false la qa sa (0, 0) (0, 0) _ rfl upd_same ((eb7.trans (Eb.of ((w1.trans w2).trans w3))).trans Eb.upd) ?_ ?_ ?_ (fun e he => ⟨he, fun z => (by cases z), fun _ => ⟨rfl, rfl, no⟩⟩) (fun z => by cases z) (fun _ => nd) ⟨Bd.lit (by decide), Bd.lit (by decide)⟩ ⟨Bd.lit (by decide), Bd.lit (by decide)⟩
      · rw [upd_ne nl]; exact upd_same
      · rw [upd_ne nq]; exact w3 _ _ (w2 _ _ upd_same)
      · rw [upd_ne ns]; exact w3 _ _ upd_same
    · have hx7 := e7 _ _ upd_same
      have eb7 : Eb x H0 H7 := Eb.upd.trans (Eb.of e7)
      have nl : t ≠ x := fun z => by rw [z, hx7] at ht; cases ht
      have nq : tq ≠ x := fun z => by rw [z, hx7] at htq; cases htq
      have ns : ts ≠ x := fun z => by rw [z, hx7] at hts; cases hts
      refine ⟨_, rfl, rfl, _, rfl, ?_⟩
      refine if_no rfl ?_
      refine ⟨_, rfl, _, rfl, x, FE, dx, _, rfl, hx7, T.c_Met, n7, show 6 < 1000 by decide, ?_⟩
      refine fin (.ref t) true t tq ts q0 _ _ rfl upd_same (eb7.trans Eb.upd) ?_ ?_ ?_ (fun e he => ⟨he, fun _ => L, fun z => (by cases z)⟩) (fun _ => rfl) (fun z => by cases z) b0 bs
      · rw [upd_ne nl]; exact ht
      · rw [upd_ne nq]; exact htq
      · rw [upd_ne ns]; exact hts
end
end My
set_option maxHeartbeats 4000000
namespace My
open PySem L2 Lf Evl StX
abbrev s_Meetings_is_empty : Stmt := inClass (top 19) 3
theorem sc_Meetings_is_empty : FnScope ["self", "first", "last", "barred"] ["self"] (defScope s_Meetings_is_empty) := ⟨rfl, rfl, rfl, by decide +kernel, rfl, by decide +kernel, by decide +kernel⟩
abbrev s_Meetings_end_by : Stmt := inClass (top 19) 4
theorem sc_Meetings_end_by : FnScope ["self", "growth", "end", "origin", "step"] ["self", "growth"] (defScope s_Meetings_end_by) := ⟨rfl, rfl, rfl, by decide +kernel, rfl, by decide +kernel, by decide +kernel⟩
abbrev s_Meetings_growth : Stmt := inClass (top 19) 5
theorem sc_Meetings_growth : FnScope ["self", "one", "two"] ["self"] (defScope s_Meetings_growth) := ⟨rfl, rfl, rfl, by decide +kernel, rfl, by decide +kernel, by decide +kernel⟩
abbrev s_Meetings_is_on_line : Stmt := inClass (top 19) 13
theorem sc_Meetings_is_on_line : FnScope ["self", "pair"] ["self", "pair"] (defScope s_Meetings_is_on_line) := ⟨rfl, rfl, rfl, by decide +kernel, rfl, by decide +kernel, by decide +kernel⟩
abbrev s_Meetings_nearest : Stmt := inClass (top 19) 6
theorem sc_Meetings_nearest : FnScope ["self", "one", "two"] ["self"] (defScope s_Meetings_nearest) := ⟨rfl, rfl, rfl, by decide +kernel, rfl, by decide +kernel, by decide +kernel⟩
abbrev s_Meetings_distance : Stmt := inClass (top 19) 7
theorem sc_Meetings_distance : FnScope ["self", "pair"] ["self"] (defScope s_Meetings_distance) := ⟨rfl, rfl, rfl, by decide +kernel, rfl, by decide +kernel, by decide +kernel⟩
abbrev s_Meetings_soonest : Stmt := inClass (top 19) 8
theorem sc_Meetings_soonest : FnScope ["self", "one", "two"] ["self"] (defScope s_Meetings_soonest) := ⟨rfl, rfl, rfl, by decide +kernel, rfl, by decide +kernel, by decide +kernel⟩
abbrev s_Meetings_latest : Stmt := inClass (top 19) 9
theorem sc_Meetings_latest : FnScope ["self", "one", "two"] ["self"] (defScope s_Meetings_latest) := ⟨rfl, rfl, rfl, by decide +kernel, rfl, by decide +kernel, by decide +kernel⟩
abbrev s_Meetings_amount : Stmt := inClass (top 19) 10
theorem sc_Meetings_amount : FnScope ["self", "first", "last", "barred"] ["self"] (defScope s_Meetings_amount) := ⟨rfl, rfl, rfl, by decide +kernel, rfl, by decide +kernel, by decide +kernel⟩
abbrev s_Meetings___contains__ : Stmt := inClass (top 19) 17
theorem sc_Meetings___contains__ : FnScope ["self", "value", "spare"] ["self", "value"] (defScope s_Meetings___contains__) := ⟨rfl, rfl, rfl, by decide +kernel, rfl, by decide +kernel, by decide +kernel⟩
abbrev s_Meetings___bool__ : Stmt := inClass (top 19) 18
theorem sc_Meetings___bool__ : FnScope ["self"] ["self"] (defScope s_Meetings___bool__) := ⟨rfl, rfl, rfl, by decide +kernel, rfl, by decide +kernel, by decide +kernel⟩
theorem abs_nat (i : Int) : (if i < 0 then -i else i) = (i.natAbs : Int) := by split <;> omega
def spEmpty (C : Addr) : Sp := fun vs H Q _ => ∃ m p o b has q0 st e, vs = [.ref m] ∧ MetAt C H m p o b has q0 st e ∧ Q (.bl (Mt.isEmpty has e)) H
def spEndBy (C : Addr) : Sp := fun vs H Q _ => ∃ m p o b has q0 st e g, vs = [.ref m, .int g] ∧ MetAt C H m p o b has q0 st e ∧ (Mt.endBy q0 st e g = none → Q .non H) ∧ (∀ q, Mt.endBy q0 st e g = some q → ∀ r H', Ex H H' → H' r = some (tup2 q) → Q (.ref r) H')
def spGrowth (C : Addr) : Sp := fun vs H Q _ => ∃ m p o b has q0 st e, vs = [.ref m] ∧ MetAt C H m p o b has q0 st e ∧ Q (.int (Mt.growth st)) H
def onLine (p o q : Int × Int) : Bool := decide (p.1 * q.1 + p.2 = o.1 * q.2 + o.2)
def spOnLine (C : Addr) : Sp := fun vs H Q _ => ∃ m p o b has q0 st e qa q, vs = [.ref m, .ref qa] ∧ MetAt C H m p o b has q0 st e ∧ H qa = some (tup2 q) ∧ Bd2 9000 q ∧ Q (.bl (onLine p o q)) H
def spNearest (C : Addr) : Sp := fun vs H Q _ => ∃ m p o b has q0 st e, vs = [.ref m] ∧ MetAt C H m p o b has q0 st e ∧ (Mt.nearest has q0 st e = none → Q .non H) ∧ (∀ q, Mt.nearest has q0 st e = some q → ∀ r H', Ex H H' → H' r = some (tup2 q) → Q (.ref r) H')
def spSoon (C : Addr) : Sp := fun vs H Q _ => ∃ m p o b has q0 st e, vs = [.ref m] ∧ MetAt C H m p o b has q0 st e ∧ (Mt.soonest has q0 st e = none → Q .non H) ∧ (∀ q, Mt.soonest has q0 st e = some q → ∀ r H', Ex H H' → H' r = some (tup2 q) → Q (.ref r) H')
def spLate (C : Addr) : Sp := fun vs H Q _ => ∃ m p o b has q0 st e, vs = [.ref m] ∧ MetAt C H m p o b has q0 st e ∧ (Mt.latest has q0 st e = none → Q .non H) ∧ (∀ q, Mt.latest has q0 st e = some q → ∀ r H', Ex H H' → H' r = some (tup2 q) → Q (.ref r) H')
def spDist (C : Addr) : Sp := fun vs H Q _ => ∃ m p o b has q0 st e, vs = [.ref m] ∧ MetAt C H m p o b has q0 st e ∧ ∀ H', Ex H H' → Q (oV (Mt.distance has q0 st e)) H'
def spAmount (C : Addr) : Sp := fun vs H Q _ => ∃ m p o b has q0 st e, vs = [.ref m] ∧ MetAt C H m p o b has q0 st e ∧ Q (oV (Mt.amount has e)) H
def goodB (p o : Int × Int) (b : Mt.Bnd) (q : Int × Int) : Bool := onLine p o q && (Mt.spares b q).all fun v => decide (0 ≤ v)
theorem goodB_iff {p o q : Int × Int} {b : Mt.Bnd} : goodB p o b q = true ↔ Mt.good p o b q := by
  unfold goodB onLine Mt.good Mt.meets Mt.keeps
  rw [Bool.and_eq_true, decide_eq_true_iff, List.all_eq_true]
  simp
def spHas (C : Addr) : Sp := fun vs H Q _ => (∃ m p o b has q0 st e qa q, vs = [.ref m, .ref qa] ∧ MetAt C H m p o b has q0 st e ∧ H qa = some (tup2 q) ∧ Bd2 9000 q ∧ ∀ H', Ex H H' → Q (.bl (goodB p o b q)) H') ∨ ∃ m v, vs = [.ref m, v] ∧ NoPair H v ∧ Q (.bl false) H
def spBool (C : Addr) : Sp := fun vs H Q _ => ∃ m p o b has q0 st e, vs = [.ref m] ∧ MetAt C H m p o b has q0 st e ∧ Q (.bl (!Mt.isEmpty has e)) H
section
variable {K : PySem.W.Frag} {σ : L2.St} {H : Hp} {te tl : TE} {vs : List Nat} {xs : List V}
/-- [e for x in l], l a list just made -/
theorem el_mapL {j : Nat} (f : V → V) (h : EvL tl σ H xs) (hz : xs.length ≤ 1000) (hw : ∀ x, wipe ((wipe σ vs).set j (some x)) vs = wipe σ vs)
    (he : ∀ x ∈ xs, ∀ H1, Ex H H1 → Ev te ((wipe σ vs).set j (some x)) H1 (f x)) :
    EvL (tLc (iList K tl) (gName j) tYes te vs) σ H (xs.map f) := fun H0 e0 Q q => h H0 e0 _ fun a H1 ha e1 hT =>
  ⟨a, rfl, ⟨xs, SqL.of hT⟩, fun D hD => lc_list (K := K) (a := a) (xs := xs) (fun i H' => Ex H1 H' ∧ H' D = some (.lst ((xs.take i).map f))) ⟨Ex.new hD, upd_same⟩ (fun i H' _ ⟨e2, _⟩ => SqL.of (e2 _ _ hT))
    (fun i x H' hx ⟨e2, hL⟩ => ⟨hw x, (he x (List.mem_of_getElem? hx) H' (e0.trans (e1.trans e2))) H' (Ex.refl _) _ fun H5 e5 => ⟨_, e5 _ _ hL, (by
      rw [List.length_map, List.length_take]
      exact Nat.lt_of_le_of_lt (Nat.min_le_left _ _) (Nat.lt_of_lt_of_le (Nat.lt_of_lt_of_le (List.getElem?_eq_some_iff.mp hx).1 hz) (show 1000 ≤ sizeLine by decide))), Ex.mut (e2.trans e5) hD, (by
      rw [upd_same, take_more hx, List.map_append]
      rfl)⟩⟩)
    (fun H' ⟨e2, hL⟩ => q D H' (fresh_back e1 hD) (e1.trans e2) (by rw [hL, List.take_length]))⟩
theorem ev_all {bs : List Bool} (h : EvL te σ H (bs.map V.bl)) : Ev (tCB (rAll K) (tCons te tNil)) σ H (.bl (bs.all id)) := fun H1 e Q q => h H1 e _ fun p H2 hp e2 hL => ⟨p, bs, rfl, SqL.of hL, q H2 e2⟩
end
section
variable {P : Program} {w : World} {K : PySem.W.Frag} {mg : Str → Option Value} {base : Heap} {CN fI CA FE : Addr}
theorem ok_is_empty (T : Txt P K mg CN fI CA FE) (D : Dm K FE "is_empty" "Meetings.is_empty" s_Meetings_is_empty) : MethOk P w K mg base CX0 1 FE "is_empty" ["self"] (spEmpty FE) := by
  refine D.ok sc_Meetings_is_empty (fun _ _ _ _ _ _ us hl => match us, hl with | [_], _ => rfl) (fun vs H Q E h => ?_) (fun f cdv A outer s H vs Q E hr h => ?_)
  · obtain ⟨_, _, _, _, _, _, _, _, rfl, _⟩ := h
    rfl
  · obtain ⟨m, p, o, b, has, q0, st, e, rfl, M, k⟩ := h
    obtain ⟨n1, n2, n3, n4, n5, n6, n7, n8, n9⟩ := T.nf
    obtain ⟨dx, pa, oa, la, qa, sa, ea, h1, h2, h3, h4, h5, h6, h7⟩ := M.at_
    refine ⟨_, (pss_cons (ps_asg (pe_fld (pv 0) rfl) (pg_tup (by rfl) (pgs_cons (pg_name (i := 1) sc_Meetings_is_empty.nd rfl (Or.inl rfl)) (pgs_cons (pg_name (i := 2) sc_Meetings_is_empty.nd rfl (Or.inl rfl)) (pgs_cons (pg_name (i := 3) sc_Meetings_is_empty.nd rfl (Or.inl rfl)) pgs_nil)))))
 (pss_cons (ps_if (PW.pt (pw_or (pt_not (pt_val (pe_fld (pv 0) rfl))) (pw_or1 (pt_val (pv 3)))))
 (pss_one (ps_ret pe_bl))
 pss_nil)
 (pss_one (ps_ret (pe_and (pe_cmpR op_notN (pv 1) pe_non (nomark _)) (pe_and (pe_cmpR op_notN (pv 2) pe_non (nomark _)) (pe_one (pe_cmpR op_gt (pv 1) (pv 2) (nomark _))))))))), ?_⟩
    obtain ⟨fe, le, be⟩ := e
    refine ⟨_, rfl, m, FE, dx, _, V.ref ea, rfl, h1, T.c_Met, n9, rfl, ea, _, rfl, SqT.of h7, rfl, _, _, rfl, _, _, rfl, _, _, rfl, rfl, ?_⟩
    refine ⟨_, rfl, m, FE, dx, _, V.bl has, rfl, h1, T.c_Met, n8, rfl, _, rfl, ?_⟩
    unfold Mt.isEmpty at k
    cases has with
    | false => exact if_so rfl (if_so rfl k)
    | true =>
      refine if_no rfl ⟨_, rfl, _, rfl, ?_⟩
      cases be with
      | true => exact if_so rfl k
      | false =>
        refine if_no rfl ?_
        refine ⟨_, rfl, rfl, _, rfl, ?_⟩
        cases fe with
        | none => exact if_no rfl k
        | some fv =>
          refine if_so rfl ⟨_, rfl, rfl, _, rfl, ?_⟩
          cases le with
          | none => exact if_no rfl k
          | some lv => exact if_so rfl ⟨_, rfl, _, rfl, _, _, rfl, rfl, k⟩
theorem ok_growth (T : Txt P K mg CN fI CA FE) (D : Dm K FE "growth" "Meetings.growth" s_Meetings_growth) : MethOk P w K mg base CX0 1 FE "growth" ["self"] (spGrowth FE) := by
  refine D.ok sc_Meetings_growth (fun _ _ _ _ _ _ us hl => match us, hl with | [_], _ => rfl) (fun vs H Q E h => ?_) (fun f cdv A outer s H vs Q E hr h => ?_)
  · obtain ⟨_, _, _, _, _, _, _, _, rfl, _⟩ := h
    rfl
  · obtain ⟨m, p, o, b, has, q0, st, e, rfl, M, k⟩ := h
    obtain ⟨n1, n2, n3, n4, n5, n6, n7, n8, n9⟩ := T.nf
    obtain ⟨dx, pa, oa, la, qa, sa, ea, h1, h2, h3, h4, h5, h6, h7⟩ := M.at_
    refine ⟨_, (pss_cons (ps_asg (pe_ix ix_tup (pe_fld (pv 0) rfl) pe_int (fun _ _ => rfl)) (pg_tup (by rfl) (pgs_cons (pg_name (i := 1) sc_Meetings_growth.nd rfl (Or.inl rfl)) (pgs_cons (pg_name (i := 2) sc_Meetings_growth.nd rfl (Or.inl rfl)) pgs_nil))))
 (pss_one (ps_ret (pe_ifExp (pt_cmpR op_ne (pv 2) pe_int (nomark _)) (pv 2) (pv 1))))), ?_⟩
    refine ⟨_, rfl, m, FE, dx, _, V.ref la, rfl, h1, T.c_Met, n7, rfl, _, _, _, _, rfl, rfl, SqT.of h4, rfl, sa, _, rfl, SqT.of h6, rfl, _, _, rfl, _, _, rfl, rfl, ?_⟩
    refine ⟨_, rfl, rfl, _, rfl, ?_⟩
    unfold Mt.growth at k
    by_cases c : st.2 = 0
    · refine if_no (nei_f c) ⟨_, rfl, ?_⟩
      rw [if_neg (fun z => z c)] at k
      exact k
    · refine if_so (nei_t c) ⟨_, rfl, ?_⟩
      rw [if_pos c] at k
      exact k
theorem ok_end_by (T : Txt P K mg CN fI CA FE) (D : Dm K FE "end_by" "Meetings.end_by" s_Meetings_end_by) (D_pair_after : DefOk P w K mg base CX0 1 "pair_after" ["pair", "step", "many"] spAfter) : MethOk P w K mg base CX0 2 FE "end_by" ["self", "growth"] (spEndBy FE) := by
  refine D.ok sc_Meetings_end_by (fun _ _ _ _ _ _ us hl => match us, hl with | [_, _], _ => rfl) (fun vs H Q E h => ?_) (fun f cdv A outer s H vs Q E hr h => ?_)
  · obtain ⟨_, _, _, _, _, _, _, _, _, rfl, _⟩ := h
    rfl
  · obtain ⟨m, p, o, b, has, q0, st, e, g, rfl, M, k1, k2⟩ := h
    obtain ⟨n1, n2, n3, n4, n5, n6, n7, n8, n9⟩ := T.nf
    obtain ⟨dx, pa, oa, la, qa, sa, ea, h1, h2, h3, h4, h5, h6, h7⟩ := M.at_
    refine ⟨_, (pss_cons (ps_set (i := 2) sc_Meetings_end_by.nd rfl (Or.inl rfl) (pe_ifExp (pt_cmpR op_gt (pv 1) pe_int (nomark _)) (pe_ix ix_tup (pe_fld (pv 0) rfl) pe_int (fun _ _ => rfl)) (pe_ix ix_tup (pe_fld (pv 0) rfl) pe_int (fun _ _ => rfl))))
 (pss_cons (ps_asg (pe_fld (pv 0) rfl) (pg_tup (by rfl) (pgs_cons (pg_name (i := 3) sc_Meetings_end_by.nd rfl (Or.inl rfl)) (pgs_cons (pg_name (i := 4) sc_Meetings_end_by.nd rfl (Or.inl rfl)) pgs_nil))))
 (pss_one (ps_ret (pe_ifExp (pt_cmpR op_isN (pv 2) pe_non (nomark _)) pe_non (pe_callD D_pair_after (hr.mono (by decide)) pass0 (pa_cons (pv 3) (pa_cons (pv 4) (pa_cons (pv 2) pa_nil))))))))), ?_⟩
    have fin : ∀ ev : Option Int, (∀ t, ev = some t → Bd 1403 t) → (ev.map (Mt.after q0 st) = none → Q .non H) → (∀ q, ev.map (Mt.after q0 st) = some q → ∀ r H', Ex H H' → H' r = some (tup2 q) → Q (.ref r) H') →
        tSeq (tAsg (tFld K (tVar 0) "own_line") (gTup K 2 (gCons (gName 3) (gCons (gName 4) gNil)))) (tRet (tIf (tTest (tOp (fun x y H Q => y = V.non ∧ Q (V.bl (decide (x = V.non))) H) (tVar 2) (tC V.non))) (tC .non) (tCallD spAfter E0 (tCons (tVar 3) (tCons (tVar 4) (tCons (tVar 2) tNil))))))
          { nx := fun _ H' => Q .non H', rt := Q } [some (.ref m), some (.int g), some (oV ev), none, none] H := by
      intro ev hb q1 q2
      refine ⟨_, rfl, m, FE, dx, _, V.ref la, rfl, h1, T.c_Met, n7, rfl, la, _, rfl, SqT.of h4, rfl, _, _, rfl, _, _, rfl, rfl, ?_⟩
      refine ⟨_, rfl, rfl, _, rfl, ?_⟩
      cases ev with
      | none => exact if_so rfl (q1 rfl)
      | some t => exact if_no rfl ⟨_, rfl, _, rfl, _, rfl, qa, sa, q0, st, t, rfl, h5, h6, M.bq.2, (hb t rfl).mono (by decide), q2 _ rfl⟩
    unfold Mt.endBy at k1 k2
    refine ⟨_, rfl, _, _, rfl, rfl, _, rfl, ?_⟩
    obtain ⟨fe, le, be⟩ := e
    by_cases c : 0 < g
    · rw [if_pos c] at k1 k2
      refine if_so (decide_eq_true c) ⟨_, rfl, m, FE, dx, _, V.ref ea, rfl, h1, T.c_Met, n9, rfl, _, _, _, _, rfl, rfl, SqT.of h7, rfl, ?_⟩
      exact fin fe M.be.1 k1 k2
    · rw [if_neg c] at k1 k2
      refine if_no (decide_eq_false c) ⟨_, rfl, m, FE, dx, _, V.ref ea, rfl, h1, T.c_Met, n9, rfl, _, _, _, _, rfl, rfl, SqT.of h7, rfl, ?_⟩
      exact fin le M.be.2 k1 k2
theorem ok_on_line (T : Txt P K mg CN fI CA FE) (D : Dm K FE "is_on_line" "Meetings.is_on_line" s_Meetings_is_on_line) : MethOk P w K mg base CX0 1 FE "is_on_line" ["self", "pair"] (spOnLine FE) := by
  refine D.ok sc_Meetings_is_on_line (fun _ _ _ _ _ _ us hl => match us, hl with | [_, _], _ => rfl) (fun vs H Q E h => ?_) (fun f cdv A outer s H vs Q E hr h => ?_)
  · obtain ⟨_, _, _, _, _, _, _, _, _, _, rfl, _⟩ := h
    rfl
  · obtain ⟨m, p, o, b, has, q0, st, e, qa', q, rfl, M, hq, bq, k⟩ := h
    obtain ⟨n1, n2, n3, n4, n5, n6, n7, n8, n9⟩ := T.nf
    obtain ⟨dx, pa, oa, la, qa, sa, ea, h1, h2, h3, h4, h5, h6, h7⟩ := M.at_
    refine ⟨_, (pss_one (ps_ret (pe_cmpR op_eq (pe_op op_add (pe_op op_mulW (pe_ix ix_tup (pe_fld (pv 0) rfl) pe_int (fun _ _ => rfl)) (pe_ix ix_tup (pv 1) pe_int (fun _ _ => rfl))) (pe_ix ix_tup (pe_fld (pv 0) rfl) pe_int (fun _ _ => rfl))) (pe_op op_add (pe_op op_mulW (pe_ix ix_tup (pe_fld (pv 0) rfl) pe_int (fun _ _ => rfl)) (pe_ix ix_tup (pv 1) pe_int (fun _ _ => rfl))) (pe_ix ix_tup (pe_fld (pv 0) rfl) pe_int (fun _ _ => rfl))) (nomark _)))), ?_⟩
    refine ⟨_, rfl, m, FE, dx, _, V.ref pa, rfl, h1, T.c_Met, n1, rfl, _, _, _, _, rfl, rfl, SqT.of h2, rfl, _, rfl, _, _, _, _, rfl, rfl, SqT.of hq, rfl, _, _, rfl, rfl, M.bp.1.1.ok bq.1 (by decide) (by decide) (by decide), ?_⟩
    refine ⟨_, rfl, m, FE, dx, _, V.ref pa, rfl, h1, T.c_Met, n1, rfl, _, _, _, _, rfl, rfl, SqT.of h2, rfl, _, _, rfl, rfl, ?_⟩
    refine ⟨_, rfl, m, FE, dx, _, V.ref oa, rfl, h1, T.c_Met, n2, rfl, _, _, _, _, rfl, rfl, SqT.of h3, rfl, _, rfl, _, _, _, _, rfl, rfl, SqT.of hq, rfl, _, _, rfl, rfl, M.bp.2.1.ok bq.2 (by decide) (by decide) (by decide), ?_⟩
    refine ⟨_, rfl, m, FE, dx, _, V.ref oa, rfl, h1, T.c_Met, n2, rfl, _, _, _, _, rfl, rfl, SqT.of h3, rfl, _, _, rfl, rfl, ?_⟩
    refine ⟨rfl, ?_⟩
    unfold onLine at k
    have e : decide (V.int (p.1 * q.1 + p.2) = V.int (o.1 * q.2 + o.2)) = decide (p.1 * q.1 + p.2 = o.1 * q.2 + o.2) := by rw [decide_eq_decide]; simp
    rw [← e] at k
    exact k
theorem ok_nearest (T : Txt P K mg CN fI CA FE) (D : Dp_ K FE "nearest" "Meetings.nearest" s_Meetings_nearest) (D_Met_is_empty : MethOk P w K mg base CX0 1 FE "is_empty" ["self"] (spEmpty FE)) (D_Met_end_by : MethOk P w K mg base CX0 2 FE "end_by" ["self", "growth"] (spEndBy FE))
    (D_Met_growth : MethOk P w K mg base CX0 1 FE "growth" ["self"] (spGrowth FE)) : PropOk P w K mg base CX0 3 FE "nearest" ["self"] (spNearest FE) := by
  refine D.ok sc_Meetings_nearest (fun _ _ _ _ _ _ us hl => match us, hl with | [_], _ => rfl) (fun vs H Q E h => ?_) (fun f cdv A outer s H vs Q E hr h => ?_)
  · obtain ⟨_, _, _, _, _, _, _, _, rfl, _⟩ := h
    rfl
  · obtain ⟨m, p, o, b, has, q0, st, e, rfl, M, k1, k2⟩ := h
    obtain ⟨n1, n2, n3, n4, n5, n6, n7, n8, n9⟩ := T.nf
    obtain ⟨dx, pa, oa, la, qa, sa, ea, h1, h2, h3, h4, h5, h6, h7⟩ := M.at_
    refine ⟨_, (pss_cons (ps_if (pt_val (pe_methD0 (pv 0) T.c_Met D_Met_is_empty (hr.mono (by decide)) pass0))
 (pss_one (ps_ret pe_non))
 pss_nil)
 (pss_cons (ps_asg (pe_ix ix_tup (pe_fld (pv 0) rfl) pe_int (fun _ _ => rfl)) (pg_tup (by rfl) (pgs_cons (pg_name (i := 1) sc_Meetings_nearest.nd rfl (Or.inl rfl)) (pgs_cons (pg_name (i := 2) sc_Meetings_nearest.nd rfl (Or.inl rfl)) pgs_nil))))
 (pss_one (ps_ret (pe_methD (pv 0) T.c_Met D_Met_end_by (hr.mono (by decide)) pass0 (pa_cons (pe_ifExp (pt_cmpR op_ne (pv 2) (pv 1) (nomark _)) (pe_op op_sub (pv 2) (pv 1)) (pe_methD0 (pv 0) T.c_Met D_Met_growth (hr.mono (by decide)) pass0)) pa_nil)))))), ?_⟩
    refine ⟨_, rfl, m, dx, _, rfl, h1, rfl, m, p, o, b, has, q0, st, e, rfl, M, _, rfl, ?_⟩
    unfold Mt.nearest at k1 k2
    cases he : Mt.isEmpty has e with
    | true =>
      rw [he, if_pos rfl] at k1
      exact if_so rfl (k1 rfl)
    | false =>
      rw [he, if_neg Bool.false_ne_true] at k1 k2
      refine if_no rfl ?_
      refine ⟨_, rfl, m, FE, dx, _, V.ref la, rfl, h1, T.c_Met, n7, rfl, _, _, _, _, rfl, rfl, SqT.of h4, rfl, sa, _, rfl, SqT.of h6, rfl, _, _, rfl, _, _, rfl, rfl, ?_⟩
      refine ⟨_, rfl, m, dx, _, rfl, h1, rfl, ?_⟩
      refine ⟨_, rfl, _, rfl, rfl, _, rfl, ?_⟩
      unfold Mt.way at k1 k2
      by_cases c : st.2 = st.1
      · refine if_no (nei_f c) ?_
        rw [if_neg (fun z => z c)] at k1 k2
        exact ⟨_, rfl, m, dx, _, rfl, h1, rfl, m, p, o, b, has, q0, st, e, rfl, M, m, p, o, b, has, q0, st, e, _, rfl, M, k1, k2⟩
      · refine if_so (nei_t c) ?_
        rw [if_pos c] at k1 k2
        exact ⟨_, rfl, _, rfl, _, _, rfl, rfl, m, p, o, b, has, q0, st, e, _, rfl, M, k1, k2⟩
theorem ok_soonest (T : Txt P K mg CN fI CA FE) (D : Dp_ K FE "soonest" "Meetings.soonest" s_Meetings_soonest) (D_Met_is_empty : MethOk P w K mg base CX0 1 FE "is_empty" ["self"] (spEmpty FE)) (D_Met_end_by : MethOk P w K mg base CX0 2 FE "end_by" ["self", "growth"] (spEndBy FE)) :
    PropOk P w K mg base CX0 3 FE "soonest" ["self"] (spSoon FE) := by
  refine D.ok sc_Meetings_soonest (fun _ _ _ _ _ _ us hl => match us, hl with | [_], _ => rfl) (fun vs H Q E h => ?_) (fun f cdv A outer s H vs Q E hr h => ?_)
  · obtain ⟨_, _, _, _, _, _, _, _, rfl, _⟩ := h
    rfl
  · obtain ⟨m, p, o, b, has, q0, st, e, rfl, M, k1, k2⟩ := h
    obtain ⟨n1, n2, n3, n4, n5, n6, n7, n8, n9⟩ := T.nf
    obtain ⟨dx, pa, oa, la, qa, sa, ea, h1, h2, h3, h4, h5, h6, h7⟩ := M.at_
    refine ⟨_, (pss_cons (ps_if (pt_val (pe_methD0 (pv 0) T.c_Met D_Met_is_empty (hr.mono (by decide)) pass0))
 (pss_one (ps_ret pe_non))
 pss_nil)
 (pss_cons (ps_asg (pe_ix ix_tup (pe_fld (pv 0) rfl) pe_int (fun _ _ => rfl)) (pg_tup (by rfl) (pgs_cons (pg_name (i := 1) sc_Meetings_soonest.nd rfl (Or.inl rfl)) (pgs_cons (pg_name (i := 2) sc_Meetings_soonest.nd rfl (Or.inl rfl)) pgs_nil))))
 (pss_one (ps_ret (pe_methD (pv 0) T.c_Met D_Met_end_by (hr.mono (by decide)) pass0 (pa_cons (pe_ifExp (pt_cmpR op_ne (pv 2) pe_int (nomark _)) (pv 2) (pe_un un_neg (pv 1))) pa_nil)))))), ?_⟩
    refine ⟨_, rfl, m, dx, _, rfl, h1, rfl, m, p, o, b, has, q0, st, e, rfl, M, _, rfl, ?_⟩
    unfold Mt.soonest at k1 k2
    cases he : Mt.isEmpty has e with
    | true =>
      rw [he, if_pos rfl] at k1
      exact if_so rfl (k1 rfl)
    | false =>
      rw [he, if_neg Bool.false_ne_true] at k1 k2
      refine if_no rfl ?_
      refine ⟨_, rfl, m, FE, dx, _, V.ref la, rfl, h1, T.c_Met, n7, rfl, _, _, _, _, rfl, rfl, SqT.of h4, rfl, sa, _, rfl, SqT.of h6, rfl, _, _, rfl, _, _, rfl, rfl, ?_⟩
      refine ⟨_, rfl, m, dx, _, rfl, h1, rfl, ?_⟩
      refine ⟨_, rfl, rfl, _, rfl, ?_⟩
      by_cases c : st.2 = 0
      · refine if_no (nei_f c) ?_
        rw [if_neg (fun z => z c)] at k1 k2
        exact ⟨_, rfl, _, rfl, m, p, o, b, has, q0, st, e, _, rfl, M, k1, k2⟩
      · refine if_so (nei_t c) ?_
        rw [if_pos c] at k1 k2
        exact ⟨_, rfl, m, p, o, b, has, q0, st, e, _, rfl, M, k1, k2⟩
theorem ok_latest (T : Txt P K mg CN fI CA FE) (D : Dp_ K FE "latest" "Meetings.latest" s_Meetings_latest) (D_Met_is_empty : MethOk P w K mg base CX0 1 FE "is_empty" ["self"] (spEmpty FE)) (D_Met_end_by : MethOk P w K mg base CX0 2 FE "end_by" ["self", "growth"] (spEndBy FE)) :
    PropOk P w K mg base CX0 3 FE "latest" ["self"] (spLate FE) := by
  refine D.ok sc_Meetings_latest (fun _ _ _ _ _ _ us hl => match us, hl with | [_], _ => rfl) (fun vs H Q E h => ?_) (fun f cdv A outer s H vs Q E hr h => ?_)
  · obtain ⟨_, _, _, _, _, _, _, _, rfl, _⟩ := h
    rfl
  · obtain ⟨m, p, o, b, has, q0, st, e, rfl, M, k1, k2⟩ := h
    obtain ⟨n1, n2, n3, n4, n5, n6, n7, n8, n9⟩ := T.nf
    obtain ⟨dx, pa, oa, la, qa, sa, ea, h1, h2, h3, h4, h5, h6, h7⟩ := M.at_
    refine ⟨_, (pss_cons (ps_if (pt_val (pe_methD0 (pv 0) T.c_Met D_Met_is_empty (hr.mono (by decide)) pass0))
 (pss_one (ps_ret pe_non))
 pss_nil)
 (pss_cons (ps_asg (pe_ix ix_tup (pe_fld (pv 0) rfl) pe_int (fun _ _ => rfl)) (pg_tup (by rfl) (pgs_cons (pg_name (i := 1) sc_Meetings_latest.nd rfl (Or.inl rfl)) (pgs_cons (pg_name (i := 2) sc_Meetings_latest.nd rfl (Or.inl rfl)) pgs_nil))))
 (pss_one (ps_ret (pe_methD (pv 0) T.c_Met D_Met_end_by (hr.mono (by decide)) pass0 (pa_cons (pe_ifExp (pt_cmpR op_ne (pv 1) pe_int (nomark _)) (pe_un un_neg (pv 1)) (pv 2)) pa_nil)))))), ?_⟩
    refine ⟨_, rfl, m, dx, _, rfl, h1, rfl, m, p, o, b, has, q0, st, e, rfl, M, _, rfl, ?_⟩
    unfold Mt.latest at k1 k2
    cases he : Mt.isEmpty has e with
    | true =>
      rw [he, if_pos rfl] at k1
      exact if_so rfl (k1 rfl)
    | false =>
      rw [he, if_neg Bool.false_ne_true] at k1 k2
      refine if_no rfl ?_
      refine ⟨_, rfl, m, FE, dx, _, V.ref la, rfl, h1, T.c_Met, n7, rfl, _, _, _, _, rfl, rfl, SqT.of h4, rfl, sa, _, rfl, SqT.of h6, rfl, _, _, rfl, _, _, rfl, rfl, ?_⟩
      refine ⟨_, rfl, m, dx, _, rfl, h1, rfl, ?_⟩
      refine ⟨_, rfl, rfl, _, rfl, ?_⟩
      by_cases c : st.1 = 0
      · refine if_no (nei_f c) ?_
        rw [if_neg (fun z => z c)] at k1 k2
        exact ⟨_, rfl, m, p, o, b, has, q0, st, e, _, rfl, M, k1, k2⟩
      · refine if_so (nei_t c) ?_
        rw [if_pos c] at k1 k2
        exact ⟨_, rfl, _, rfl, m, p, o, b, has, q0, st, e, _, rfl, M, k1, k2⟩
theorem ok_distance (T : Txt P K mg CN fI CA FE) (D : Dp_ K FE "distance" "Meetings.distance" s_Meetings_distance) (D_Met_nearest : PropOk P w K mg base CX0 3 FE "nearest" ["self"] (spNearest FE)) :
    PropOk P w K mg base CX0 5 FE "distance" ["self"] (spDist FE) := by
  refine D.ok sc_Meetings_distance (fun _ _ _ _ _ _ us hl => match us, hl with | [_], _ => rfl) (fun vs H Q E h => ?_) (fun f cdv A outer s H vs Q E hr h => ?_)
  · obtain ⟨_, _, _, _, _, _, _, _, rfl, _⟩ := h
    rfl
  · obtain ⟨m, p, o, b, has, q0, st, e, rfl, M, k⟩ := h
    obtain ⟨dx, pa, oa, la, qa, sa, ea, h1, h2, h3, h4, h5, h6, h7⟩ := M.at_
    refine ⟨_, (pss_cons (ps_set (i := 1) sc_Meetings_distance.nd rfl (Or.inl rfl) (pe_propD (pv 0) T.c_Met D_Met_nearest (hr.mono (by decide)) pass0))
 (pss_one (ps_ret (pe_ifExp (pt_cmpR op_isN (pv 1) pe_non (nomark _)) pe_non (pe_op op_sub (pe_ix ix_tup (pv 1) pe_int (fun _ _ => rfl)) (pe_ix ix_tup (pv 1) pe_int (fun _ _ => rfl))))))), ?_⟩
    refine ⟨_, rfl, m, dx, _, rfl, h1, ?_⟩
    unfold Mt.distance at k
    refine ⟨m, p, o, b, has, q0, st, e, rfl, M, fun hn => ?_, fun q hn r H' e1 hr1 => ?_⟩
    · rw [hn] at k
      exact ⟨_, rfl, rfl, _, rfl, if_so rfl (k H (Ex.refl _))⟩
    · rw [hn] at k
      refine ⟨_, rfl, rfl, _, rfl, if_no rfl ?_⟩
      exact ⟨_, rfl, _, _, _, _, rfl, rfl, SqT.of hr1, rfl, _, rfl, _, _, _, _, rfl, rfl, SqT.of hr1, rfl, _, _, rfl, rfl, k H' e1⟩
theorem ok_amount (T : Txt P K mg CN fI CA FE) (D : Dp_ K FE "amount" "Meetings.amount" s_Meetings_amount) (D_Met_is_empty : MethOk P w K mg base CX0 1 FE "is_empty" ["self"] (spEmpty FE)) :
    PropOk P w K mg base CX0 2 FE "amount" ["self"] (spAmount FE) := by
  refine D.ok sc_Meetings_amount (fun _ _ _ _ _ _ us hl => match us, hl with | [_], _ => rfl) (fun vs H Q E h => ?_) (fun f cdv A outer s H vs Q E hr h => ?_)
  · obtain ⟨_, _, _, _, _, _, _, _, rfl, _⟩ := h
    rfl
  · obtain ⟨m, p, o, b, has, q0, st, e, rfl, M, k⟩ := h
    obtain ⟨n1, n2, n3, n4, n5, n6, n7, n8, n9⟩ := T.nf
    obtain ⟨dx, pa, oa, la, qa, sa, ea, h1, h2, h3, h4, h5, h6, h7⟩ := M.at_
    refine ⟨_, (pss_cons (ps_if (pt_val (pe_methD0 (pv 0) T.c_Met D_Met_is_empty (hr.mono (by decide)) pass0))
 (pss_one (ps_ret pe_int))
 pss_nil)
 (pss_cons (ps_asg (pe_fld (pv 0) rfl) (pg_tup (by rfl) (pgs_cons (pg_name (i := 1) sc_Meetings_amount.nd rfl (Or.inl rfl)) (pgs_cons (pg_name (i := 2) sc_Meetings_amount.nd rfl (Or.inl rfl)) (pgs_cons (pg_name (i := 3) sc_Meetings_amount.nd rfl (Or.inl rfl)) pgs_nil)))))
 (pss_one (ps_ret (pe_ifExp (PW.pt (pw_or (pt_cmpR op_isN (pv 1) pe_non (nomark _)) (pw_or1 (pt_cmpR op_isN (pv 2) pe_non (nomark _))))) pe_non (pe_op op_add (pe_op op_sub (pv 2) (pv 1)) pe_int)))))), ?_⟩
    refine ⟨_, rfl, m, dx, _, rfl, h1, rfl, m, p, o, b, has, q0, st, e, rfl, M, _, rfl, ?_⟩
    unfold Mt.amount at k
    cases he : Mt.isEmpty has e with
    | true =>
      rw [he, if_pos rfl] at k
      exact if_so rfl k
    | false =>
      rw [he, if_neg Bool.false_ne_true] at k
      refine if_no rfl ?_
      obtain ⟨fe, le, be⟩ := e
      refine ⟨_, rfl, m, FE, dx, _, V.ref ea, rfl, h1, T.c_Met, n9, rfl, ea, _, rfl, SqT.of h7, rfl, _, _, rfl, _, _, rfl, _, _, rfl, rfl, ?_⟩
      refine ⟨_, rfl, rfl, _, rfl, ?_⟩
      cases fe with
      | none => exact if_so rfl k
      | some fv =>
        refine if_no rfl ⟨_, rfl, rfl, _, rfl, ?_⟩
        cases le with
        | none => exact if_so rfl k
        | some lv => exact if_no rfl ⟨_, rfl, _, rfl, _, _, rfl, rfl, _, _, rfl, rfl, k⟩
theorem ok_bool (T : Txt P K mg CN fI CA FE) (D : Dm K FE "__bool__" "Meetings.__bool__" s_Meetings___bool__) (D_Met_is_empty : MethOk P w K mg base CX0 1 FE "is_empty" ["self"] (spEmpty FE)) : MethOk P w K mg base CX0 2 FE "__bool__" ["self"] (spBool FE) := by
  refine D.ok sc_Meetings___bool__ (fun _ _ _ _ _ _ us hl => match us, hl with | [_], _ => rfl) (fun vs H Q E h => ?_) (fun f cdv A outer s H vs Q E hr h => ?_)
  · obtain ⟨_, _, _, _, _, _, _, _, rfl, _⟩ := h
    rfl
  · obtain ⟨m, p, o, b, has, q0, st, e, rfl, M, k⟩ := h
    obtain ⟨dx, pa, oa, la, qa, sa, ea, h1, h2, h3, h4, h5, h6, h7⟩ := M.at_
    refine ⟨_, (pss_one (ps_ret (pe_not (pe_methD0 (pv 0) T.c_Met D_Met_is_empty (hr.mono (by decide)) pass0)))), ?_⟩
    exact ⟨_, rfl, m, dx, _, rfl, h1, rfl, m, p, o, b, has, q0, st, e, rfl, M, _, rfl, k⟩
theorem ok_contains (T : Txt P K mg CN fI CA FE) (D : Dm K FE "__contains__" "Meetings.__contains__" s_Meetings___contains__) (D_is_pair : DefOk P w K mg base CX0 2 "is_pair" ["value"] spPair) (D_Met_is_on_line : MethOk P w K mg base CX0 1 FE "is_on_line" ["self", "pair"] (spOnLine FE))
    (D_Met_spares_at : MethOk P w K mg base CX0 1 FE "spares_at" ["self", "pair"] (spSpares FE)) : MethOk P w K mg base CX0 3 FE "__contains__" ["self", "value"] (spHas FE) := by
  refine D.ok sc_Meetings___contains__ (fun _ _ _ _ _ _ us hl => match us, hl with | [_, _], _ => rfl) (fun vs H Q E h => ?_) (fun f cdv A outer s H vs Q E hr h => ?_)
  · rcases h with ⟨_, _, _, _, _, _, _, _, _, _, rfl, _⟩ | ⟨_, _, rfl, _⟩
    · rfl
    · rfl
  · rcases h with ⟨m, p, o, b, has, q0, st, e, qa', q, rfl, M, hq, bq, k⟩ | ⟨m, v, rfl, np, k⟩
    rotate_left
    · refine ⟨_, (pss_cons (ps_if (PW.pt (pw_or (pt_not (pt_val (pe_callD D_is_pair (hr.mono (by decide)) pass0 (pa_cons (pv 1) pa_nil)))) (pw_or1 (pt_not (pt_val (pe_methD (pv 0) T.c_Met D_Met_is_on_line (hr.mono (by decide)) pass0 (pa_cons (pv 1) pa_nil)))))))
 (pss_one (ps_ret pe_bl))
 pss_nil)
 (pss_one (ps_ret (pe_callB (cr_all rfl) (by rfl) T.n_all (by decide +kernel) (pa_cons (pe_lc (own := [("spare", 2)]) (by rfl) sc_Meetings___contains__.nd (pi_list (pe_methD (pv 0) T.c_Met D_Met_spares_at (hr.mono (by decide)) pass0 (pa_cons (pv 1) pa_nil))) (blkOk_by (own := [("spare", 2)]) (N := ["self", "value", "spare"]) (sc := defScope s_Meetings___contains__) (by decide +kernel)) (fun _ _ _ _ _ => (pg_name (i := 2) sc_Meetings___contains__.nd rfl (Or.inl rfl))) (fun _ _ _ _ _ => pts_nil) (fun _ _ _ _ _ => (pe_cmpR op_ge (pv 2) pe_int (nomark _)))) pa_nil))))), ?_⟩
      exact ⟨_, rfl, .inr ⟨v, rfl, np, _, rfl, if_so rfl k⟩⟩
    obtain ⟨dx, pa, oa, la, qa, sa, ea, h1, h2, h3, h4, h5, h6, h7⟩ := M.at_
    refine ⟨_, (pss_cons (ps_if (PW.pt (pw_or (pt_not (pt_val (pe_callD D_is_pair (hr.mono (by decide)) pass0 (pa_cons (pv 1) pa_nil)))) (pw_or1 (pt_not (pt_val (pe_methD (pv 0) T.c_Met D_Met_is_on_line (hr.mono (by decide)) pass0 (pa_cons (pv 1) pa_nil)))))))
 (pss_one (ps_ret pe_bl))
 pss_nil)
 (pss_one (ps_ret (pe_callB (cr_all rfl) (by rfl) T.n_all (by decide +kernel) (pa_cons (pe_lc (own := [("spare", 2)]) (by rfl) sc_Meetings___contains__.nd (pi_list (pe_methD (pv 0) T.c_Met D_Met_spares_at (hr.mono (by decide)) pass0 (pa_cons (pv 1) pa_nil))) (blkOk_by (own := [("spare", 2)]) (N := ["self", "value", "spare"]) (sc := defScope s_Meetings___contains__) (by decide +kernel)) (fun _ _ _ _ _ => (pg_name (i := 2) sc_Meetings___contains__.nd rfl (Or.inl rfl))) (fun _ _ _ _ _ => pts_nil) (fun _ _ _ _ _ => (pe_cmpR op_ge (pv 2) pe_int (nomark _)))) pa_nil))))), ?_⟩
    unfold goodB at k
    refine ⟨_, rfl, .inl ⟨qa', q, rfl, hq, _, rfl, if_no rfl ?_⟩⟩
    refine ⟨_, rfl, m, dx, _, rfl, h1, rfl, _, rfl, m, p, o, b, has, q0, st, e, qa', q, rfl, M, hq, bq, _, rfl, ?_⟩
    cases hon : onLine p o q with
    | false =>
      rw [hon] at k
      exact if_so rfl (k H (Ex.refl _))
    | true =>
      rw [hon] at k
      refine if_no rfl ?_
      have e1 : (Mt.spares b q).all (fun v => decide (0 ≤ v)) = ((Mt.spares b q).map fun v => decide (0 ≤ v)).all id := by rw [List.all_map]; rfl
      rw [Bool.true_and, e1] at k
      dsimp only [tNext, tRet]
      refine ev_all (K := K) (bs := (Mt.spares b q).map fun v => decide (0 ≤ v)) ?_ H (Ex.refl _) _ fun H1 x1 => k H1 x1
      have e2 : ((Mt.spares b q).map fun v => decide (0 ≤ v)).map V.bl = ((Mt.spares b q).map V.int).map fun x => match x with | .int i => V.bl (decide (i ≥ 0)) | _ => V.non := by
        rw [List.map_map, List.map_map]
        rfl
      rw [e2]
      refine el_mapL _ (fun H1 x1 Q' k' => ?_) (by
        rw [List.length_map]
        unfold Mt.spares
        cases b.high <;> cases b.rounds <;> simp) (fun x => rfl) (fun x hx H1 x1 => ?_)
      · exact ⟨_, rfl, m, dx, _, rfl, x1 _ _ h1, rfl, _, rfl, m, qa', dx, _, q, b, rfl, x1 _ _ h1, mF_bnd .., x1 _ _ hq, fun l1 H2 f2 e2 hl1 => k' l1 H2 f2 e2 hl1⟩
      · obtain ⟨i, _, rfl⟩ := List.mem_map.mp hx
        exact ev_op (ev_var rfl) ev_c rv_I0
end
end My
set_option maxHeartbeats 4000000
namespace My
open PySem L2 Lf Evl StX
abbrev s_Meetings_each : Stmt := inClass (top 19) 14
theorem sc_Meetings_each : GScope ["self", "way", "pair", "left"] ["self"] (defScope s_Meetings_each) := ⟨rfl, rfl, rfl, by decide +kernel, rfl, by decide +kernel, by decide +kernel⟩
/-- a list of refs to pairs -/
def PairAt (H : Hp) (y : V) (q : Int × Int) : Prop := ∃ a, y = .ref a ∧ H a = some (tup2 q)
abbrev PairsAt (H : Hp) : List V → List (Int × Int) → Prop := Paired (PairAt H)
theorem PairsAt.mono {H H' : Hp} (e : Ex H H') : ∀ {ys : List V} {qs : List (Int × Int)}, PairsAt H ys qs → PairsAt H' ys qs
  | _, _, .nil => .nil
  | _, _, .cons ⟨a, e1, h⟩ t => .cons ⟨a, e1, e _ _ h⟩ (PairsAt.mono e t)
theorem PairsAt.snoc {H : Hp} {y : V} {q : Int × Int} (hy : PairAt H y q) : ∀ {ys : List V} {qs : List (Int × Int)}, PairsAt H ys qs → PairsAt H (ys ++ [y]) (qs ++ [q])
  | _, _, .nil => .cons hy .nil
  | _, _, .cons h t => .cons h (PairsAt.snoc hy t)
theorem PairsAt.len {H : Hp} {ys : List V} {qs : List (Int × Int)} (h : PairsAt H ys qs) : ys.length = qs.length := Paired.length h
def spEach (C : Addr) : GZ.SpGw := fun vs H N Y Q => ∃ m p o b has q0 st e, vs = [.ref m] ∧ MetAt C H m p o b has q0 st e ∧ (∀ ys H', Ex H H' → PairsAt H' ys (Mt.firsts has q0 st e ys.length) → Y ys H') ∧
  (∀ ys H', Ex H H' → (∀ n, ys.length ≤ n → PairsAt H' ys (Mt.firsts has q0 st e n)) → Q ys H')
theorem range_map_succ {α : Type} (f : Nat → α) (k : Nat) : (List.range (k + 1)).map f = (List.range k).map f ++ [f k] := by rw [List.range_succ, List.map_append]; rfl
section
variable {P : Program} {w : World} {K : PySem.W.Frag} {mg : Str → Option Value} {base : Heap} {CN fI CA FE : Addr}
theorem ok_each (T : Txt P K mg CN fI CA FE) (D : Dm K FE "each" "Meetings.each" s_Meetings_each) (D_Met_is_empty : MethOk P w K mg base CX0 1 FE "is_empty" ["self"] (spEmpty FE)) (D_Met_end_by : MethOk P w K mg base CX0 2 FE "end_by" ["self", "growth"] (spEndBy FE))
    (D_Met_growth : MethOk P w K mg base CX0 1 FE "growth" ["self"] (spGrowth FE)) (D_Met_amount : PropOk P w K mg base CX0 2 FE "amount" ["self"] (spAmount FE)) (D_pair_after : DefOk P w K mg base CX0 1 "pair_after" ["pair", "step", "many"] spAfter) :
    GZ.MethGW P w K mg base 4 FE "each" ["self"] (spEach FE) := by
  refine GZ.okGW D sc_Meetings_each (fun _ _ _ _ _ _ us hl => match us, hl with | [_], _ => rfl) (fun vs H M Y Q h => ?_) (fun f cdv A outer s H vs N Y Q pn hr h => ?_)
  · obtain ⟨_, _, _, _, _, _, _, _, rfl, _⟩ := h
    rfl
  · obtain ⟨m, p, o, b, has, q0, st, e, rfl, M, kY, kQ⟩ := h
    obtain ⟨n1, n2, n3, n4, n5, n6, n7, n8, n9⟩ := T.nf
    obtain ⟨dx, pa, oa, la, qa, sa, ea, h1, h2, h3, h4, h5, h6, h7⟩ := M.at_
    refine ⟨_, (GZ.gssw_cons (GZ.gsw_if (pt_not (pt_val (pe_methD0 (pv 0) T.c_Met D_Met_is_empty (hr.mono (by decide)) pass0)))
 (GZ.gssw_cons (GZ.gsw_ps (ps_set (i := 1) sc_Meetings_each.nd rfl (Or.inl rfl) (pe_ifExp (pt_cmpR op_gt (pe_methD0 (pv 0) T.c_Met D_Met_growth (hr.mono (by decide)) pass0) pe_int (nomark _)) pe_int (pe_un un_neg pe_int))))
 (GZ.gssw_cons (GZ.gsw_ps (ps_par (by rfl) sc_Meetings_each.nd (i := 2) (j := 3) rfl rfl (by decide) rfl rfl (pa_cons (pe_methD (pv 0) T.c_Met D_Met_end_by (hr.mono (by decide)) pass0 (pa_cons (pv 1) pa_nil)) (pa_cons (pe_propD (pv 0) T.c_Met D_Met_amount (hr.mono (by decide)) pass0) pa_nil)) (by rfl)))
 (GZ.gssw_cons (GZ.gsw_while (PW.pt (pw_or (pt_cmpR op_isN (pv 3) pe_non (nomark _)) (pw_or1 (pt_cmpR op_gt (pv 3) pe_int (nomark _)))))
 (GZ.gssw_cons (GZ.gsw_yield (pv 2))
 (GZ.gssw_cons (GZ.gsw_ps (ps_set (i := 2) sc_Meetings_each.nd rfl (Or.inl rfl) (pe_callD D_pair_after (hr.mono (by decide)) pass0 (pa_cons (pv 2) (pa_cons (pe_ix ix_tup (pe_fld (pv 0) rfl) pe_int (fun _ _ => rfl)) (pa_cons (pv 1) pa_nil))))))
 (GZ.gssw_cons (GZ.gsw_ps (ps_set (i := 3) sc_Meetings_each.nd rfl (Or.inl rfl) (pe_ifExp (pt_cmpR op_isN (pv 3) pe_non (nomark _)) pe_non (pe_op op_sub (pv 3) pe_int))))
 GZ.gssw_nil))))
 GZ.gssw_nil)))
 GZ.gssw_nil)
 GZ.gssw_nil), ?_⟩
    refine ⟨_, rfl, m, dx, _, rfl, h1, rfl, m, p, o, b, has, q0, st, e, rfl, M, _, rfl, ?_⟩
    cases he : Mt.isEmpty has e with
    | true =>
      refine if_no rfl ?_
      refine kQ [] H (Ex.refl _) fun n _ => ?_
      have : Mt.firsts has q0 st e n = [] := by unfold Mt.firsts; rw [he, if_pos rfl]
      rw [this]
      exact .nil
    | false =>
      refine if_so rfl ?_
      have L := M.ok.yes (Mt.empty_false.mp he).1
      obtain ⟨q, eq⟩ := Mt.start_some M.ok L.ne
      have ef : ∀ n, Mt.firsts has q0 st e n = (List.range (Mt.howMany has e n)).map (Mt.eachP q st) := fun n => by unfold Mt.firsts; rw [he, if_neg Bool.false_ne_true, eq]
      have sg : Bd 5000 (Mt.sgn st) := by
        unfold Mt.sgn
        split
        · exact (Bd.lit (n := 1) (by decide)).mono (by decide)
        · exact (Bd.lit (n := 1) (by decide)).mono (by decide)
      -- way
      have way : ∀ (R : V → Hp → Prop), R (.int (Mt.sgn st)) H → tIf (tTest (tOp (rI0 fun i j => V.bl (decide (j < i))) (tMethD FE "growth" (spGrowth FE) E0 (tVar 0) tNil) (tC (.int 0)))) (tC (.int 1)) (tUn (rU fun i => .int (-i)) (tC (.int 1))) [some (V.ref m), none, none, none] H R := by
        intro R hR
        refine ⟨_, rfl, m, dx, _, rfl, h1, rfl, m, p, o, b, has, q0, st, e, rfl, M, _, _, rfl, rfl, _, rfl, ?_⟩
        unfold Mt.sgn at hR
        by_cases c : 0 < Mt.growth st
        · rw [if_pos c] at hR
          exact if_so (decide_eq_true c) hR
        · rw [if_neg c] at hR
          exact if_no (decide_eq_false c) ⟨_, rfl, hR⟩
      refine way _ ?_
      refine ⟨_, rfl, m, dx, _, rfl, h1, rfl, _, rfl, m, p, o, b, has, q0, st, e, _, rfl, M, fun hn => (by rw [eq] at hn; cases hn), fun q' hq' r H1 x1 hr1 => ?_⟩
      rw [eq] at hq'
      cases hq'
      refine ⟨_, rfl, m, dx, _, rfl, x1 _ _ h1, m, p, o, b, has, q0, st, e, rfl, M.mono x1, _, _, rfl, ?_⟩
      have A := Mt.amount_spec M.ok
      generalize ham : Mt.amount has e = am at A
      refine ⟨fun k ys σ H' => k = N - ys.length ∧ Ex H1 H' ∧ (∃ r, σ = [some (.ref m), some (.int (Mt.sgn st)), some (.ref r), some (oV (am.map fun a => a - (ys.length : Int)))] ∧ H' r = some (tup2 (Mt.eachP q st ys.length))) ∧ PairsAt H' ys ((List.range ys.length).map (Mt.eachP q st)) ∧ ∀ a, am = some a → (ys.length : Int) ≤ a, ⟨N - 0, rfl, Ex.refl _, ⟨r, ?_, ?_⟩, .nil, fun a ha => (A.1 a ha).1⟩, ?_⟩
      · cases am with
        | none => rfl
        | some a =>
          show _ = [_, _, _, some (V.int (a - 0))]
          rw [Int.sub_zero]
          rfl
      · rw [hr1]
        unfold Mt.eachP Mt.after
        simp
      rintro k ys σ H2 ⟨rfl, x2, ⟨r2, rfl, hr2⟩, hp, hle⟩
      cases am with
      | none =>
        refine ⟨_, rfl, rfl, _, rfl, if_so rfl (if_so rfl ?_)⟩
        refine ⟨fun ys' σ' H' => ys'.length = ys.length + 1 ∧ Ex H1 H' ∧ (∃ r, σ' = [some (.ref m), some (.int (Mt.sgn st)), some (.ref r), some (oV (Option.map (fun a : Int => a - (ys'.length : Int)) (none)))] ∧ H' r = some (tup2 (Mt.eachP q st ys'.length))) ∧ PairsAt H' ys' ((List.range ys'.length).map (Mt.eachP q st)) ∧ ∀ a', (none) = some a' → (ys'.length : Int) ≤ a', fun ys' σ' H' hlt ⟨z1, z2⟩ => ⟨N - ys'.length, by have hlt : ys'.length < N := hlt; omega, rfl, z2⟩, ?_⟩
        have hp1 : PairsAt H2 (ys ++ [V.ref r2]) ((List.range (ys.length + 1)).map (Mt.eachP q st)) := by
          rw [range_map_succ]
          exact PairsAt.snoc ⟨r2, rfl, hr2⟩ hp
        have hl1 : (ys ++ [V.ref r2]).length = ys.length + 1 := by rw [List.length_append, List.length_singleton]
        refine ⟨_, rfl, kY _ H2 (x1.trans x2) ?_, fun hlt => ?_⟩
        · rw [hl1, ef]
          have : Mt.howMany has e (ys.length + 1) = ys.length + 1 := by
            unfold Mt.howMany
            rw [ham]
            try (dsimp only; omega)
          rw [this]
          exact hp1
        have y1 := x1.trans x2
        refine ⟨_, rfl, _, rfl, m, FE, dx, _, V.ref la, rfl, y1 _ _ h1, T.c_Met, n7, rfl, _, _, _, _, rfl, rfl, SqT.of (y1 _ _ h4), rfl, _, rfl, r2, sa, _, st, Mt.sgn st, rfl, hr2, y1 _ _ h6, M.bq.2, sg, fun r3 H3 x3 hr3 => ?_⟩
        refine ⟨_, rfl, rfl, _, rfl, if_so rfl ?_⟩
        refine ⟨hl1, x2.trans x3, ⟨r3, rfl, ?_⟩, ?_, ?_⟩
        · rw [hr3, hl1]
          unfold Mt.eachP
          rw [Mt.after_after]
          congr 2
          rw [show ((ys.length + 1 : Nat) : Int) = (ys.length : Int) + 1 by omega, Int.mul_add, Int.mul_one]
        · rw [hl1]
          exact PairsAt.mono x3 hp1
        · rw [hl1]
          intro a' ha'
          cases ha'
      | some a =>
        refine ⟨_, rfl, rfl, _, rfl, if_no rfl ⟨_, rfl, _, _, rfl, rfl, _, rfl, ?_⟩⟩
        have a0 := (A.1 a rfl).1
        have hk := hle a rfl
        by_cases c : 0 < a - (ys.length : Int)
        · refine if_so (decide_eq_true c) ?_
          refine ⟨fun ys' σ' H' => ys'.length = ys.length + 1 ∧ Ex H1 H' ∧ (∃ r, σ' = [some (.ref m), some (.int (Mt.sgn st)), some (.ref r), some (oV (Option.map (fun a : Int => a - (ys'.length : Int)) (some a)))] ∧ H' r = some (tup2 (Mt.eachP q st ys'.length))) ∧ PairsAt H' ys' ((List.range ys'.length).map (Mt.eachP q st)) ∧ ∀ a', (some a) = some a' → (ys'.length : Int) ≤ a', fun ys' σ' H' hlt ⟨z1, z2⟩ => ⟨N - ys'.length, by have hlt : ys'.length < N := hlt; omega, rfl, z2⟩, ?_⟩
          have hp1 : PairsAt H2 (ys ++ [V.ref r2]) ((List.range (ys.length + 1)).map (Mt.eachP q st)) := by
            rw [range_map_succ]
            exact PairsAt.snoc ⟨r2, rfl, hr2⟩ hp
          have hl1 : (ys ++ [V.ref r2]).length = ys.length + 1 := by rw [List.length_append, List.length_singleton]
          refine ⟨_, rfl, kY _ H2 (x1.trans x2) ?_, fun hlt => ?_⟩
          · rw [hl1, ef]
            have : Mt.howMany has e (ys.length + 1) = ys.length + 1 := by
              unfold Mt.howMany
              rw [ham]
              try (dsimp only; omega)
            rw [this]
            exact hp1
          have y1 := x1.trans x2
          refine ⟨_, rfl, _, rfl, m, FE, dx, _, V.ref la, rfl, y1 _ _ h1, T.c_Met, n7, rfl, _, _, _, _, rfl, rfl, SqT.of (y1 _ _ h4), rfl, _, rfl, r2, sa, _, st, Mt.sgn st, rfl, hr2, y1 _ _ h6, M.bq.2, sg, fun r3 H3 x3 hr3 => ?_⟩
          refine ⟨_, rfl, rfl, _, rfl, if_no rfl ⟨_, rfl, _, _, rfl, rfl, ?_⟩⟩
          refine ⟨hl1, x2.trans x3, ⟨r3, (by
                      rw [hl1]
                      show _ = [_, _, _, some (V.int (a - ((ys.length + 1 : Nat) : Int)))]
                      rw [show a - ((ys.length + 1 : Nat) : Int) = a - (ys.length : Int) - 1 by omega]
                      rfl), ?_⟩, ?_, ?_⟩
          · rw [hr3, hl1]
            unfold Mt.eachP
            rw [Mt.after_after]
            congr 2
            rw [show ((ys.length + 1 : Nat) : Int) = (ys.length : Int) + 1 by omega, Int.mul_add, Int.mul_one]
          · rw [hl1]
            exact PairsAt.mono x3 hp1
          · rw [hl1]
            intro a' ha'
            cases ha'; omega
        · refine if_no (decide_eq_false c) ?_
          refine kQ ys H2 (x1.trans x2) fun n hn => ?_
          rw [ef]
          have : Mt.howMany has e n = ys.length := by
            unfold Mt.howMany
            rw [ham]
            dsimp only
            omega
          rw [this]
          exact hp
end
end My
set_option maxHeartbeats 4000000
namespace My
open PySem L2 Lf Evl StX
theorem ite2 {c : Bool} {A B : Prop} (h1 : c = true → A) (h2 : c = false → B) : if c = true then A else B := by
  cases c with
  | true => exact if_so rfl (h1 rfl)
  | false => exact if_no rfl (h2 rfl)
abbrev s_law_dice : Stmt := top 21
theorem sc_law_dice : FnScope ["_law_cell", "_law_number"] ["_law_cell"] (defScope s_law_dice) := ⟨rfl, rfl, rfl, by decide +kernel, rfl, by decide +kernel, by decide +kernel⟩
abbrev s_law_next : Stmt := top 22
theorem sc_law_next : FnScope ["_law_dice_here", "_law_many", "_law_found", "_law_mixed"] ["_law_dice_here", "_law_many"] (defScope s_law_next) := ⟨rfl, rfl, rfl, by decide +kernel, rfl, by decide +kernel, by decide +kernel⟩
abbrev s_law_cells : Stmt := top 23
theorem sc_law_cells : FnScope ["_law_script", "_law_most"] ["_law_script", "_law_most"] (defScope s_law_cells) := ⟨rfl, rfl, rfl, by decide +kernel, rfl, by decide +kernel, by decide +kernel⟩
abbrev s_law_is_count : Stmt := top 27
theorem sc_law_is_count : FnScope ["_law_value"] ["_law_value"] (defScope s_law_is_count) := ⟨rfl, rfl, rfl, by decide +kernel, rfl, by decide +kernel, by decide +kernel⟩
local macro_rules | `(tactic| walk_at "rd") => `(tactic| repeat (first | refine ⟨_, rfl, ?_⟩ | refine ⟨_, _, rfl, rfl, ?_⟩ | refine ⟨_, _, rfl, ?_⟩ | refine Or.inl ⟨_, rfl, ?_⟩ | refine Or.inr ⟨_, rfl, ?_⟩))
/-- the three ints of a die -/
def DiceL (xs : List V) : Prop := ∃ a b c : Int, xs = [.int a, .int b, .int c] ∧ -1099511627776 < b ∧ b < 1099511627776
def spDice : Sp := fun vs H Q _ => ∃ c : Int, vs = [.int c] ∧ ∀ p xs, H p = none → DiceL xs → Q (.ref p) (upd H p (.lst xs))
def spNext : Sp := fun vs H Q _ => ∃ (d : Addr) (m : Int) (xs : List V), vs = [.ref d, .int m] ∧ H d = some (.lst xs) ∧ DiceL xs ∧ 0 < m ∧ m < 1073741824 ∧
  ∀ r ys, 0 ≤ r → r < m → DiceL ys → Q (.int r) (upd H d (.lst ys))
/-- a draw from the die d whose value is less than b in size -/
def spDraw (b : Int) : Sp := fun vs H Q _ => ∃ (d : Addr) (xs : List V), vs = [.ref d] ∧ H d = some (.lst xs) ∧ DiceL xs ∧ ∀ r ys, -b < r → r < b → DiceL ys → Q (.int r) (upd H d (.lst ys))
theorem cpow (j : Nat) (h : (j : Int) ≤ 1000000) : CPow 10 (j : Int) := ⟨by omega, h, by decide⟩
def spCells (K : PySem.W.Frag) : Sp := fun vs H Q _ => ∃ (a : Addr) (ns : List Int), vs = [.ref a, .int 12] ∧ SqL K H a (ns.map V.int) ∧ ∀ p (cs : List Int) H', Ex H H' → H' p = some (.lst (cs.map V.int)) → Q (.ref p) H'
theorem upd_id {H : Hp} {a : Addr} {o : HO} (h : H a = some o) : upd H a o = H := by
  funext b
  unfold upd
  split
  · rename_i e
    rw [e, h]
  · rfl
section
variable {P : Program} {w : World} {K : PySem.W.Frag} {mg : Str → Option Value} {base : Heap} {CN fI CA FE : Addr}
theorem ok_law_dice (T : Txt P K mg CN fI CA FE) (D : Df K mg "_law_dice" s_law_dice) : DefOk P w K mg base CX0 1 "_law_dice" ["_law_cell"] spDice := by
  refine D.ok sc_law_dice (fun _ _ _ _ _ _ us hl => match us, hl with | [_], _ => rfl) (fun vs H Q E h => ?_) (fun f cdv A outer s H vs Q E hr h => ?_)
  · obtain ⟨v, rfl, _⟩ := h
    rfl
  · obtain ⟨c, rfl, q⟩ := h
    refine ⟨_, (pss_cons (ps_set (i := 1) sc_law_dice.nd rfl (Or.inl rfl) (pe_callTy call_int1 (by rfl) T.n_int (by decide +kernel) (pa_cons (pe_callB call_abs (by rfl) T.n_abs (by decide +kernel) (pa_cons (pv 0) pa_nil)) pa_nil)))
 (pss_one (ps_ret (pe_lst (pa_cons (pe_callB (call_max2 rfl) (by rfl) T.n_max (by decide +kernel) (pa_cons pe_int (pa_cons (pe_op op_sub (pv 1) (pe_op op_pow pe_int pe_int)) pa_nil))) (pa_cons (pe_op op_mod (pe_callTy call_int1 (by rfl) T.n_int (by decide +kernel) (pa_cons (pe_op op_add (pe_op op_mul (pv 1) pe_int) (pe_callTy call_int1 (by rfl) T.n_int (by decide +kernel) (pa_cons (pe_cmpR op_lt (pv 0) pe_int (nomark _)) pa_nil))) pa_nil)) pe_int) (pa_cons pe_int pa_nil))))))), ?_⟩
    walk_at "rd"
    refine ⟨cpow 18 (by decide), ?_⟩
    walk_at "rd"
    refine ⟨.inr ⟨by decide, by decide⟩, ?_⟩
    walk_at "rd"
    refine ⟨show (0 : Int) < 2147483629 by decide, ?_⟩
    refine ⟨show 3 ≤ sizeLine by decide, fun p hp => q p _ hp ⟨_, _, _, rfl, ?_, ?_⟩⟩
    · have h1 := Int.emod_nonneg ((if c < 0 then -c else c) * 2 + if decide (c < 0) = true then 1 else 0) (show (2147483629 : Int) ≠ 0 by decide)
      omega
    · have h1 := Int.emod_lt_of_pos ((if c < 0 then -c else c) * 2 + if decide (c < 0) = true then 1 else 0) (show (0 : Int) < 2147483629 by decide)
      omega
theorem ok_law_next (T : Txt P K mg CN fI CA FE) (D : Df K mg "_law_next" s_law_next) : DefOk P w K mg base CX0 1 "_law_next" ["_law_dice_here", "_law_many"] spNext := by
  refine D.ok sc_law_next (fun _ _ _ _ _ _ us hl => match us, hl with | [_, _], _ => rfl) (fun vs H Q E h => ?_) (fun f cdv A outer s H vs Q E hr h => ?_)
  · obtain ⟨d, m, xs, rfl, _⟩ := h
    rfl
  · obtain ⟨d, m, _, rfl, hd, ⟨a, b, c, rfl, hb1, hb2⟩, m0, m1, q⟩ := h
    refine ⟨_, (pss_cons (ps_if (pt_cmpR op_gt (pe_ix ix_list (pv 0) pe_int (fun _ _ => rfl)) pe_int (nomark _))
 (pss_cons (ps_set (i := 2) sc_law_next.nd rfl (Or.inl rfl) (pe_op op_mod (pe_callTy call_int1 (by rfl) T.n_int (by decide +kernel) (pa_cons (pe_ix ix_list (pv 0) pe_int (fun _ _ => rfl)) pa_nil)) (pv 1)))
 (pss_cons (ps_asg (pe_op op_fdiv (pe_ix ix_list (pv 0) pe_int (fun _ _ => rfl)) (pv 1)) (pg_sub (pv 0) pe_int set_list))
 (pss_one (ps_ret (pv 2)))))
 pss_nil)
 (pss_cons (ps_asg (pe_op op_add (pe_ix ix_list (pv 0) pe_int (fun _ _ => rfl)) pe_int) (pg_sub (pv 0) pe_int set_list))
 (pss_cons (ps_set (i := 3) sc_law_next.nd rfl (Or.inl rfl) (pe_op op_mod (pe_callTy call_int1 (by rfl) T.n_int (by decide +kernel) (pa_cons (pe_op op_mul (pe_op op_add (pe_ix ix_list (pv 0) pe_int (fun _ _ => rfl)) pe_int) (pe_op op_add (pe_op op_mul (pe_ix ix_list (pv 0) pe_int (fun _ _ => rfl)) pe_int) pe_int)) pa_nil)) pe_int))
 (pss_cons (ps_set (i := 3) sc_law_next.nd rfl (Or.inl rfl) (pe_op op_mod (pe_callTy call_int1 (by rfl) T.n_int (by decide +kernel) (pa_cons (pe_op op_add (pe_op op_mul (pv 3) (pv 3)) (pe_op op_mul (pe_ix ix_list (pv 0) pe_int (fun _ _ => rfl)) pe_int)) pa_nil)) pe_int))
 (pss_one (ps_ret (pe_op op_mod (pe_callTy call_int1 (by rfl) T.n_int (by decide +kernel) (pa_cons (pe_op op_fdiv (pv 3) pe_int) pa_nil)) (pv 1)))))))), ?_⟩
    refine ⟨_, rfl, _, _, _, _, rfl, rfl, SqL.of hd, rfl, _, _, rfl, rfl, _, rfl, ?_⟩
    cases ha : decide (0 < a) with
    | true =>
      refine if_so rfl ?_
      refine ⟨_, rfl, _, _, _, _, rfl, rfl, SqL.of hd, rfl, .inl ⟨_, rfl, _, rfl, _, _, rfl, rfl, m0, ?_⟩⟩
      refine ⟨_, rfl, _, _, _, _, rfl, rfl, SqL.of hd, rfl, _, rfl, _, _, rfl, rfl, ⟨m0, m1⟩, _, rfl, _, _, _, _, rfl, rfl, hd, rfl, ?_⟩
      exact ⟨_, rfl, q _ _ (Int.emod_nonneg _ (by omega)) (Int.emod_lt_of_pos _ m0) ⟨_, _, _, rfl, hb1, hb2⟩⟩
    | false =>
      refine if_no rfl ?_
      refine ⟨_, rfl, _, _, _, _, rfl, rfl, SqL.of hd, rfl, _, _, rfl, rfl, _, rfl, _, _, _, _, rfl, rfl, hd, rfl, ?_⟩
      have hd2 : upd H d (.lst ([V.int a, V.int b, V.int c].set 2 (V.int (c + 1)))) d = some (.lst [.int a, .int b, .int (c + 1)]) := upd_same
      refine ⟨_, rfl, _, _, _, _, rfl, rfl, SqL.of hd2, rfl, _, _, rfl, rfl, _, rfl, _, _, _, _, rfl, rfl, SqL.of hd2, rfl, _, _, rfl, rfl, .inr ⟨by decide, by decide⟩, _, _, rfl, rfl, _, _, rfl, rfl, .inl ⟨by omega, by omega⟩, .inl ⟨_, rfl, _, _, rfl, rfl, show (0 : Int) < 2147483587 by decide, ?_⟩⟩
      have e1 := Int.emod_nonneg ((b + 40503) * ((c + 1) * 69621 + 1013)) (show (2147483587 : Int) ≠ 0 by decide)
      have e2 := Int.emod_lt_of_pos ((b + 40503) * ((c + 1) * 69621 + 1013)) (show (0 : Int) < 2147483587 by decide)
      refine ⟨_, rfl, _, rfl, _, _, rfl, rfl, .inl ⟨by omega, by omega⟩, _, rfl, _, _, _, _, rfl, rfl, SqL.of hd2, rfl, _, _, rfl, rfl, .inr ⟨by decide, by decide⟩, _, _, rfl, rfl, .inl ⟨_, rfl, _, _, rfl, rfl, show (0 : Int) < 2147483579 by decide, ?_⟩⟩
      refine ⟨_, rfl, _, _, rfl, rfl, ⟨by decide, by decide⟩, .inl ⟨_, rfl, _, rfl, _, _, rfl, rfl, m0, ?_⟩⟩
      exact q _ _ (Int.emod_nonneg _ (by omega)) (Int.emod_lt_of_pos _ m0) ⟨_, _, _, rfl, hb1, hb2⟩
theorem ok_law_cells (T : Txt P K mg CN fI CA FE) (D : Df K mg "_law_cells" s_law_cells) : DefOk P w K mg base CX0 1 "_law_cells" ["_law_script", "_law_most"] (spCells K) := by
  refine D.ok sc_law_cells (fun _ _ _ _ _ _ us hl => match us, hl with | [_, _], _ => rfl) (fun vs H Q E h => ?_) (fun f cdv A outer s H vs Q E hr h => ?_)
  · obtain ⟨a, ns, rfl, _⟩ := h
    rfl
  · obtain ⟨a, ns, rfl, hS, q⟩ := h
    refine ⟨_, (pss_one (ps_ret (pe_ifExp (pt_cmpR op_gt (pe_callB call_len_seq (by rfl) T.n_len (by decide +kernel) (pa_cons (pv 0) pa_nil)) pe_int (nomark _)) (pe_callTy call_list_of (by rfl) T.n_list (by decide +kernel) (pa_cons (pe_slice sl_list (pv 0) po_none (po_some (pv 1))) pa_nil)) (pe_lst (pa_cons pe_int pa_nil))))), ?_⟩
    refine ⟨_, rfl, _, _, rfl, .inl hS, _, _, rfl, rfl, _, rfl, ?_⟩
    refine ite2 (fun _ => ?_) (fun _ => ?_)
    · refine ⟨_, rfl, _, rfl, _, rfl, _, _, rfl, hS, fun p hp => ?_⟩
      refine ⟨_, _, rfl, .inl (SqL.of upd_same), fun l hl => ?_⟩
      have e : ∃ cs : List Int, cutV (ns.map V.int) none (some 12) = cs.map V.int := ⟨(ns.drop _).take _, by unfold cutV; rw [List.map_take, List.map_drop]⟩
      obtain ⟨cs, ec⟩ := e
      refine q l cs _ ((Ex.new hp).trans (Ex.new hl)) ?_
      rw [upd_same, ec]
    · exact ⟨show 1 ≤ sizeLine by decide, fun p hp => q p [7] _ (Ex.new hp) upd_same⟩
theorem ok_law_is_count (T : Txt P K mg CN fI CA FE) (D : Df K mg "_law_is_count" s_law_is_count) : DefOk P w K mg base CX0 1 "_law_is_count" ["_law_value"] spIsNumber := by
  refine D.ok sc_law_is_count (fun _ _ _ _ _ _ us hl => match us, hl with | [_], _ => rfl) (fun vs H Q E h => ?_) (fun f cdv A outer s H vs Q E hr h => ?_)
  · obtain ⟨v, t, rfl, _⟩ := h
    rfl
  · obtain ⟨v, t, rfl, kd, q⟩ := h
    refine ⟨_, (pss_one (ps_ret (pe_and (pe_callB call_isi (by rfl) T.n_isinstance (by decide +kernel) (pa_cons (pv 0) (pa_cons (pe_bltn (v := .ty "int") (by rfl) T.n_int (by decide +kernel) rfl) pa_nil))) (pe_one (pe_not (pe_callB call_isi (by rfl) T.n_isinstance (by decide +kernel) (pa_cons (pv 0) (pa_cons (pe_bltn (v := .ty "bool") (by rfl) T.n_bool (by decide +kernel) rfl) pa_nil)))))))), ?_⟩
    refine ⟨v, rfl, v, _, _, _, _, rfl, .ty "int", kd.ty K, kit_ty kd.int_, _, rfl, ?_⟩
    have e := kd.num_
    cases h : (numV v || t == "bool") with
    | true =>
      rw [h] at e
      refine if_so rfl ⟨v, rfl, v, _, _, _, _, rfl, .ty "bool", kd.ty K, kit_ty kd.bool_, _, rfl, ?_⟩
      rw [if_pos rfl] at e
      show Q (.bl (!(t == "bool"))) H
      rw [e]
      exact q
    | false =>
      rw [h] at e
      refine if_no rfl ?_
      rw [if_neg Bool.false_ne_true] at e
      rw [e]
      exact q
end

abbrev s_law_bounds : Stmt := top 30
theorem sc_law_bounds : FnScope ["_law_dice_here", "_law_most", "_law_low", "_law_high", "_law_first"] ["_law_dice_here", "_law_most"] (defScope s_law_bounds) := ⟨rfl, rfl, rfl, by decide +kernel, rfl, by decide +kernel, by decide +kernel⟩
abbrev bndT (b : Mt.Bnd) : HO := .tup [.int b.low, oV b.high, .int b.first, oV b.rounds]
/-- the bounds that the law draws -/
structure LBnd (b : Mt.Bnd) : Prop where
  lo : 0 ≤ b.low ∧ b.low < 7
  hi : ∀ h, b.high = some h → -2 ≤ h ∧ h < 11
  fi : 0 ≤ b.first ∧ b.first < 7
  ro : ∀ n, b.rounds = some n → 0 ≤ n ∧ n < 21
def spBounds : Sp := fun vs H Q _ => ∃ (d : Addr) (xs : List V), vs = [.ref d, .int 7] ∧ H d = some (.lst xs) ∧ DiceL xs ∧ ∀ r H' ys b, Eb d H H' → H' d = some (.lst ys) → DiceL ys → H' r = some (bndT b) → LBnd b → Q (.ref r) H'
theorem bd18 {i : Int} (h1 : -1000000000000000000 < i) (h2 : i < 1000000000000000000) : Bd 64 i := by
  unfold Bd
  omega
theorem bd_small {i : Int} (h1 : -1000 < i) (h2 : i < 1000) : Bd 64 i := by
  unfold Bd
  omega
section
variable {P : Program} {w : World} {K : PySem.W.Frag} {mg : Str → Option Value} {base : Heap} {CN fI CA FE : Addr}
theorem ok_law_bounds (T : Txt P K mg CN fI CA FE) (D : Df K mg "_law_bounds" s_law_bounds) (D_law_next : DefOk P w K mg base CX0 1 "_law_next" ["_law_dice_here", "_law_many"] spNext) : DefOk P w K mg base CX0 2 "_law_bounds" ["_law_dice_here", "_law_most"] spBounds := by
  refine D.ok sc_law_bounds (fun _ _ _ _ _ _ us hl => match us, hl with | [_, _], _ => rfl) (fun vs H Q E h => ?_) (fun f cdv A outer s H vs Q E hr h => ?_)
  · obtain ⟨_, _, rfl, _⟩ := h
    rfl
  · obtain ⟨d, xs, rfl, hd, hx, k⟩ := h
    refine ⟨_, (pss_cons (ps_set (i := 2) sc_law_bounds.nd rfl (Or.inl rfl) (pe_callD D_law_next (hr.mono (by decide)) pass0 (pa_cons (pv 0) (pa_cons (pv 1) pa_nil))))
 (pss_cons (ps_set (i := 3) sc_law_bounds.nd rfl (Or.inl rfl) (pe_ifExp (pt_cmpR op_eq (pe_callD D_law_next (hr.mono (by decide)) pass0 (pa_cons (pv 0) (pa_cons pe_int pa_nil))) pe_int (nomark _)) (pe_op op_add (pe_op op_sub (pv 2) pe_int) (pe_callD D_law_next (hr.mono (by decide)) pass0 (pa_cons (pv 0) (pa_cons (pv 1) pa_nil)))) pe_non))
 (pss_cons (ps_set (i := 4) sc_law_bounds.nd rfl (Or.inl rfl) (pe_ifExp (pt_cmpR op_eq (pe_callD D_law_next (hr.mono (by decide)) pass0 (pa_cons (pv 0) (pa_cons pe_int pa_nil))) pe_int (nomark _)) (pe_callD D_law_next (hr.mono (by decide)) pass0 (pa_cons (pv 0) (pa_cons (pv 1) pa_nil))) pe_int))
 (pss_one (ps_ret (pe_tup (pa_cons (pv 2) (pa_cons (pv 3) (pa_cons (pv 4) (pa_cons (pe_ifExp (pt_cmpR op_eq (pe_callD D_law_next (hr.mono (by decide)) pass0 (pa_cons (pv 0) (pa_cons pe_int pa_nil))) pe_int (nomark _)) (pe_callD D_law_next (hr.mono (by decide)) pass0 (pa_cons (pv 0) (pa_cons (pe_op op_mulW pe_int (pv 1)) pa_nil))) pe_non) pa_nil)))))))))), ?_⟩
    have f3 : ∀ (lo : Int) (hi : Option Int) (fi : Int) (H3 : Hp) (ws : List V), 0 ≤ lo → lo < 7 → (∀ h, hi = some h → -2 ≤ h ∧ h < 11) → 0 ≤ fi → fi < 7 → Eb d H H3 → H3 d = some (.lst ws) → DiceL ws →
        tRet (tTup (tCons (tVar 2) (tCons (tVar 3) (tCons (tVar 4) (tCons (tIf (tTest (tOp rEq (tCallD spNext E0 (tCons (tVar 0) (tCons (tC (.int 2)) tNil))) (tC (.int 1)))) (tCallD spNext E0 (tCons (tVar 0) (tCons (tOp (rI CMulW fun i j => .int (i * j)) (tC (.int 3)) (tVar 1)) tNil))) (tC .non)) tNil)))))
          { nx := fun _ H' => Q .non H', rt := Q } [some (.ref d), some (.int 7), some (.int lo), some (oV hi), some (.int fi)] H3 := by
      intro lo hi fi H3 ws l0 l1 h1 f0 f1 eb hd3 hw
      refine ⟨_, rfl, _, rfl, _, rfl, _, rfl, d, _, ws, rfl, hd3, hw, by decide, by decide, fun r as r0 r1 ha => ?_⟩
      refine ⟨rfl, _, rfl, ?_⟩
      refine ite2 (fun _ => ?_) (fun _ => ?_)
      · refine ⟨_, rfl, _, rfl, _, _, rfl, rfl, (by unfold CMulW; decide +kernel), ?_⟩
        refine ⟨d, _, as, rfl, upd_same, ha, by decide, by decide, fun n cs n0 n1 hc => ⟨show 4 ≤ sizeLine by decide, fun t ht => ?_⟩⟩
        exact k t _ cs ⟨lo, hi, fi, some n⟩ (((eb.trans Eb.upd).trans Eb.upd).trans (Eb.of (Ex.new ht))) (Ex.new ht _ _ upd_same) hc upd_same ⟨⟨l0, l1⟩, h1, ⟨f0, f1⟩, fun m hm => by cases hm; exact ⟨n0, n1⟩⟩
      · refine ⟨show 4 ≤ sizeLine by decide, fun t ht => ?_⟩
        exact k t _ as ⟨lo, hi, fi, none⟩ ((eb.trans Eb.upd).trans (Eb.of (Ex.new ht))) (Ex.new ht _ _ upd_same) ha upd_same ⟨⟨l0, l1⟩, h1, ⟨f0, f1⟩, fun m hm => by cases hm⟩
    have f2 : ∀ (lo : Int) (hi : Option Int) (H3 : Hp) (ws : List V), 0 ≤ lo → lo < 7 → (∀ h, hi = some h → -2 ≤ h ∧ h < 11) → Eb d H H3 → H3 d = some (.lst ws) → DiceL ws →
        tSeq (tAsg (tIf (tTest (tOp rEq (tCallD spNext E0 (tCons (tVar 0) (tCons (tC (.int 2)) tNil))) (tC (.int 1)))) (tCallD spNext E0 (tCons (tVar 0) (tCons (tVar 1) tNil))) (tC (.int 0))) (gName 4))
          (tRet (tTup (tCons (tVar 2) (tCons (tVar 3) (tCons (tVar 4) (tCons (tIf (tTest (tOp rEq (tCallD spNext E0 (tCons (tVar 0) (tCons (tC (.int 2)) tNil))) (tC (.int 1)))) (tCallD spNext E0 (tCons (tVar 0) (tCons (tOp (rI CMulW fun i j => .int (i * j)) (tC (.int 3)) (tVar 1)) tNil))) (tC .non)) tNil))))))
          { nx := fun _ H' => Q .non H', rt := Q } [some (.ref d), some (.int 7), some (.int lo), some (oV hi), none] H3 := by
      intro lo hi H3 ws l0 l1 h1 eb hd3 hw
      refine ⟨_, rfl, d, _, ws, rfl, hd3, hw, by decide, by decide, fun r as r0 r1 ha => ?_⟩
      refine ⟨rfl, _, rfl, ?_⟩
      refine ite2 (fun _ => ?_) (fun _ => ?_)
      · refine ⟨_, rfl, _, rfl, d, _, as, rfl, upd_same, ha, by decide, by decide, fun n cs n0 n1 hc => ?_⟩
        exact f3 lo hi n _ cs l0 l1 h1 n0 n1 ((eb.trans Eb.upd).trans Eb.upd) upd_same hc
      · exact f3 lo hi 0 _ as l0 l1 h1 (by decide) (by decide) (eb.trans Eb.upd) upd_same ha
    refine ⟨_, rfl, _, rfl, d, _, xs, rfl, hd, hx, by decide, by decide, fun lo ys l0 l1 hy => ?_⟩
    refine ⟨_, rfl, d, _, ys, rfl, upd_same, hy, by decide, by decide, fun r as r0 r1 ha => ?_⟩
    refine ⟨rfl, _, rfl, ?_⟩
    refine ite2 (fun _ => ?_) (fun _ => ?_)
    · refine ⟨_, rfl, _, _, rfl, rfl, ?_⟩
      refine ⟨_, rfl, _, rfl, d, _, as, rfl, upd_same, ha, by decide, by decide, fun n cs n0 n1 hc => ⟨_, _, rfl, rfl, ?_⟩⟩
      exact f2 lo (some (lo - 2 + n)) _ cs l0 l1 (fun h hh => by cases hh; omega) ((Eb.upd.trans Eb.upd).trans Eb.upd) upd_same hc
    · exact f2 lo none _ as l0 l1 (fun h hh => by cases hh) (Eb.upd.trans Eb.upd) upd_same ha
end
end My
set_option maxHeartbeats 4000000
namespace My
open PySem L2 Lf Evl StX
def kwd : List (Str × V) := [("low", .int 0), ("high", .non), ("first", .int 0), ("rounds", .non)]
abbrev FunI (K : PySem.W.Frag) (f : Addr) (fd : FuncData) : Prop := FunD K "__init__" "Meetings.__init__" (defArgs s_Meetings___init__) (defBody s_Meetings___init__) (defScope s_Meetings___init__) [] kwd f fd
abbrev psI : List Str := ["self", "place", "other", "low", "high", "first", "rounds"]
section
variable {K : PySem.W.Frag} {f : Addr} {fd : FuncData}
theorem bind0 (F : FunI K f fd) : ∃ ds, Vals [V.int 0, .non, .int 0, .non] ds ∧ Binds K fd psI ds :=
  F.binds0 3 (by intro z; cases z) rfl fun D doc pm an cdv ct us ks l1 l2 => match us, l1, ks, l2 with
    | [a, b, c], _, [k1, k2, k3, k4], _ => ⟨_, _, _, _, _, _, rfl, rfl, _, _, _, _, _, _, rfl, rfl, _, _, _, _, _, _, rfl, rfl, _, _, _, _, _, _, rfl, rfl, rfl⟩
theorem bindB (F : FunI K f fd) : ∃ mv : List Value, KBn K fd psI 3 ["low"] (fun us ws => us ++ (ws ++ mv)) (fun vs zs => vs ++ (zs ++ [.non, .int 0, .non])) :=
  F.kbinds0 3 ["low"] [("high", .non), ("first", .int 0), ("rounds", .non)] (fun us mv ws => us ++ (ws ++ mv)) (by intro z; cases z) (by unfold kwd; simp) (fun h1 h2 h3 => h1.append (h3.append h2)) fun D doc pm an cdv ct us mv ws l1 l2 l3 => match us, l1, mv, l2, ws, l3 with
    | [a, b, c], _, [k1, k2, k3], _, [w1], _ => ⟨_, _, _, _, _, _, rfl, rfl, _, _, _, _, _, _, rfl, rfl, _, _, _, _, _, _, rfl, rfl, rfl⟩
theorem bindC (F : FunI K f fd) : ∃ mv : List Value, KBn K fd psI 3 ["first", "low"] (fun us ws => us ++ (ws.drop 1 ++ (mv.take 1 ++ (ws.take 1 ++ mv.drop 1)))) (fun vs zs => vs ++ (zs.drop 1 ++ ([V.non].take 1 ++ (zs.take 1 ++ [V.non, V.non].drop 1)))) :=
  F.kbinds0 3 ["first", "low"] [("high", .non), ("rounds", .non)] (fun us mv ws => us ++ (ws.drop 1 ++ (mv.take 1 ++ (ws.take 1 ++ mv.drop 1)))) (by intro z; cases z) (by unfold kwd; simp) (fun h1 h2 h3 => h1.append ((h3.drop 1).append ((h2.take 1).append ((h3.take 1).append (h2.drop 1))))) fun D doc pm an cdv ct us mv ws l1 l2 l3 => match us, l1, mv, l2, ws, l3 with
    | [a, b, c], _, [k1, k2], _, [w1, w2], _ => ⟨_, _, _, _, _, _, rfl, rfl, _, _, _, _, _, _, rfl, rfl, rfl⟩
theorem bindR (F : FunI K f fd) : ∃ mv : List Value, KBn K fd psI 3 ["rounds", "first", "high", "low"] (fun us ws => us ++ (ws.drop 3 ++ ((ws.drop 2).take 1 ++ ((ws.drop 1).take 1 ++ (ws.take 1 ++ mv))))) (fun vs zs => vs ++ (zs.drop 3 ++ ((zs.drop 2).take 1 ++ ((zs.drop 1).take 1 ++ (zs.take 1 ++ []))))) :=
  F.kbinds0 3 ["rounds", "first", "high", "low"] [] (fun us mv ws => us ++ (ws.drop 3 ++ ((ws.drop 2).take 1 ++ ((ws.drop 1).take 1 ++ (ws.take 1 ++ mv))))) (by intro z; cases z) (by simp) (fun h1 h2 h3 => h1.append ((h3.drop 3).append (((h3.drop 2).take 1).append (((h3.drop 1).take 1).append ((h3.take 1).append h2))))) fun D doc pm an cdv ct us mv ws l1 l2 l3 => match us, l1, mv, l2, ws, l3 with
    | [a, b, c], _, [], _, [w1, w2, w3, w4], _ => rfl
theorem bindD (F : FunI K f fd) : ∃ mv : List Value, KBn K fd psI 3 ["low", "high", "first", "rounds"] (fun us ws => us ++ (ws ++ mv)) (fun vs zs => vs ++ (zs ++ [])) :=
  F.kbinds0 3 ["low", "high", "first", "rounds"] [] (fun us mv ws => us ++ (ws ++ mv)) (by intro z; cases z) (by simp) (fun h1 h2 h3 => h1.append (h3.append h2)) fun D doc pm an cdv ct us mv ws l1 l2 l3 => match us, l1, mv, l2, ws, l3 with
    | [a, b, c], _, [], _, [w1, w2, w3, w4], _ => rfl
end
/-- places: steps of at most n bits, offsets of at most m -/
structure PlN (n m : Nat) (p o : Int × Int) : Prop where
  s1 : Bd n p.1
  o1 : Bd m p.2
  s2 : Bd n o.1
  o2 : Bd m o.2
  nz : ¬ (p.1 = 0 ∧ o.1 = 0)
abbrev PlD := PlN 64 140
abbrev PlOk := PlN 70 150
theorem PlN.ok {p o : Int × Int} (h : PlD p o) : PlOk p o := ⟨h.s1.mono (by decide), h.o1.mono (by decide), h.s2.mono (by decide), h.o2.mono (by decide), h.nz⟩
/-- the bounds that are drawn -/
structure KBnd (b : Mt.Bnd) : Prop where
  lo : 0 ≤ b.low ∧ b.low < 4000000000000000000
  hi : ∀ h, b.high = some h → -2 ≤ h ∧ h < 4000000000000000000
  fi : 0 ≤ b.first ∧ b.first < 4000000000000000000
  ro : ∀ n, b.rounds = some n → 0 ≤ n ∧ n < 4000000000000000000
theorem bd64 {i : Int} (h1 : -8000000000000000000 < i) (h2 : i < 8000000000000000000) : Bd 64 i := by
  unfold Bd
  omega
theorem great64 {i : Int} (h1 : -8000000000000000000 < i) (h2 : i < 8000000000000000000) : Great i := bd_great (bd64 h1 h2) (by decide)
theorem KBnd.ok {b : Mt.Bnd} (h : KBnd b) : BndOk b := by
  obtain ⟨⟨l0, l1⟩, h1, ⟨f0, f1⟩, r1⟩ := h
  exact ⟨⟨great64 (by omega) (by omega), l0⟩, fun x e => great64 (by have := h1 x e; omega) (by have := h1 x e; omega), ⟨great64 (by omega) (by omega), f0⟩, fun x e => ⟨great64 (by have := r1 x e; omega) (by have := r1 x e; omega), (r1 x e).1⟩⟩
theorem LBnd.kb {b : Mt.Bnd} (h : LBnd b) : KBnd b := by
  obtain ⟨⟨l0, l1⟩, h1, ⟨f0, f1⟩, r1⟩ := h
  exact ⟨⟨l0, by omega⟩, fun x e => ⟨(h1 x e).1, by have := h1 x e; omega⟩, ⟨f0, by omega⟩, fun x e => ⟨(r1 x e).1, by have := r1 x e; omega⟩⟩
theorem at2r {a b : V} {r : Int} (h0 : 0 ≤ r) (h1 : r < 2) : ∃ v, atI [a, b] r = some v ∧ (v = a ∨ v = b) := by
  have : r = 0 ∨ r = 1 := by omega
  rcases this with rfl | rfl
  · exact ⟨a, rfl, .inl rfl⟩
  · exact ⟨b, rfl, .inr rfl⟩
theorem at3r {a b c : V} {r : Int} (h0 : 0 ≤ r) (h1 : r < 3) : ∃ v, atI [a, b, c] r = some v ∧ (v = a ∨ v = b ∨ v = c) := by
  have : r = 0 ∨ r = 1 ∨ r = 2 := by omega
  rcases this with rfl | rfl | rfl
  · exact ⟨a, rfl, .inl rfl⟩
  · exact ⟨b, rfl, .inr (.inl rfl)⟩
  · exact ⟨c, rfl, .inr (.inr rfl)⟩
theorem Eb.tup {d a : Addr} {H H' : Hp} {xs ys : List V} (e : Eb d H H') (hd : H d = some (.lst xs)) (ha : H a = some (.tup ys)) : H' a = some (.tup ys) := e a _ (fun z => by rw [z, hd] at ha; cases ha) ha
abbrev s_law_made : Stmt := top 26
theorem sc_law_made : FnScope ["_law_place", "_law_other_here", "_law_bounds_here", "_law_low", "_law_high", "_law_first", "_law_rounds"] ["_law_place", "_law_other_here", "_law_bounds_here"] (defScope s_law_made) := ⟨rfl, rfl, rfl, by decide +kernel, rfl, by decide +kernel, by decide +kernel⟩
def InitOk (P : Program) (w : World) (K : PySem.W.Frag) (mg : Str → Option Value) (base : Heap) (FE : Addr) : Prop := ∃ f fd, Mk K FE f ∧ FunI K f fd ∧ FnOk P w K mg base (L2.CX P w) 5 f fd psI (spInit FE)
def spMade (C : Addr) : Sp := fun vs H Q _ => ∃ (pa oa ba : Addr) (p o : Int × Int) (b : Mt.Bnd), vs = [.ref pa, .ref oa, .ref ba] ∧ H pa = some (tup2 p) ∧ H oa = some (tup2 o) ∧ H ba = some (bndT b) ∧ PlOk p o ∧ BndOk b ∧
  ∀ m H' has q0 st e, Ex H H' → MetAt C H' m p o b has q0 st e → Q (.ref m) H'
theorem made {C : Addr} {H : Hp} {pa oa : Addr} {p o : Int × Int} {b : Mt.Bnd} {Q : VK} {E : XK} (hp : H pa = some (tup2 p)) (ho : H oa = some (tup2 o)) (P : PlOk p o) (B : BndOk b)
    (k : ∀ m H' has q0 st e, Ex H H' → MetAt C H' m p o b has q0 st e → Q (.ref m) H') (x dx : Addr) (hx : H x = none) (hdx : H dx = none) (ne : dx ≠ x) :
    spInit C [.ref x, .ref pa, .ref oa, .int b.low, oV b.high, .int b.first, oV b.rounds] (upd (upd H dx (.own x)) x (.ins C dx [])) (fun v H3 => v = .non ∧ Q (.ref x) H3) E := by
  have e1 := Ex.new (o := HO.own x) hdx
  have g : ∀ {i : Int}, Bd 150 i → Great i := fun h => bd_great h (by decide)
  refine ⟨x, dx, pa, oa, p, o, b, upd H dx (.own x), rfl, rfl, by rw [upd_ne ne.symm]; exact hx, e1 _ _ hp, e1 _ _ ho, g (P.s1.mono (by decide)), g P.o1, g (P.s2.mono (by decide)), g P.o2, P.nz, B, fun H' has q0 st e eb M => ⟨rfl, ?_⟩⟩
  exact k x H' has q0 st e (fun a ob ha => eb a ob (ne_of_none ha hx) (e1 _ _ ha)) M
section
variable {P : Program} {w : World} {K : PySem.W.Frag} {mg : Str → Option Value} {base : Heap} {CN fI CA FE : Addr}
theorem ok_law_made (T : Txt P K mg CN fI CA FE) (D : Df K mg "_law_made" s_law_made) (I : InitOk P w K mg base FE) : DefOk P w K mg base CX0 7 "_law_made" ["_law_place", "_law_other_here", "_law_bounds_here"] (spMade FE) := by
  obtain ⟨fi0, fd0, M, F0, F⟩ := I
  obtain ⟨d0, v0, b0⟩ := bind0 F0
  obtain ⟨mB, bB⟩ := bindB F0
  obtain ⟨mC, bC⟩ := bindC F0
  obtain ⟨mD, bD⟩ := bindD F0
  refine D.ok sc_law_made (fun _ _ _ _ _ _ us hl => match us, hl with | [_, _, _], _ => rfl) (fun vs H Q E h => ?_) (fun f cdv A outer s H vs Q E hr h => ?_)
  · obtain ⟨_, _, _, _, _, _, rfl, _⟩ := h
    rfl
  · obtain ⟨pa, oa, ba, p, o, b, rfl, hp, ho, hb, PL, B, k⟩ := h
    refine ⟨_, (pss_cons (ps_asg (pv 2) (pg_tup (by rfl) (pgs_cons (pg_name (i := 3) sc_law_made.nd rfl (Or.inl rfl)) (pgs_cons (pg_name (i := 4) sc_law_made.nd rfl (Or.inl rfl)) (pgs_cons (pg_name (i := 5) sc_law_made.nd rfl (Or.inl rfl)) (pgs_cons (pg_name (i := 6) sc_law_made.nd rfl (Or.inl rfl)) pgs_nil))))))
      (pss_cons (ps_if (PW.pt (pw_and (pt_cmpR op_isN (pv 4) pe_non (nomark _)) (pw_and (pt_cmpR op_isN (pv 6) pe_non (nomark _)) (pw_and1 (pt_cmpR op_eq (pv 5) pe_int (nomark _))))))
        (pss_one (ps_ret (pe_ifExp (pt_cmpR op_eq (pv 3) pe_int (nomark _)) (pe_make M F (hr.mono (by decide)) (by rfl) T.g_Meetings b0 v0 passL (pa_cons (pv 0) (pa_cons (pv 1) pa_nil))) (pe_makeK (n := 2) M F (hr.mono (by decide)) (by rfl) T.g_Meetings bB passL (pa_cons (pv 0) (pa_cons (pv 1) pa_nil)) (pk_cons (pv 3) pk_nil)))))
        pss_nil)
      (pss_cons (ps_if (PW.pt (pw_and (pt_cmpR op_isN (pv 4) pe_non (nomark _)) (pw_and1 (pt_cmpR op_isN (pv 6) pe_non (nomark _)))))
        (pss_one (ps_ret (pe_makeK (n := 2) M F (hr.mono (by decide)) (by rfl) T.g_Meetings bC passL (pa_cons (pv 0) (pa_cons (pv 1) pa_nil)) (pk_cons (pv 5) (pk_cons (pv 3) pk_nil)))))
        pss_nil)
      (pss_one (ps_ret (pe_makeK (n := 2) M F (hr.mono (by decide)) (by rfl) T.g_Meetings bD passL (pa_cons (pv 0) (pa_cons (pv 1) pa_nil)) (pk_cons (pv 3) (pk_cons (pv 4) (pk_cons (pv 5) (pk_cons (pv 6) pk_nil)))))))))), ?_⟩
    obtain ⟨lo, hi, fi, ro⟩ := b
    refine ⟨_, rfl, ba, _, rfl, SqT.of hb, rfl, _, _, rfl, _, _, rfl, _, _, rfl, _, _, rfl, rfl, ?_⟩
    have mkD : ∀ {hi : Option Int} {ro : Option Int} {E : XK}, BndOk ⟨lo, hi, fi, ro⟩ → (∀ m H' has q0 st e, Ex H H' → MetAt FE H' m p o ⟨lo, hi, fi, ro⟩ has q0 st e → Q (.ref m) H') →
        ∀ x dx, H x = none → H dx = none → dx ≠ x → spInit FE [.ref x, .ref pa, .ref oa, .int lo, oV hi, .int fi, oV ro] (upd (upd H dx (.own x)) x (.ins FE dx [])) (fun v H3 => v = .non ∧ Q (.ref x) H3) E := fun B k x dx a b c => made hp ho PL B k x dx a b c
    refine ⟨_, rfl, rfl, _, rfl, ?_⟩
    cases hi with
    | some h =>
      refine if_no rfl (if_no rfl ?_)
      refine ⟨_, rfl, rfl, _, rfl, if_no rfl (if_no rfl ?_)⟩
      exact ⟨_, rfl, _, rfl, _, rfl, _, rfl, _, rfl, _, rfl, rfl, rfl, mkD B k⟩
    | none =>
      refine if_so rfl ⟨_, rfl, rfl, _, rfl, ?_⟩
      cases ro with
      | some n =>
        refine if_no rfl (if_no rfl ?_)
        refine ⟨_, rfl, rfl, _, rfl, if_so rfl ⟨_, rfl, rfl, _, rfl, if_no rfl ?_⟩⟩
        exact ⟨_, rfl, _, rfl, _, rfl, _, rfl, _, rfl, _, rfl, rfl, rfl, mkD B k⟩
      | none =>
        refine if_so rfl ⟨_, rfl, rfl, _, rfl, ?_⟩
        by_cases c1 : fi = 0
        · refine if_so (eqi_t c1) ⟨_, rfl, rfl, _, rfl, ?_⟩
          subst c1
          by_cases c2 : lo = 0
          · subst c2
            exact if_so (eqi_t rfl) ⟨_, rfl, _, rfl, mkD B k⟩
          · exact if_no (eqi_f c2) ⟨_, rfl, _, rfl, _, rfl, rfl, rfl, mkD B k⟩
        · refine if_no (eqi_f c1) ?_
          refine ⟨_, rfl, rfl, _, rfl, if_so rfl ⟨_, rfl, rfl, _, rfl, if_so rfl ?_⟩⟩
          exact ⟨_, rfl, _, rfl, _, rfl, _, rfl, rfl, rfl, mkD B k⟩
end
end My
set_option maxHeartbeats 4000000
namespace My
open PySem L2 Lf Evl StX
abbrev s_law_is_truth : Stmt := top 29
theorem sc_law_is_truth : FnScope ["_law_value", "_law_due"] ["_law_value", "_law_due"] (defScope s_law_is_truth) := ⟨rfl, rfl, rfl, by decide +kernel, rfl, by decide +kernel, by decide +kernel⟩
/-! ### a pair or None -/
def PO (H : Hp) (v : V) : Option (Int × Int) → Prop
  | none => v = .non
  | some q => ∃ r, v = .ref r ∧ H r = some (tup2 q)
theorem PO.mono {H H' : Hp} {v : V} {oq : Option (Int × Int)} (e : Ex H H') (h : PO H v oq) : PO H' v oq := by
  cases oq with
  | none => exact h
  | some q =>
    obtain ⟨r, e1, h⟩ := h
    exact ⟨r, e1, e _ _ h⟩
theorem PO.eb {d : Addr} {xs : List V} {H H' : Hp} {v : V} {oq : Option (Int × Int)} (e : Eb d H H') (hd : H d = some (.lst xs)) (h : PO H v oq) : PO H' v oq := by
  cases oq with
  | none => exact h
  | some q =>
    obtain ⟨r, e1, h⟩ := h
    exact ⟨r, e1, e.tup hd h⟩
def pD (q : Int × Int) : PyData := .tuple [.int q.1, .int q.2]
def oPD : Option (Int × Int) → PyData
  | none => .none
  | some q => pD q
def oID : Option Int → PyData
  | none => .none
  | some i => .int i
theorem dp_pair {K : PySem.W.Frag} {H : Hp} {r : Addr} {q : Int × Int} (h : H r = some (tup2 q)) : Dp K H (.ref r) (pD q) := .tup (SqT.of h) (.cons (.int _) (.cons (.int _) .nil))
theorem PO.dp {K : PySem.W.Frag} {H : Hp} {v : V} {oq : Option (Int × Int)} (h : PO H v oq) : Dp K H v (oPD oq) := by
  cases oq with
  | none =>
    have e : v = .non := h
    subst e
    exact .non
  | some q =>
    obtain ⟨r, rfl, h⟩ := h
    exact dp_pair h
theorem dp_oI {K : PySem.W.Frag} {H : Hp} (o : Option Int) : Dp K H (oV o) (oID o) := by
  cases o with
  | none => exact .non
  | some i => exact .int i
theorem dp_pairs {K : PySem.W.Frag} {H : Hp} : ∀ {ys : List V} {qs : List (Int × Int)}, PairsAt H ys qs → DpAll K H ys (qs.map pD)
  | _, _, .nil => .nil
  | _, _, .cons ⟨a, e, h⟩ t => by
    subst e
    exact .cons (dp_pair h) (dp_pairs t)
theorem lay_pairs : ∀ qs : List (Int × Int), PyData.canLayAll0 (qs.map pD) = true ∧ PyData.depthAll (qs.map pD) ≤ 1
  | [] => ⟨rfl, by decide⟩
  | q :: qs => by
    obtain ⟨h1, h2⟩ := lay_pairs qs
    constructor
    · show (PyData.canLay0 (pD q) && PyData.canLayAll0 (qs.map pD)) = true
      rw [h1]
      rfl
    · show max (PyData.depth (pD q)) (PyData.depthAll (qs.map pD)) ≤ 1
      have : PyData.depth (pD q) = 1 := rfl
      omega
theorem lay_oPD (o : Option (Int × Int)) : PyData.canLay0 (oPD o) = true ∧ PyData.depth (oPD o) ≤ 1 := by
  cases o with
  | none => exact ⟨rfl, by decide⟩
  | some q => exact ⟨rfl, Nat.le_refl _⟩
theorem lay_oID (o : Option Int) : PyData.canLay0 (oID o) = true ∧ PyData.depth (oID o) ≤ 1 := by
  cases o with
  | none => exact ⟨rfl, by decide⟩
  | some q => exact ⟨rfl, by show 0 ≤ 1; decide⟩
theorem PairsAt.eb {d : Addr} {xs : List V} {H H' : Hp} (e : Eb d H H') (hd : H d = some (.lst xs)) : ∀ {ys : List V} {qs : List (Int × Int)}, PairsAt H ys qs → PairsAt H' ys qs
  | _, _, .nil => .nil
  | _, _, .cons ⟨a, e1, h⟩ t => .cons ⟨a, e1, e.tup hd h⟩ (PairsAt.eb e hd t)
section
variable {C : Addr} {H : Hp} {m : Addr} {p o : Int × Int} {b : Mt.Bnd} {has : Bool} {q0 st : Int × Int} {e : Mt.Ends} {Q : VK} {E : XK}
theorem near_any (M : MetAt C H m p o b has q0 st e) (k : ∀ v H', Ex H H' → PO H' v (Mt.nearest has q0 st e) → Q v H') : spNearest C [.ref m] H Q E :=
  ⟨m, p, o, b, has, q0, st, e, rfl, M, fun z => k _ H (Ex.refl _) (by rw [z]; rfl), fun q z r H' x hr => k _ H' x (by rw [z]; exact ⟨r, rfl, hr⟩)⟩
theorem MetAt.ins (M : MetAt C H m p o b has q0 st e) : ∃ dx pa oa la ea, H m = some (.ins C dx (mF pa oa b la has ea)) := by
  obtain ⟨dx, pa, oa, la, qa, sa, ea, h1, _⟩ := M.at_
  exact ⟨dx, pa, oa, la, ea, h1⟩
/-- the first pairs of meetings, as a list -/
theorem el_firsts {σ : L2.St} {i n : Nat} {tr : TA} (M : MetAt C H m p o b has q0 st e) (htr : ∀ R : List V → Hp → Prop, R [.int n] H → tr σ H R) (hi : σ[i]? = some (some (.ref m))) (h0 : 0 < n) (hn : n ≤ 100000)
    (k : ∀ L ys H', H L = none → Ex H H' → H' L = some (.lst ys) → PairsAt H' ys (Mt.firsts has q0 st e n) → Q (.ref L) H') :
    GZ.tLcG tr (GZ.tMethGW C "each" (spEach C) (tVar i)) σ H Q := by
  obtain ⟨dx, pa, oa, la, ea, h1⟩ := M.ins
  refine htr _ ⟨n, rfl, h0, Nat.le_trans hn (show 100000 ≤ sizeLine by decide), by omega, fun ys H' => Ex H H' ∧ PairsAt H' ys (Mt.firsts has q0 st e ys.length), fun ys H' => Ex H H' ∧ ∀ n, ys.length ≤ n → PairsAt H' ys (Mt.firsts has q0 st e n), ?_, fun ys H2 D hl ⟨x, hp⟩ hD => ?_, fun ys H2 D hl ⟨x, hp⟩ hD => ?_⟩
  · exact ⟨_, hi, m, dx, _, rfl, h1, rfl, m, p, o, b, has, q0, st, e, rfl, M, fun ys H' x hp => ⟨x, hp⟩, fun ys H' x hp => ⟨x, hp⟩⟩
  · rw [hl] at hp
    exact k D ys _ (fresh_back x hD) (x.trans (Ex.new hD)) upd_same (PairsAt.mono (Ex.new hD) hp)
  · exact k D ys _ (fresh_back x hD) (x.trans (Ex.new hD)) upd_same (PairsAt.mono (Ex.new hD) (hp n (Nat.le_of_lt hl)))
theorem q_firsts {σ : L2.St} {i j n : Nat} {tr : TA} {tz : TS} {D : Ends} (M : MetAt C H m p o b has q0 st e) (htr : ∀ R : List V → Hp → Prop, R [.int n] H → tr σ H R) (hi : σ[i]? = some (some (.ref m))) (h0 : 0 < n) (hn : n ≤ 100000)
    (k : ∀ L ys H', H L = none → Ex H H' → H' L = some (.lst ys) → PairsAt H' ys (Mt.firsts has q0 st e n) → tz D (σ.set j (some (.ref L))) H') :
    tSeq (tAsg (GZ.tLcG tr (GZ.tMethGW C "each" (spEach C) (tVar i))) (gName j)) tz D σ H := by
  exact el_firsts (Q := fun v H1 => tz D (σ.set j (some v)) H1) M htr hi h0 hn k
end
theorem eq_refl {d : PyData} (h : SeqAt.shaped d = true) : PyData.eqv d d = true := SeqAt.eqv_refl d (SeqAt.canLay_of_shaped h)
theorem scal_o (x y : Option Int) : scal (oV x) (oV y) = true := by
  cases x <;> cases y <;> rfl
theorem shp_oPD (x : Option (Int × Int)) : SeqAt.shaped (oPD x) = true := by
  obtain ⟨h1, h2⟩ := lay_oPD x
  unfold SeqAt.shaped
  rw [h1, decide_eq_true (by omega : PyData.depth (oPD x) ≤ 64)]
  rfl
def bndD (b : Mt.Bnd) : PyData := .tuple [.int b.low, oID b.high, .int b.first, oID b.rounds]
theorem shp_bnd (b : Mt.Bnd) : SeqAt.shaped (bndD b) = true := by
  obtain ⟨a1, b1⟩ := lay_oID b.high
  obtain ⟨a2, b2⟩ := lay_oID b.rounds
  unfold SeqAt.shaped bndD
  rw [Bool.and_eq_true]
  constructor
  · show (PyData.canLay0 (.int b.low) && (PyData.canLay0 (oID b.high) && (PyData.canLay0 (.int b.first) && (PyData.canLay0 (oID b.rounds) && PyData.canLayAll0 [])))) = true
    rw [a1, a2]
    rfl
  · refine decide_eq_true ?_
    show max 0 (max (PyData.depth (oID b.high)) (max 0 (max (PyData.depth (oID b.rounds)) 0))) + 1 ≤ 64
    omega
theorem dp_bnd {K : PySem.W.Frag} {H : Hp} {r : Addr} {b : Mt.Bnd} (h : H r = some (bndT b)) : Dp K H (.ref r) (bndD b) := .tup (SqT.of h) (.cons (.int _) (.cons (dp_oI _) (.cons (.int _) (.cons (dp_oI _) .nil))))
theorem shp_p (q : Int × Int) : SeqAt.shaped (pD q) = true := rfl
def metD (p o : Int × Int) (b : Mt.Bnd) : PyData := .tuple [pD p, pD o, .int b.low, oID b.high, .int b.first, oID b.rounds]
theorem shp_met (p o : Int × Int) (b : Mt.Bnd) : SeqAt.shaped (metD p o b) = true := by
  obtain ⟨a1, b1⟩ := lay_oID b.high
  obtain ⟨a2, b2⟩ := lay_oID b.rounds
  unfold SeqAt.shaped metD
  rw [Bool.and_eq_true]
  constructor
  · show (PyData.canLay0 (pD p) && (PyData.canLay0 (pD o) && (PyData.canLay0 (.int b.low) && (PyData.canLay0 (oID b.high) && (PyData.canLay0 (.int b.first) && (PyData.canLay0 (oID b.rounds) && PyData.canLayAll0 [])))))) = true
    rw [a1, a2]
    rfl
  · refine decide_eq_true ?_
    show max 1 (max 1 (max 0 (max (PyData.depth (oID b.high)) (max 0 (max (PyData.depth (oID b.rounds)) 0))))) + 1 ≤ 64
    omega
/-- more facts of the text: the type of a Meetings object -/
structure Tx2 (K : PySem.W.Frag) (FE : Addr) : Prop where
  ha : PySem.W.findIn K (.ref FE) "__class__" = some (some (.builtin "object.__class__"))
  hn : PySem.W.specialIn K (.builtin "object.__class__") "__get__" = some (some (.builtin "getset_descriptor.__get__"))
  htk : PySem.W.takesIn K (.builtin "object.__class__") = some true
  hm : PySem.W.mroIn K FE (.type "object") = some true
  kt : PySem.W.kitOne K (.type "tuple") (.ref FE) = some false
  ne : PySem.W.findIn K (.ref FE) "__ne__" = some (some (.builtin "object.__ne__"))
def spTruth : Sp := fun vs H Q _ => ∃ a b : Bool, vs = [.bl a, .bl b] ∧ Q (.bl (a == b)) H
theorem pairs_get {H : Hp} : ∀ {ys : List V} {qs : List (Int × Int)} {i : Nat} {y : V}, PairsAt H ys qs → ys[i]? = some y → ∃ q, q ∈ qs ∧ PairAt H y q
  | _, _, _, _, .nil, e => by simp at e
  | _, _, 0, _, .cons h _, e => by
    cases e
    exact ⟨_, List.mem_cons_self .., h⟩
  | _, _, i + 1, y, .cons _ t, e => by
    obtain ⟨q, h1, h2⟩ := pairs_get (i := i) (y := y) t (by simpa using e)
    exact ⟨q, List.mem_cons_of_mem _ h1, h2⟩
theorem ex_eb {d : Addr} {H H' : Hp} {o : HO} (hd : H d = none) (e : Eb d (upd H d o) H') : Ex H H' := fun a u h => e a u (ne_of_none h hd) (Ex.new hd _ _ h)
theorem MetAt.eb {C : Addr} {H H' : Hp} {m : Addr} {p o : Int × Int} {b : Mt.Bnd} {has : Bool} {q0 st : Int × Int} {e : Mt.Ends} {d : Addr} {xs : List V} (M : MetAt C H m p o b has q0 st e) (x : Eb d H H') (hd : H d = some (.lst xs)) : MetAt C H' m p o b has q0 st e := by
  obtain ⟨dx, pa, oa, la, qa, sa, ea, h1, h2, h3, h4, h5, h6, h7⟩ := M.at_
  have nt : ∀ {a : Addr} {ys : List V}, H a = some (.tup ys) → a ≠ d := fun h z => by rw [z, hd] at h; cases h
  have ni : m ≠ d := fun z => by rw [z, hd] at h1; cases h1
  exact { M with at_ := ⟨dx, pa, oa, la, qa, sa, ea, x _ _ ni h1, x _ _ (nt h2) h2, x _ _ (nt h3) h3, x _ _ (nt h4) h4, x _ _ (nt h5) h5, x _ _ (nt h6) h6, x _ _ (nt h7) h7⟩ }
theorem after_bd {q st : Int × Int} {n m k : Nat} {t : Int} (hq : Bd2 n q) (hs : Bd2 m st) (ht : Bd k t) (h : m + k ≤ n) : Bd2 (n + 1) (Mt.after q st t) :=
  ⟨hq.1.add ((hs.1.mul ht (Nat.le_refl _)).mono h) (Nat.le_refl _), hq.2.add ((hs.2.mul ht (Nat.le_refl _)).mono h) (Nat.le_refl _)⟩
theorem firsts_bd2 {C : Addr} {H : Hp} {m : Addr} {p o : Int × Int} {b : Mt.Bnd} {has : Bool} {q0 st : Int × Int} {e : Mt.Ends} (M : MetAt C H m p o b has q0 st e) {n : Nat} (hn : n ≤ 1000) {q : Int × Int} (hq : q ∈ Mt.firsts has q0 st e n) : Mt.good p o b q ∧ Bd2 3000 q := by
  cases h : Mt.isEmpty has e with
  | true => unfold Mt.firsts at hq; rw [h, if_pos rfl] at hq; simp at hq
  | false =>
    obtain ⟨r, e1, s1, _, _⟩ := Mt.each_spec M.ok h
    unfold Mt.firsts at hq
    rw [h, if_neg Bool.false_ne_true, e1] at hq
    obtain ⟨k, hk, rfl⟩ := List.mem_map.mp hq
    have hk := List.mem_range.mp hk
    have hkn : k < n ∧ ∀ a, Mt.amount has e = some a → (k : Int) < a := by
      unfold Mt.howMany at hk
      cases am : Mt.amount has e with
      | none => rw [am] at hk; exact ⟨hk, fun a z => by cases z⟩
      | some a =>
        rw [am] at hk
        dsimp only at hk
        have := ((Mt.amount_spec M.ok).1 a am).1
        exact ⟨by omega, fun a' z => by cases z; omega⟩
    refine ⟨s1 k hkn.2, ?_⟩
    have bk : Bd 11 (Mt.sgn st * (k : Int)) := by
      unfold Bd Mt.sgn
      split <;> omega
    have tb : ∃ t, r = Mt.after q0 st t ∧ Bd 1403 t := by
      unfold Mt.endBy at e1
      split at e1
      · cases ef : e.1 with
        | none => rw [ef] at e1; cases e1
        | some f => rw [ef] at e1; cases e1; exact ⟨f, rfl, M.be.1 f ef⟩
      · cases ef : e.2.1 with
        | none => rw [ef] at e1; cases e1
        | some f => rw [ef] at e1; cases e1; exact ⟨f, rfl, M.be.2 f ef⟩
    obtain ⟨t, rfl, bt⟩ := tb
    unfold Mt.eachP
    rw [Mt.after_after]
    exact (after_bd (n := 1804) (M.bq.1.mono (by decide)) M.bq.2 (bt.add (bk.mono (by decide)) (by decide : 1403 + 1 ≤ 1404)) (by decide)).mono (by decide)
theorem goodB_d {p o q : Int × Int} {b : Mt.Bnd} {P : Prop} [Decidable P] (h : Mt.good p o b q ↔ P) : goodB p o b q = decide P := by
  cases z : goodB p o b q with
  | true => exact (decide_eq_true (h.mp (goodB_iff.mp z))).symm
  | false => exact (decide_eq_false fun y => by rw [goodB_iff.mpr (h.mpr y)] at z; cases z).symm
theorem near_bd2 {C : Addr} {H : Hp} {m : Addr} {p o : Int × Int} {b : Mt.Bnd} {has : Bool} {q0 st : Int × Int} {e : Mt.Ends} (M : MetAt C H m p o b has q0 st e) {q : Int × Int} (hq : Mt.nearest has q0 st e = some q) : Mt.good p o b q ∧ Bd2 3000 q := by
  have ne : Mt.isEmpty has e = false := by
    cases z : Mt.isEmpty has e with
    | false => rfl
    | true =>
      unfold Mt.nearest at hq
      rw [z, if_pos rfl] at hq
      cases hq
  obtain ⟨q', e2, n2⟩ := Mt.near_spec M.ok ne
  rw [hq] at e2
  cases e2
  refine ⟨n2.1, ?_⟩
  unfold Mt.nearest at hq
  rw [ne, if_neg Bool.false_ne_true] at hq
  have tb : ∃ t, q = Mt.after q0 st t ∧ Bd 1403 t := by
    unfold Mt.endBy at hq
    split at hq
    · cases ef : e.1 with
      | none => rw [ef] at hq; cases hq
      | some f => rw [ef] at hq; cases hq; exact ⟨f, rfl, M.be.1 f ef⟩
    · cases ef : e.2.1 with
      | none => rw [ef] at hq; cases hq
      | some f => rw [ef] at hq; cases hq; exact ⟨f, rfl, M.be.2 f ef⟩
  obtain ⟨t, rfl, bt⟩ := tb
  exact (after_bd (n := 1804) (M.bq.1.mono (by decide)) M.bq.2 bt (by decide)).mono (by decide)
theorem q_skip {ts tz : TS} {D : Ends} {σ : L2.St} {H : Hp} (h : ∀ D' : Ends, (∀ H', Ex H H' → D'.nx σ H') → ts D' σ H) (k : ∀ H', Ex H H' → tz D σ H') : tSeq ts tz D σ H := h { D with nx := tz D } k
theorem q_skipP {ts tz : TS} {D : Ends} {σ : L2.St} {H : Hp} (N : Hp → Prop) (h : ∀ D' : Ends, (∀ H', N H' → D'.nx σ H') → ts D' σ H) (k : ∀ H', N H' → tz D σ H') : tSeq ts tz D σ H := h { D with nx := tz D } k
theorem pairs_len {H : Hp} : ∀ {ys : List V} {qs : List (Int × Int)}, PairsAt H ys qs → ys.length = qs.length
  | _, _, .nil => rfl
  | _, _, .cons _ t => by rw [List.length_cons, List.length_cons, pairs_len t]
theorem firsts_len (has : Bool) (q0 st : Int × Int) (e : Mt.Ends) (n : Nat) : (Mt.firsts has q0 st e n).length ≤ n := by
  have h : Mt.howMany has e n ≤ n := by
    unfold Mt.howMany
    split <;> omega
  unfold Mt.firsts
  split
  · exact Nat.zero_le _
  · split
    · exact Nat.zero_le _
    · rw [List.length_map, List.length_range]
      exact h
section
variable {P : Program} {w : World} {K : PySem.W.Frag} {mg : Str → Option Value} {base : Heap} {CN fI CA FE : Addr}
theorem MetAt.ty {H : Hp} {m : Addr} {p o : Int × Int} {b : Mt.Bnd} {has : Bool} {q0 st : Int × Int} {e : Mt.Ends} (T : Txt P K mg CN fI CA FE) (T2 : Tx2 K FE) (M : MetAt FE H m p o b has q0 st e) : TyX K H (.ref m) (.ref FE) := by
  obtain ⟨dx, pa, oa, la, qa, sa, ea, h1, _⟩ := M.at_
  exact .base (.ins h1 T.c_Met T2.ha T2.hn T2.htk T2.hm)
theorem kit_same (C : Addr) : PySem.W.kitOne K (.ref C) (.ref C) = some true := by
  unfold PySem.W.kitOne
  rw [if_pos]
  simp
theorem ok_law_is_truth (T : Txt P K mg CN fI CA FE) (D : Df K mg "_law_is_truth" s_law_is_truth) : DefOk P w K mg base CX0 1 "_law_is_truth" ["_law_value", "_law_due"] spTruth := by
  refine D.ok sc_law_is_truth (fun _ _ _ _ _ _ us hl => match us, hl with | [_, _], _ => rfl) (fun vs H Q E h => ?_) (fun f cdv A outer s H vs Q E hr h => ?_)
  · obtain ⟨_, _, rfl, _⟩ := h
    rfl
  · obtain ⟨a, b, rfl, k⟩ := h
    refine ⟨_, (pss_one (ps_ret (pe_and (pe_callB call_isi (by rfl) T.n_isinstance (by decide +kernel) (pa_cons (pv 0) (pa_cons (pe_bltn (v := .ty "bool") (by rfl) T.n_bool (by decide +kernel) rfl) pa_nil))) (pe_one (pe_cmpR (op_eqD hr.units) (pv 0) (pv 1) (nomark _)))))), ?_⟩
    refine ⟨_, rfl, _, _, _, _, _, rfl, .ty "bool", (Kd.bl a).ty K, kit_ty (Kd.bl (H := H) a).bool_, _, rfl, if_so rfl ?_⟩
    exact ⟨_, rfl, _, rfl, _, _, .bl a, .bl b, rfl, rfl, k⟩
end
end My
set_option maxHeartbeats 4000000
namespace My
open PySem L2 Lf Evl StX
abbrev s_law_meets : Stmt := top 24
theorem sc_law_meets : FnScope ["_law_place", "_law_other_here", "_law_pair"] ["_law_place", "_law_other_here", "_law_pair"] (defScope s_law_meets) := ⟨rfl, rfl, rfl, by decide +kernel, rfl, by decide +kernel, by decide +kernel⟩
abbrev s_law_is_good : Stmt := top 25
theorem sc_law_is_good : FnScope ["_law_place", "_law_other_here", "_law_bounds_here", "_law_pair", "_law_low", "_law_high", "_law_first", "_law_rounds"] ["_law_place", "_law_other_here", "_law_bounds_here", "_law_pair"] (defScope s_law_is_good) := ⟨rfl, rfl, rfl, by decide +kernel, rfl, by decide +kernel, by decide +kernel⟩
abbrev s_law_is_pair : Stmt := top 28
theorem sc_law_is_pair : FnScope ["_law_value"] ["_law_value"] (defScope s_law_is_pair) := ⟨rfl, rfl, rfl, by decide +kernel, rfl, by decide +kernel, by decide +kernel⟩
abbrev s_Meetings___eq__ : Stmt := inClass (top 19) 19
theorem sc_Meetings___eq__ : FnScope ["self", "other", "mine"] ["self", "other"] (defScope s_Meetings___eq__) := ⟨rfl, rfl, rfl, by decide +kernel, rfl, by decide +kernel, by decide +kernel⟩
def goodL (p o : Int × Int) (b : Mt.Bnd) (q : Int × Int) : Bool :=
  onLine p o q && (decide (b.first ≤ q.1) && (decide (b.low ≤ q.2 - q.1) && ((match b.high with | none => true | some h => decide (q.2 - q.1 ≤ h)) && (match b.rounds with | none => true | some n => decide (q.2 < n)))))
theorem goodL_iff {p o : Int × Int} {b : Mt.Bnd} {q : Int × Int} : goodL p o b q = true ↔ Mt.good p o b q := by
  unfold goodL Mt.good onLine Mt.meets
  rw [Mt.keeps_iff]
  simp only [Bool.and_eq_true, decide_eq_true_eq]
  obtain ⟨lo, hi, fi, ro⟩ := b
  cases hi <;> cases ro <;> simp
theorem goodL_eq (p o : Int × Int) (b : Mt.Bnd) (q : Int × Int) : goodL p o b q = goodB p o b q := by
  cases h : goodB p o b q with
  | true => exact goodL_iff.mpr (goodB_iff.mp h)
  | false =>
    cases z : goodL p o b q with
    | false => rfl
    | true => rw [goodB_iff.mpr (goodL_iff.mp z)] at h; cases h
def spMeets : Sp := fun vs H Q _ => ∃ (pa oa qa : Addr) (p o q : Int × Int), vs = [.ref pa, .ref oa, .ref qa] ∧ H pa = some (tup2 p) ∧ H oa = some (tup2 o) ∧ H qa = some (tup2 q) ∧ PlD p o ∧ Bd2 9100 q ∧ Q (.bl (onLine p o q)) H
def spGood : Sp := fun vs H Q _ => ∃ (pa oa ba qa : Addr) (p o q : Int × Int) (b : Mt.Bnd), vs = [.ref pa, .ref oa, .ref ba, .ref qa] ∧ H pa = some (tup2 p) ∧ H oa = some (tup2 o) ∧ H ba = some (bndT b) ∧ H qa = some (tup2 q) ∧ PlD p o ∧ Bd2 9100 q ∧ Q (.bl (goodB p o b q)) H
def spIsPair : Sp := fun vs H Q _ => ∃ (qa : Addr) (q : Int × Int), vs = [.ref qa] ∧ H qa = some (tup2 q) ∧ Q (.bl true) H
def spEqM (C : Addr) : Sp := fun vs H Q _ => (∃ m m' p o b has q0 st e p' o' b' has' q0' st' e', vs = [.ref m, .ref m'] ∧ MetAt C H m p o b has q0 st e ∧ MetAt C H m' p' o' b' has' q0' st' e' ∧ ∀ H', Ex H H' → Q (.bl (PyData.eqv (metD p o b) (metD p' o' b'))) H') ∨
  ∃ m m' xs, vs = [.ref m, .ref m'] ∧ H m' = some (.tup xs) ∧ Q (.bl false) H
section
variable {P : Program} {w : World} {K : PySem.W.Frag} {mg : Str → Option Value} {base : Heap} {CN fI CA FE : Addr}
theorem ok_law_meets (T : Txt P K mg CN fI CA FE) (D : Df K mg "_law_meets" s_law_meets) : DefOk P w K mg base CX0 1 "_law_meets" ["_law_place", "_law_other_here", "_law_pair"] spMeets := by
  refine D.ok sc_law_meets (fun _ _ _ _ _ _ us hl => match us, hl with | [_, _, _], _ => rfl) (fun vs H Q E h => ?_) (fun f cdv A outer s H vs Q E hr h => ?_)
  · obtain ⟨_, _, _, _, _, _, rfl, _⟩ := h
    rfl
  · obtain ⟨pa, oa, qa, p, o, q, rfl, hp, ho, hq, PL, bq, k⟩ := h
    refine ⟨_, (pss_one (ps_ret (pe_cmpR op_eq (pe_op op_add (pe_op op_mulW (pe_ix ix_tup (pv 0) pe_int (fun _ _ => rfl)) (pe_ix ix_tup (pv 2) pe_int (fun _ _ => rfl))) (pe_ix ix_tup (pv 0) pe_int (fun _ _ => rfl))) (pe_op op_add (pe_op op_mulW (pe_ix ix_tup (pv 1) pe_int (fun _ _ => rfl)) (pe_ix ix_tup (pv 2) pe_int (fun _ _ => rfl))) (pe_ix ix_tup (pv 1) pe_int (fun _ _ => rfl))) (nomark _)))), ?_⟩
    refine ⟨_, rfl, _, _, _, _, rfl, rfl, SqT.of hp, rfl, _, rfl, _, _, _, _, rfl, rfl, SqT.of hq, rfl, _, _, rfl, rfl, PL.s1.ok bq.1 (by decide) (by decide) (by decide), ?_⟩
    refine ⟨_, rfl, _, _, _, _, rfl, rfl, SqT.of hp, rfl, _, _, rfl, rfl, ?_⟩
    refine ⟨_, rfl, _, _, _, _, rfl, rfl, SqT.of ho, rfl, _, rfl, _, _, _, _, rfl, rfl, SqT.of hq, rfl, _, _, rfl, rfl, PL.s2.ok bq.2 (by decide) (by decide) (by decide), ?_⟩
    refine ⟨_, rfl, _, _, _, _, rfl, rfl, SqT.of ho, rfl, _, _, rfl, rfl, rfl, ?_⟩
    unfold onLine at k
    have e : decide (V.int (p.1 * q.1 + p.2) = V.int (o.1 * q.2 + o.2)) = decide (p.1 * q.1 + p.2 = o.1 * q.2 + o.2) := by rw [decide_eq_decide]; simp
    rw [← e] at k
    exact k
theorem ok_law_is_good (T : Txt P K mg CN fI CA FE) (D : Df K mg "_law_is_good" s_law_is_good) (D_law_meets : DefOk P w K mg base CX0 1 "_law_meets" ["_law_place", "_law_other_here", "_law_pair"] spMeets) : DefOk P w K mg base CX0 2 "_law_is_good" ["_law_place", "_law_other_here", "_law_bounds_here", "_law_pair"] spGood := by
  refine D.ok sc_law_is_good (fun _ _ _ _ _ _ us hl => match us, hl with | [_, _, _, _], _ => rfl) (fun vs H Q E h => ?_) (fun f cdv A outer s H vs Q E hr h => ?_)
  · obtain ⟨_, _, _, _, _, _, _, _, rfl, _⟩ := h
    rfl
  · obtain ⟨pa, oa, ba, qa, p, o, q, b, rfl, hp, ho, hb, hq, PL, bq, k⟩ := h
    obtain ⟨lo, hi, fi, ro⟩ := b
    refine ⟨_, (pss_cons (ps_asg (pv 2) (pg_tup (by rfl) (pgs_cons (pg_name (i := 4) sc_law_is_good.nd rfl (Or.inl rfl)) (pgs_cons (pg_name (i := 5) sc_law_is_good.nd rfl (Or.inl rfl)) (pgs_cons (pg_name (i := 6) sc_law_is_good.nd rfl (Or.inl rfl)) (pgs_cons (pg_name (i := 7) sc_law_is_good.nd rfl (Or.inl rfl)) pgs_nil))))))
 (pss_cons (ps_if (PW.pt (pw_or (pt_not (pt_val (pe_callD D_law_meets (hr.mono (by decide)) pass0 (pa_cons (pv 0) (pa_cons (pv 1) (pa_cons (pv 3) pa_nil)))))) (pw_or (pt_cmpR op_lt (pe_ix ix_tup (pv 3) pe_int (fun _ _ => rfl)) (pv 6) (nomark _)) (pw_or1 (pt_cmpR op_lt (pe_op op_sub (pe_ix ix_tup (pv 3) pe_int (fun _ _ => rfl)) (pe_ix ix_tup (pv 3) pe_int (fun _ _ => rfl))) (pv 4) (nomark _))))))
 (pss_one (ps_ret pe_bl))
 pss_nil)
 (pss_one (ps_ret (pe_and (pe_or (pe_cmpR op_isN (pv 5) pe_non (nomark _)) (pe_one (pe_cmpR op_le (pe_op op_sub (pe_ix ix_tup (pv 3) pe_int (fun _ _ => rfl)) (pe_ix ix_tup (pv 3) pe_int (fun _ _ => rfl))) (pv 5) (nomark _)))) (pe_one (pe_or (pe_cmpR op_isN (pv 7) pe_non (nomark _)) (pe_one (pe_cmpR op_lt (pe_ix ix_tup (pv 3) pe_int (fun _ _ => rfl)) (pv 7) (nomark _)))))))))), ?_⟩
    rw [← goodL_eq] at k
    unfold goodL at k
    refine ⟨_, rfl, ba, _, rfl, SqT.of hb, rfl, _, _, rfl, _, _, rfl, _, _, rfl, _, _, rfl, rfl, ?_⟩
    refine ⟨_, rfl, _, rfl, _, rfl, pa, oa, qa, p, o, q, rfl, hp, ho, hq, PL, bq, _, rfl, ?_⟩
    cases h1 : onLine p o q with
    | false =>
      rw [h1] at k
      exact if_so rfl (if_so rfl k)
    | true =>
      rw [h1] at k
      refine if_no rfl ?_
      refine ⟨_, rfl, _, _, _, _, rfl, rfl, SqT.of hq, rfl, _, rfl, _, _, rfl, rfl, _, rfl, ?_⟩
      by_cases h2 : fi ≤ q.1
      · refine if_no (decide_eq_false (by dsimp only; omega)) ?_
        dsimp only at k
        rw [decide_eq_true h2] at k
        refine ⟨_, rfl, _, _, _, _, rfl, rfl, SqT.of hq, rfl, _, rfl, _, _, _, _, rfl, rfl, SqT.of hq, rfl, _, _, rfl, rfl, _, rfl, _, _, rfl, rfl, _, rfl, ?_⟩
        by_cases h3 : lo ≤ q.2 - q.1
        · refine if_no (decide_eq_false (by dsimp only; omega)) ?_
          rw [decide_eq_true h3] at k
          refine ⟨_, rfl, rfl, _, rfl, ?_⟩
          cases hi with
          | none =>
            refine if_so rfl ⟨_, rfl, if_so rfl ?_⟩
            refine ⟨_, rfl, rfl, _, rfl, ?_⟩
            cases ro with
            | none => exact if_so rfl k
            | some n => exact if_no rfl ⟨_, rfl, _, _, _, _, rfl, rfl, SqT.of hq, rfl, _, rfl, _, _, rfl, rfl, k⟩
          | some h =>
            refine if_no rfl ⟨_, rfl, _, _, _, _, rfl, rfl, SqT.of hq, rfl, _, rfl, _, _, _, _, rfl, rfl, SqT.of hq, rfl, _, _, rfl, rfl, _, rfl, _, _, rfl, rfl, _, rfl, ?_⟩
            by_cases h4 : q.2 - q.1 ≤ h
            · refine if_so (decide_eq_true h4) ?_
              dsimp only at k
              rw [decide_eq_true h4] at k
              refine ⟨_, rfl, rfl, _, rfl, ?_⟩
              cases ro with
              | none => exact if_so rfl k
              | some n => exact if_no rfl ⟨_, rfl, _, _, _, _, rfl, rfl, SqT.of hq, rfl, _, rfl, _, _, rfl, rfl, k⟩
            · refine if_no (decide_eq_false h4) ?_
              dsimp only at k
              rw [decide_eq_false h4] at k
              exact k
        · refine if_so (decide_eq_true (by dsimp only; omega)) ?_
          rw [decide_eq_false h3] at k
          exact k
      · refine if_so (decide_eq_true (by dsimp only; omega)) (if_so rfl ?_)
        dsimp only at k
        rw [decide_eq_false h2] at k
        exact k
theorem ok_law_is_pair (T : Txt P K mg CN fI CA FE) (D : Df K mg "_law_is_pair" s_law_is_pair) (D_law_is_count : DefOk P w K mg base CX0 1 "_law_is_count" ["_law_value"] spIsNumber) : DefOk P w K mg base CX0 2 "_law_is_pair" ["_law_value"] spIsPair := by
  refine D.ok sc_law_is_pair (fun _ _ _ _ _ _ us hl => match us, hl with | [_], _ => rfl) (fun vs H Q E h => ?_) (fun f cdv A outer s H vs Q E hr h => ?_)
  · obtain ⟨_, _, rfl, _⟩ := h
    rfl
  · obtain ⟨qa, q, rfl, hq, k⟩ := h
    refine ⟨_, (pss_one (ps_ret (pe_and (pe_callB call_isi (by rfl) T.n_isinstance (by decide +kernel) (pa_cons (pv 0) (pa_cons (pe_bltn (v := .ty "tuple") (by rfl) T.n_tuple (by decide +kernel) rfl) pa_nil))) (pe_and (pe_cmpR op_eq (pe_callB call_len_seq (by rfl) T.n_len (by decide +kernel) (pa_cons (pv 0) pa_nil)) pe_int (nomark _)) (pe_and (pe_callD D_law_is_count (hr.mono (by decide)) pass0 (pa_cons (pe_ix ix_tup (pv 0) pe_int (fun _ _ => rfl)) pa_nil)) (pe_one (pe_callD D_law_is_count (hr.mono (by decide)) pass0 (pa_cons (pe_ix ix_tup (pv 0) pe_int (fun _ _ => rfl)) pa_nil)))))))), ?_⟩
    have kd : Kd H (.ref qa) "tuple" := .tup hq
    refine ⟨_, rfl, _, _, _, _, _, rfl, .ty "tuple", kd.ty K, kit_ty rfl, _, rfl, if_so rfl ?_⟩
    refine ⟨_, rfl, qa, _, rfl, .inr (SqT.of hq), rfl, _, rfl, if_so rfl ?_⟩
    refine ⟨_, rfl, _, _, _, _, rfl, rfl, SqT.of hq, rfl, _, _, rfl, .int _, _, rfl, if_so rfl ?_⟩
    exact ⟨_, rfl, _, _, _, _, rfl, rfl, SqT.of hq, rfl, _, _, rfl, .int _, k⟩
theorem ok_eq (T : Txt P K mg CN fI CA FE) (T2 : Tx2 K FE) (D : Dm K FE "__eq__" "Meetings.__eq__" s_Meetings___eq__) : MethOk P w K mg base CX0 1 FE "__eq__" ["self", "other"] (spEqM FE) := by
  refine D.ok sc_Meetings___eq__ (fun _ _ _ _ _ _ us hl => match us, hl with | [_, _], _ => rfl) (fun vs H Q E h => ?_) (fun f cdv A outer s H vs Q E hr h => ?_)
  · rcases h with ⟨_, _, _, _, _, _, _, _, _, _, _, _, _, _, _, _, rfl, _⟩ | ⟨_, _, _, rfl, _⟩
    · rfl
    · rfl
  · rcases h with ⟨m, m', p, o, b, has, q0, st, e, p', o', b', has', q0', st', e', rfl, M, M', k⟩ | ⟨m, m', xs, rfl, hm', k⟩
    rotate_left
    · refine ⟨_, (pss_cons (ps_if (pt_not (pt_val (pe_callB call_isi (by rfl) T.n_isinstance (by decide +kernel) (pa_cons (pv 1) (pa_cons (pe_glob (v := V.ref FE) (by rfl) T.g_Meetings rfl) pa_nil)))))
 (pss_one (ps_ret pe_bl))
 pss_nil)
 (pss_cons (ps_set (i := 2) sc_Meetings___eq__.nd rfl (Or.inl rfl) (pe_tup (pa_cons (pe_fld (pv 0) rfl) (pa_cons (pe_fld (pv 0) rfl) (pa_cons (pe_fld (pv 0) rfl) (pa_cons (pe_fld (pv 0) rfl) (pa_cons (pe_fld (pv 0) rfl) (pa_cons (pe_fld (pv 0) rfl) pa_nil))))))))
 (pss_one (ps_ret (pe_cmpR (op_eqD hr.units) (pv 2) (pe_tup (pa_cons (pe_fld (pv 1) rfl) (pa_cons (pe_fld (pv 1) rfl) (pa_cons (pe_fld (pv 1) rfl) (pa_cons (pe_fld (pv 1) rfl) (pa_cons (pe_fld (pv 1) rfl) (pa_cons (pe_fld (pv 1) rfl) pa_nil))))))) (nomark _)))))), ?_⟩
      exact ⟨_, rfl, _, _, _, _, _, rfl, .own FE, (Kd.tup hm').ty K, T2.kt, _, rfl, if_so rfl k⟩
    obtain ⟨n1, n2, n3, n4, n5, n6, n7, n8, n9⟩ := T.nf
    refine ⟨_, (pss_cons (ps_if (pt_not (pt_val (pe_callB call_isi (by rfl) T.n_isinstance (by decide +kernel) (pa_cons (pv 1) (pa_cons (pe_glob (v := V.ref FE) (by rfl) T.g_Meetings rfl) pa_nil)))))
 (pss_one (ps_ret pe_bl))
 pss_nil)
 (pss_cons (ps_set (i := 2) sc_Meetings___eq__.nd rfl (Or.inl rfl) (pe_tup (pa_cons (pe_fld (pv 0) rfl) (pa_cons (pe_fld (pv 0) rfl) (pa_cons (pe_fld (pv 0) rfl) (pa_cons (pe_fld (pv 0) rfl) (pa_cons (pe_fld (pv 0) rfl) (pa_cons (pe_fld (pv 0) rfl) pa_nil))))))))
 (pss_one (ps_ret (pe_cmpR (op_eqD hr.units) (pv 2) (pe_tup (pa_cons (pe_fld (pv 1) rfl) (pa_cons (pe_fld (pv 1) rfl) (pa_cons (pe_fld (pv 1) rfl) (pa_cons (pe_fld (pv 1) rfl) (pa_cons (pe_fld (pv 1) rfl) (pa_cons (pe_fld (pv 1) rfl) pa_nil))))))) (nomark _)))))), ?_⟩
    refine ⟨_, rfl, _, _, _, _, _, rfl, .own FE, M'.ty T T2, kit_same FE, _, rfl, if_no rfl ?_⟩
    obtain ⟨dx, pa, oa, la, qa, sa, ea, h1, h2, h3, _⟩ := M.at_
    obtain ⟨dx', pa', oa', la', qa', sa', ea', h1', h2', h3', _⟩ := M'.at_
    refine ⟨_, rfl, m, FE, dx, _, _, rfl, h1, T.c_Met, n1, rfl, _, rfl, m, FE, dx, _, _, rfl, h1, T.c_Met, n2, rfl, _, rfl, m, FE, dx, _, _, rfl, h1, T.c_Met, n3, rfl, _, rfl, m, FE, dx, _, _, rfl, h1, T.c_Met, n4, rfl, _, rfl, m, FE, dx, _, _, rfl, h1, T.c_Met, n5, rfl, _, rfl, m, FE, dx, _, _, rfl, h1, T.c_Met, n6, rfl, show 6 ≤ sizeLine by decide, fun t1 ht1 => ?_⟩
    have x1 := Ex.new (o := HO.tup [V.ref pa, V.ref oa, V.int b.low, oV b.high, V.int b.first, oV b.rounds]) ht1
    have g1' := x1 _ _ h1'
    refine ⟨_, rfl, _, rfl, m', FE, dx', _, _, rfl, g1', T.c_Met, n1, rfl, _, rfl, m', FE, dx', _, _, rfl, g1', T.c_Met, n2, rfl, _, rfl, m', FE, dx', _, _, rfl, g1', T.c_Met, n3, rfl, _, rfl, m', FE, dx', _, _, rfl, g1', T.c_Met, n4, rfl, _, rfl, m', FE, dx', _, _, rfl, g1', T.c_Met, n5, rfl, _, rfl, m', FE, dx', _, _, rfl, g1', T.c_Met, n6, rfl, show 6 ≤ sizeLine by decide, fun t2 ht2 => ?_⟩
    have x2 := Ex.new (o := HO.tup [V.ref pa', V.ref oa', V.int b'.low, oV b'.high, V.int b'.first, oV b'.rounds]) ht2
    have x12 := x1.trans x2
    refine ⟨metD p o b, metD p' o' b', .tup (SqT.of (x2 _ _ upd_same)) (.cons (dp_pair (x12 _ _ h2)) (.cons (dp_pair (x12 _ _ h3)) (.cons (.int _) (.cons (dp_oI _) (.cons (.int _) (.cons (dp_oI _) .nil)))))), .tup (SqT.of upd_same) (.cons (dp_pair (x12 _ _ h2')) (.cons (dp_pair (x12 _ _ h3')) (.cons (.int _) (.cons (dp_oI _) (.cons (.int _) (.cons (dp_oI _) .nil)))))), shp_met _ _ _, shp_met _ _ _, ?_⟩
    exact k _ x12
end
end My
set_option maxHeartbeats 4000000
namespace My
open PySem L2 Lf Evl StX
abbrev s_law_forced : Stmt := top 31
theorem sc_law_forced : FnScope ["_law_place", "_law_other_here", "_law_bounds_here", "_law_found", "_law_first", "_law_later", "_law_cell", "_law_earlier", "_law_at"] ["_law_place", "_law_other_here", "_law_bounds_here"] (defScope s_law_forced) := ⟨rfl, rfl, rfl, by decide +kernel, rfl, by decide +kernel, by decide +kernel⟩
def spForced : Sp := fun vs H Q _ => ∃ (pa oa ba : Addr) (p o : Int × Int) (b : Mt.Bnd), vs = [.ref pa, .ref oa, .ref ba] ∧ H pa = some (tup2 p) ∧ H oa = some (tup2 o) ∧ H ba = some (bndT b) ∧ PlD p o ∧ 0 ≤ b.first ∧ b.first ≤ 6 ∧
  ∀ l ys H', H l = none → Ex H H' → H' l = some (.lst ys) → PairsAt H' ys (Mt.forced (goodB p o b) p o b.first 160) → Q (.ref l) H'
theorem earl_len {p o : Int × Int} {fi l : Int} (h0 : 0 ≤ fi) (h1 : l < 160) : (Mt.earl p o fi l).length ≤ 200 := by
  unfold Mt.earl
  split
  · split
    · rw [List.length_map, List.length_range]; omega
    · exact Nat.zero_le _
  · split
    · simp
    · exact Nat.zero_le _
theorem row_len {g : Int × Int → Bool} {p o : Int × Int} {fi l : Int} (h0 : 0 ≤ fi) (h1 : l < 160) : (Mt.rowF g p o fi l).length ≤ 200 := by
  unfold Mt.rowF
  rw [List.length_map]
  exact Nat.le_trans (List.length_filter_le _ _) (earl_len h0 h1)
theorem forced_len {g : Int × Int → Bool} {p o : Int × Int} {fi : Int} (h0 : 0 ≤ fi) : ∀ n : Nat, n ≤ 160 → (Mt.forced g p o fi n).length ≤ 200 * n
  | 0, _ => by unfold Mt.forced; exact Nat.zero_le _
  | n + 1, h => by
    unfold Mt.forced
    rw [List.length_append]
    have := forced_len (g := g) (p := p) (o := o) h0 n (by omega)
    have := row_len (g := g) (p := p) (o := o) (fi := fi) (l := n) h0 (by omega)
    omega
theorem rgV_map (a b : Int) : rgV a b = ((List.range (b - a).toNat).map fun (i : Nat) => a + (i : Int)).map V.int := by
  unfold rgV
  rw [List.map_map]
  rfl
theorem PairsAt.app {H : Hp} : ∀ {ys : List V} {qs : List (Int × Int)} {zs : List V} {rs : List (Int × Int)}, PairsAt H ys qs → PairsAt H zs rs → PairsAt H (ys ++ zs) (qs ++ rs)
  | _, _, _, _, .nil, h => h
  | _, _, _, _, .cons h t, h2 => .cons h (PairsAt.app t h2)
theorem PairsAt.chg {H : Hp} {l : Addr} {xs zs : List V} (hl : H l = some (.lst xs)) : ∀ {ys : List V} {qs : List (Int × Int)}, PairsAt H ys qs → PairsAt (upd H l (.lst zs)) ys qs
  | _, _, .nil => .nil
  | _, _, .cons ⟨a, e, h⟩ t => .cons ⟨a, e, by rw [upd_ne (fun z => by rw [z, hl] at h; cases h)]; exact h⟩ (PairsAt.chg hl t)
theorem q_mid {ts tz : TS} {D : Ends} {σ : L2.St} {H : Hp} (Mid : L2.St → Hp → Prop) (h : ∀ nx : L2.St → Hp → Prop, (∀ σ' H', Mid σ' H' → nx σ' H') → ts { D with nx := nx } σ H) (k : ∀ σ' H', Mid σ' H' → tz D σ' H') : tSeq ts tz D σ H := h (tz D) k
section
variable {P : Program} {w : World} {K : PySem.W.Frag} {mg : Str → Option Value} {base : Heap} {CN fI CA FE : Addr}
theorem ok_law_forced (T : Txt P K mg CN fI CA FE) (D : Df K mg "_law_forced" s_law_forced) (D_law_is_good : DefOk P w K mg base CX0 2 "_law_is_good" ["_law_place", "_law_other_here", "_law_bounds_here", "_law_pair"] spGood) :
    DefOk P w K mg base CX0 3 "_law_forced" ["_law_place", "_law_other_here", "_law_bounds_here"] spForced := by
  refine D.ok sc_law_forced (fun _ _ _ _ _ _ us hl => match us, hl with | [_, _, _], _ => rfl) (fun vs H Q E h => ?_) (fun f cdv A outer s H vs Q E hr h => ?_)
  · obtain ⟨_, _, _, _, _, _, rfl, _⟩ := h
    rfl
  · obtain ⟨pa, oa, ba, p, o, b, rfl, hp, ho, hb, PL, f0, f6, k⟩ := h
    refine ⟨_, (pss_cons (ps_par (by rfl) sc_law_forced.nd (i := 3) (j := 4) rfl rfl (by decide) rfl rfl (pa_cons (pe_lst pa_nil) (pa_cons (pe_ix ix_tup (pv 2) pe_int (fun _ _ => rfl)) pa_nil)) (by rfl))
 (pss_cons (ps_for PassesOwn.never rfl (pi_range1 (by rfl) T.n_range (pa_cons pe_int pa_nil)) (pg_name (i := 5) sc_law_forced.nd rfl (Or.inr rfl))
 (pss_cons (ps_set (i := 6) sc_law_forced.nd rfl (Or.inl rfl) (pe_op op_add (pe_op op_mulW (pe_ix ix_tup (pv 1) pe_int (fun _ _ => rfl)) (pv 5)) (pe_ix ix_tup (pv 1) pe_int (fun _ _ => rfl))))
 (pss_cons (ps_if (pt_cmpR op_eq (pe_ix ix_tup (pv 0) pe_int (fun _ _ => rfl)) pe_int (nomark _))
 (pss_one (ps_set (i := 7) sc_law_forced.nd rfl (Or.inl rfl) (pe_ifExp (pt_cmpR op_eq (pv 6) (pe_ix ix_tup (pv 0) pe_int (fun _ _ => rfl)) (nomark _)) (pe_listRg rfl (by rfl) T.n_list (prg_2 (by rfl) T.n_range (pv 4) (pe_op op_add (pv 5) pe_int))) (pe_lst pa_nil))))
 (pss_one (ps_if (pt_cmpR op_eq (pe_op op_modN (pe_callTy call_int1 (by rfl) T.n_int (by decide +kernel) (pa_cons (pe_op op_sub (pv 6) (pe_ix ix_tup (pv 0) pe_int (fun _ _ => rfl))) pa_nil)) (pe_ix ix_tup (pv 0) pe_int (fun _ _ => rfl))) pe_int (nomark _))
 (pss_one (ps_set (i := 7) sc_law_forced.nd rfl (Or.inl rfl) (pe_lst (pa_cons (pe_op op_fdivV (pe_op op_sub (pv 6) (pe_ix ix_tup (pv 0) pe_int (fun _ _ => rfl))) (pe_ix ix_tup (pv 0) pe_int (fun _ _ => rfl))) pa_nil))))
 (pss_one (ps_set (i := 7) sc_law_forced.nd rfl (Or.inl rfl) (pe_lst pa_nil))))))
 (pss_one (ps_expr (pe_bm PySem.F.plainAttrs_list PySem.F.slot_list_extend PySem.F.type_list_extend mt_extend (pv 3) (pa_cons (pe_lc (own := [("_law_at", 8)]) (by rfl) sc_law_forced.nd (pi_list (pv 7)) (blkOk_by (own := [("_law_at", 8)]) (N := ["_law_place", "_law_other_here", "_law_bounds_here", "_law_found", "_law_first", "_law_later", "_law_cell", "_law_earlier", "_law_at"]) (sc := defScope s_law_forced) (by decide +kernel)) (fun _ _ _ _ _ => (pg_name (i := 8) sc_law_forced.nd rfl (Or.inl rfl))) (fun _ _ _ _ _ => (pts_one (pt_val (pe_callD D_law_is_good (hr.mono (by decide)) pass0 (pa_cons (pv 0) (pa_cons (pv 1) (pa_cons (pv 2) (pa_cons (pe_tup (pa_cons (pv 8) (pa_cons (pv 5) pa_nil))) pa_nil)))))))) (fun _ _ _ _ _ => (pe_tup (pa_cons (pv 8) (pa_cons (pv 5) pa_nil))))) pa_nil)))))))
 (pss_one (ps_ret (pv 3))))), ?_⟩
    refine ⟨show 0 ≤ sizeLine by decide, fun l hl => ?_⟩
    have e0 : Ex H (upd H l (.lst [])) := Ex.new hl
    refine ⟨_, rfl, _, _, _, _, rfl, rfl, SqT.of (e0 _ _ hb), rfl, _, _, rfl, ?_⟩
    dsimp only
    refine q_forR1 (n := 160) (fun H1 x1 Q' q' => q' H1 (Ex.refl _)) ⟨by decide, by decide⟩ (fun i σ H' => ∃ v5 v6 v7 v8, σ = [some (.ref pa), some (.ref oa), some (.ref ba), some (.ref l), some (.int b.first), v5, v6, v7, v8] ∧ Ex H H' ∧ ∃ ys, H' l = some (.lst ys) ∧ PairsAt H' ys (Mt.forced (goodB p o b) p o b.first i))
      (fun H1 x1 => ⟨none, none, none, none, rfl, e0.trans x1, [], x1 _ _ upd_same, .nil⟩) ?_ ?_
    · rintro i σ H1 hi ⟨v5, v6, v7, v8, rfl, x1, ys, hL, hP⟩
      have bi : Bd 8 (i : Int) := by unfold Bd; omega
      have hp1 := x1 _ _ hp
      have ho1 := x1 _ _ ho
      have hb1 := x1 _ _ hb
      have bo1 : Bd 72 (o.1 * (i : Int)) := PL.s2.mul bi (by decide)
      have bc : Bd 150 (o.1 * (i : Int) + o.2) := ((bo1.mono (by decide)).add PL.o2 (by decide : 140 + 1 ≤ 141)).mono (by decide)
      have bd : Bd 151 (o.1 * (i : Int) + o.2 - p.2) := bc.sub (PL.o1.mono (by decide)) (by decide)
      refine ⟨_, rfl, _, _, _, _, rfl, rfl, SqT.of ho1, rfl, _, rfl, _, _, rfl, rfl, PL.s2.ok bi (by decide) (by decide) (by decide), _, rfl, _, _, _, _, rfl, rfl, SqT.of ho1, rfl, _, _, rfl, rfl, ?_⟩
      dsimp only [List.set]
      refine q_mid (fun σ H2 => ∃ ea, σ = [some (.ref pa), some (.ref oa), some (.ref ba), some (.ref l), some (.int b.first), some (.int (i : Int)), some (.int (o.1 * (i : Int) + o.2)), some (.ref ea), v8] ∧ Ex H1 H2 ∧ H2 ea = some (.lst ((Mt.earl p o b.first i).map V.int)) ∧ ∀ a ∈ Mt.earl p o b.first i, Bd 300 a) (fun nx mid => ?_) ?_
      · refine ⟨_, rfl, _, _, _, _, rfl, rfl, SqT.of hp1, rfl, rfl, _, rfl, ?_⟩
        unfold Mt.earl at mid
        by_cases c0 : p.1 = 0
        · rw [if_pos c0] at mid
          refine if_so (eqi_t c0) ?_
          refine ⟨_, rfl, _, rfl, _, _, _, _, rfl, rfl, SqT.of hp1, rfl, rfl, _, rfl, ?_⟩
          by_cases c1 : o.1 * (i : Int) + o.2 = p.2
          · rw [if_pos c1] at mid
            refine if_so (eqi_t c1) ⟨_, rfl, _, rfl, _, _, rfl, rfl, _, _, rfl, rfl, .of_le f0 (by omega) (by omega) (by omega), fun ea hea => ?_⟩
            refine mid _ _ ⟨ea, rfl, Ex.new hea, ?_, fun a ha => ?_⟩
            · rw [upd_same, rgV_map]
            · obtain ⟨j, hj, rfl⟩ := List.mem_map.mp ha
              have := List.mem_range.mp hj
              have : Bd 20 (b.first + (j : Int)) := by unfold Bd; omega
              exact this.mono (by decide)
          · rw [if_neg c1] at mid
            refine if_no (eqi_f c1) ⟨show 0 ≤ sizeLine by decide, fun ea hea => ?_⟩
            exact mid _ _ ⟨ea, rfl, Ex.new hea, upd_same, fun a ha => by cases ha⟩
        · rw [if_neg c0] at mid
          refine if_no (eqi_f c0) ?_
          refine ⟨_, rfl, _, rfl, _, _, _, _, rfl, rfl, SqT.of hp1, rfl, _, _, rfl, rfl, .inl ⟨_, rfl, _, rfl, _, _, _, _, rfl, rfl, SqT.of hp1, rfl, _, _, rfl, rfl, c0, rfl, _, rfl, ?_⟩⟩
          by_cases c1 : (o.1 * (i : Int) + o.2 - p.2).fmod p.1 = 0
          · rw [if_pos c1] at mid
            refine if_so (eqi_t c1) ⟨_, rfl, _, rfl, _, _, _, _, rfl, rfl, SqT.of hp1, rfl, _, _, rfl, rfl, _, rfl, _, _, _, _, rfl, rfl, SqT.of hp1, rfl, _, _, rfl, rfl, PL.s1.dok c0 (by decide) (by decide), show 1 ≤ sizeLine by decide, fun ea hea => ?_⟩
            refine mid _ _ ⟨ea, rfl, Ex.new hea, upd_same, fun a ha => ?_⟩
            rw [List.mem_singleton.mp ha]
            have e1 : (o.1 * (i : Int) + o.2 - p.2) = p.1 * (o.1 * (i : Int) + o.2 - p.2).fdiv p.1 := by
              have := Int.mul_fdiv_add_fmod (o.1 * (i : Int) + o.2 - p.2) p.1
              omega
            have e2 := Mt.le_mul_abs (x := (o.1 * (i : Int) + o.2 - p.2).fdiv p.1) c0
            rw [← e1] at e2
            exact (show Bd 151 _ from Nat.lt_of_le_of_lt e2 bd).mono (by decide)
          · rw [if_neg c1] at mid
            refine if_no (eqi_f c1) ⟨show 0 ≤ sizeLine by decide, fun ea hea => ?_⟩
            exact mid _ _ ⟨ea, rfl, Ex.new hea, upd_same, fun a ha => by cases ha⟩
      · rintro σ H2 ⟨ea, rfl, x2, hE, hBd⟩
        have x12 := x1.trans x2
        have hl2 := x2 _ _ hL
        have hn := earl_len (p := p) (o := o) (l := (i : Int)) f0 hi
        refine ⟨_, rfl, .inl ⟨rfl, _, SqL.of hl2⟩, _, rfl, ea, rfl, ⟨_, SqL.of hE⟩, fun D hD => ?_⟩
        refine lc_list (K := K) (a := ea) (xs := (Mt.earl p o b.first i).map V.int) (fun j H' => Ex H2 H' ∧ ∃ zs, H' D = some (.lst zs) ∧ PairsAt H' zs ((((Mt.earl p o b.first i).take j).filter fun a => goodB p o b (a, (i : Int))).map fun a => (a, (i : Int)))) ⟨Ex.new hD, [], upd_same, .nil⟩ (fun j H' _ ⟨e2, _⟩ => SqL.of (e2 _ _ hE)) ?_ ?_
        · rintro j x H3 hx ⟨x3, zs, hZ, hPz⟩
          obtain ⟨a, ha, rfl⟩ := map_int_at hx
          have ba' := hBd a (List.mem_of_getElem? ha)
          have bq : Bd2 300 (a, (i : Int)) := ⟨ba', bi.mono (by decide)⟩
          have y3 := x12.trans x3
          refine ⟨rfl, _, rfl, _, rfl, _, rfl, _, rfl, _, rfl, show 2 ≤ sizeLine by decide, fun t ht => ?_⟩
          have w1 := Ex.new (o := tup2 (a, (i : Int))) ht
          refine ⟨pa, oa, ba, t, p, o, (a, (i : Int)), b, rfl, w1 _ _ (y3 _ _ hp), w1 _ _ (y3 _ _ ho), w1 _ _ (y3 _ _ hb), upd_same, PL, bq.mono (by decide), _, rfl, ?_⟩
          rw [take_more ha, List.filter_append, List.map_append]
          have lz := PairsAt.len hPz
          have l2 : zs.length ≤ 200 := by
            rw [lz, List.length_map]
            refine Nat.le_trans (List.length_filter_le _ _) ?_
            rw [List.length_take]
            omega
          have hZ1 := w1 _ _ hZ
          have hP1 := PairsAt.mono w1 hPz
          cases hg : goodB p o b (a, (i : Int)) with
          | false =>
            refine if_no rfl ⟨x3.trans w1, zs, hZ1, ?_⟩
            rw [List.filter_cons_of_neg (by rw [hg]; exact Bool.false_ne_true)]
            simpa using hP1
          | true =>
            refine if_so rfl ⟨_, rfl, _, rfl, show 2 ≤ sizeLine by decide, fun u hu => ⟨zs, Ex.new hu _ _ hZ1, Nat.lt_of_le_of_lt l2 (show 200 < sizeLine by decide), ?_⟩⟩
            have w2 := Ex.new (o := tup2 (a, (i : Int))) hu
            refine ⟨Ex.mut ((x3.trans w1).trans w2) hD, _, upd_same, ?_⟩
            rw [List.filter_cons_of_pos (p := fun a => goodB p o b (a, (i : Int))) hg]
            exact PairsAt.chg (w2 _ _ hZ1) (PairsAt.app (PairsAt.mono w2 hP1) (.cons ⟨u, rfl, upd_same⟩ .nil))
        · rintro H3 ⟨x3, zs, hZ, hPz⟩
          rw [List.length_map, List.take_length] at hPz
          have l1 := PairsAt.len hP
          have l2 := PairsAt.len hPz
          have r1 := forced_len (g := goodB p o b) (p := p) (o := o) f0 i (by omega)
          have r2 := row_len (g := goodB p o b) (p := p) (o := o) (fi := b.first) (l := (i : Int)) f0 hi
          have hl3 := x3 _ _ hl2
          have nlD : l ≠ D := fun z => by rw [z] at hl2; rw [hl2] at hD; cases hD
          refine ⟨l, D, ys, zs, rfl, rfl, hl3, hZ, Nat.le_trans (m := 40000) ?_ (by decide), ?_⟩
          · unfold Mt.rowF at r2
            omega
          · refine ⟨_, _, _, _, rfl, Ex.mut (x12.trans x3) hl, _, upd_same, ?_⟩
            exact PairsAt.chg hl3 (PairsAt.app (PairsAt.mono (x2.trans x3) hP) hPz)
    · rintro σ H1 ⟨v5, v6, v7, v8, rfl, x1, ys, hL, hP⟩
      exact ⟨_, rfl, k l ys H1 hl x1 hL hP⟩
end
end My
set_option maxHeartbeats 4000000
namespace My
open PySem L2 Lf Evl StX
abbrev s_law_ends : Stmt := top 32
theorem sc_law_ends : FnScope ["_law_found", "_law_met", "_law_near", "_law_pair", "_law_nearest", "_law_soonest", "_law_top", "_law_latest", "_law_due"] ["_law_found", "_law_met"] (defScope s_law_ends) := ⟨rfl, rfl, rfl, by decide +kernel, rfl, by decide +kernel, by decide +kernel⟩
theorem hu65 {k : Nat} {A : Around} (r : Room k A) : A.units + 65 < cLine := by have := r.un; omega
/-! ### comprehensions over a list of pairs -/
theorem given_cons (n : Nat) (f : Nat → Bool) (v : Nat → V) : given (n + 1) f v = (if f 0 = true then [v 0] else []) ++ given n (fun i => f (i + 1)) (fun i => v (i + 1)) := by
  unfold given
  rw [List.range_succ_eq_map, List.filter_cons, List.filter_map]
  split
  · rw [List.map_cons, List.map_map]
    rfl
  · rw [List.map_map]
    rfl
theorem given_all {H : Hp} {fn : Int × Int → Int} : ∀ {ys : List V} {qs : List (Int × Int)}, PairsAt H ys qs → given ys.length (fun _ => true) (fun i => .int (fn (qs.getD i (0, 0)))) = (qs.map fn).map V.int
  | _, _, .nil => rfl
  | _, _, .cons h t => by
    rw [List.length_cons, given_cons, if_pos rfl]
    have := given_all (fn := fn) t
    simp only [List.map_cons]
    show V.int _ :: given _ _ _ = _
    congr 1
theorem given_some {H : Hp} {g : Int × Int → Bool} : ∀ {ys : List V} {qs : List (Int × Int)}, PairsAt H ys qs → PairsAt H (given ys.length (fun i => g (qs.getD i (0, 0))) (fun i => ys.getD i .non)) (qs.filter g)
  | _, _, .nil => .nil
  | y :: ys, q :: qs, .cons h t => by
    rw [List.length_cons, given_cons]
    have := given_some (g := g) t
    show PairsAt H ((if g q = true then [y] else []) ++ given ys.length (fun i => g (qs.getD i (0, 0))) (fun i => ys.getD i .non)) _
    by_cases c : g q = true
    · rw [if_pos c, List.filter_cons_of_pos c]
      exact .cons h this
    · rw [if_neg c, List.filter_cons_of_neg c]
      exact this
theorem pairs_at {H : Hp} : ∀ {ys : List V} {qs : List (Int × Int)} {i : Nat} {y : V}, PairsAt H ys qs → ys[i]? = some y → qs[i]? = some (qs.getD i (0, 0)) ∧ PairAt H y (qs.getD i (0, 0))
  | _, _, _, _, .nil, e => by simp at e
  | _, _, 0, _, .cons h _, e => by
    cases e
    exact ⟨rfl, h⟩
  | _, _, i + 1, y, .cons _ t, e => pairs_at (i := i) (y := y) t (by simpa using e)
theorem PairAt.mono' {H H' : Hp} {y : V} {q : Int × Int} (e : Ex H H') (h : PairAt H y q) : PairAt H' y q := by
  obtain ⟨a, e1, h⟩ := h
  exact ⟨a, e1, e _ _ h⟩
section
variable {K : PySem.W.Frag} {σ : L2.St} {H : Hp} {te tl : TE} {tt : TT} {vs : List Nat} {a : Addr} {ys : List V} {qs : List (Int × Int)} {j : Nat}
theorem el_pairsI (fn : Int × Int → Int) (h : Ev tl σ H (.ref a)) (hx : H a = some (.lst ys)) (hp : PairsAt H ys qs) (hz : ys.length ≤ 40000) (hw : ∀ x, wipe ((wipe σ vs).set j (some x)) vs = wipe σ vs)
    (he : ∀ r q H1, Ex H H1 → H1 r = some (tup2 q) → Ev te ((wipe σ vs).set j (some (.ref r))) H1 (.int (fn q))) : EvL (tLc (iList K tl) (gName j) tYes te vs) σ H ((qs.map fn).map V.int) := by
  rw [← given_all hp]
  refine el_lcL (fun _ => true) _ h (SqL.of hx) hz hw (fun i x H1 x1 hi => fun H2 x2 Q q => q H2 (Ex.refl _)) (fun i x H1 x1 hi _ => ?_)
  obtain ⟨_, r, rfl, hr⟩ := pairs_at hp hi
  exact he r _ H1 x1 (x1 _ _ hr)
theorem el_pairsF (g : Int × Int → Bool) (h : Ev tl σ H (.ref a)) (hx : H a = some (.lst ys)) (hp : PairsAt H ys qs) (hz : ys.length ≤ 40000) (hw : ∀ x, wipe ((wipe σ vs).set j (some x)) vs = wipe σ vs) (hj : ∀ x, ((wipe σ vs).set j (some x))[j]? = some (some x))
    (he : ∀ r q H1, Ex H H1 → H1 r = some (tup2 q) → EvT tt ((wipe σ vs).set j (some (.ref r))) H1 (g q)) : ∃ zs, PairsAt H zs (qs.filter g) ∧ EvL (tLc (iList K tl) (gName j) tt (tVar j) vs) σ H zs := by
  refine ⟨_, given_some (g := g) hp, ?_⟩
  refine el_lcL _ _ h (SqL.of hx) hz hw (fun i x H1 x1 hi => ?_) (fun i x H1 x1 hi _ => ?_)
  · obtain ⟨_, r, rfl, hr⟩ := pairs_at hp hi
    exact he r _ H1 x1 (x1 _ _ hr)
  · have e : ys.getD i .non = x := by rw [List.getD_eq_getElem?_getD, hi]; rfl
    rw [e]
    exact ev_var (hj x)
/-- [..][0], [..][-1] -/
theorem ev_at0 {y : V} {zs : List V} {tb : TE} {n : Int} (h : EvL tl σ H zs) (hb : Ev tb σ H (.int n)) (ha : atI zs n = some y) : Ev (tOp (rIxL K) tl tb) σ H y :=
  ev_opL1 h (fun H1 x1 => hb.mono x1) fun p H1 hp _ => rv_ixL (SqL.of hp) ha
end
theorem at_zero {y : V} {zs : List V} : atI (y :: zs) 0 = some y := by
  unfold atI ixN
  simp
theorem at_last {y : V} {zs : List V} : atI (zs ++ [y]) (-1) = some y := by
  have h : ixN (zs ++ [y]).length (-1) = some zs.length := by
    unfold ixN
    rw [List.length_append]
    simp
    omega
  unfold atI
  rw [h]
  simp
theorem PairsAt.snoc_inv {H : Hp} : ∀ {ys : List V} {qs : List (Int × Int)} {q : Int × Int}, PairsAt H ys (qs ++ [q]) → ∃ zs y, ys = zs ++ [y] ∧ PairAt H y q
  | _, [], q, .cons h .nil => ⟨[], _, rfl, h⟩
  | _, r :: qs, q, .cons h t => by
    obtain ⟨zs, y, rfl, hy⟩ := PairsAt.snoc_inv t
    exact ⟨_ :: zs, y, rfl, hy⟩
def spEndsL (C : Addr) : Sp := fun vs H Q _ => ∃ la m ys p o b has q0 st e, vs = [.ref la, .ref m] ∧ H la = some (.lst ys) ∧ PairsAt H ys (Mt.forced (goodB p o b) p o b.first 160) ∧ MetAt C H m p o b has q0 st e ∧ Mt.Small p o b ∧ ∀ H', Ex H H' → Q (.bl true) H'
theorem soon_any {C : Addr} {H : Hp} {m : Addr} {p o : Int × Int} {b : Mt.Bnd} {has : Bool} {q0 st : Int × Int} {e : Mt.Ends} {Q : VK} {E : XK} (M : MetAt C H m p o b has q0 st e) (k : ∀ v H', Ex H H' → PO H' v (Mt.soonest has q0 st e) → Q v H') : spSoon C [.ref m] H Q E :=
  ⟨m, p, o, b, has, q0, st, e, rfl, M, fun z => k _ H (Ex.refl _) (by rw [z]; rfl), fun q z r H' x hr => k _ H' x (by rw [z]; exact ⟨r, rfl, hr⟩)⟩
theorem late_any {C : Addr} {H : Hp} {m : Addr} {p o : Int × Int} {b : Mt.Bnd} {has : Bool} {q0 st : Int × Int} {e : Mt.Ends} {Q : VK} {E : XK} (M : MetAt C H m p o b has q0 st e) (k : ∀ v H', Ex H H' → PO H' v (Mt.latest has q0 st e) → Q v H') : spLate C [.ref m] H Q E :=
  ⟨m, p, o, b, has, q0, st, e, rfl, M, fun z => k _ H (Ex.refl _) (by rw [z]; rfl), fun q z r H' x hr => k _ H' x (by rw [z]; exact ⟨r, rfl, hr⟩)⟩
theorem shp_pairs (qs : List (Int × Int)) : SeqAt.shaped (.list (qs.map pD)) = true := by
  obtain ⟨h1, h2⟩ := lay_pairs qs
  unfold SeqAt.shaped
  rw [Bool.and_eq_true]
  exact ⟨h1, decide_eq_true (by show PyData.depthAll (qs.map pD) + 1 ≤ 64; omega)⟩
theorem eqv_nil (qs : List (Int × Int)) : PyData.eqv (.list (qs.map pD)) (.list []) = decide (qs = []) := by
  cases qs with
  | nil => rfl
  | cons q r => rfl
theorem found_small {p o q0 st : Int × Int} {b : Mt.Bnd} {has : Bool} {e : Mt.Ends} {g : Int × Int → Bool} (S : Mt.Small p o b) (hg : ∀ q, g q = true ↔ Mt.good p o b q) (M : Mt.MetOk p o b has q0 st e) (am : Mt.amount has e = none) : (Mt.forced g p o b.first 160).length ≤ 200 := by
  cases h : Mt.isEmpty has e with
  | true => unfold Mt.amount at am; rw [h, if_pos rfl] at am; cases am
  | false =>
    obtain ⟨q, hq, s1, _, _⟩ := Mt.each_spec M h
    obtain ⟨m, em, _, _⟩ := Mt.found_walk S hg M h hq
    obtain ⟨_, i2, _⟩ := Mt.inf_facts S M h hq am
    have g0 := (Mt.keeps_iff b _).mp (s1 0 (fun n hn => by rw [am] at hn; cases hn)).2
    have mf := fun {r : Int × Int} => Mt.mem_forced (n := 160) hg S.lo.1 S.fi.1 (q := r)
    rw [em, List.length_map, List.length_range]
    rcases Nat.eq_zero_or_pos m with z | z
    · omega
    · have h1 : Mt.eachP q st (m - 1) ∈ Mt.forced g p o b.first 160 := by rw [em]; exact List.mem_map.mpr ⟨m - 1, List.mem_range.mpr (by omega), rfl⟩
      have h2 := (mf.mp h1).2
      have ek : ∀ k : Nat, (Mt.eachP q st k).2 = q.2 + st.2 * Mt.sgn st * k := fun k => by
        unfold Mt.eachP Mt.after
        dsimp only
        rw [Int.mul_assoc]
      have e0 := ek 0
      have e1 := ek (m - 1)
      have h3 : 1 * ((m - 1 : Nat) : Int) ≤ st.2 * Mt.sgn st * ((m - 1 : Nat) : Int) := Int.mul_le_mul_of_nonneg_right i2 (by omega)
      have := S.lo.1
      have := S.fi.1
      have := g0.1
      have := g0.2.1
      simp at e0
      omega
theorem el_go {te : TE} {σ : L2.St} {H : Hp} {xs : List V} {Q : VK} (h : EvL te σ H xs) (k : ∀ p H2, H p = none → Ex H H2 → H2 p = some (.lst xs) → Q (.ref p) H2) : te σ H Q := h H (Ex.refl H) Q k
theorem ev_minI {K : PySem.W.Frag} {σ : L2.St} {H : Hp} {tl : TE} {ns : List Int} {m : Int} (h : EvL tl σ H (ns.map V.int)) (hm : m ∈ ns) (hle : ∀ y ∈ ns, m ≤ y) : Ev (tCB (rMin K) (tCons tl tNil)) σ H (.int m) := fun H1 e Q q =>
  h H1 e _ fun p H2 _ e2 hp => ⟨p, ns, rfl, SqL.of hp, List.length_pos_of_mem hm, fun m' h1 h2 => by
    have : m' = m := Int.le_antisymm (h2 m hm) (hle m' h1)
    rw [this]
    exact q H2 e2⟩
theorem ev_maxI {K : PySem.W.Frag} {σ : L2.St} {H : Hp} {tl : TE} {ns : List Int} {m : Int} (h : EvL tl σ H (ns.map V.int)) (hm : m ∈ ns) (hle : ∀ y ∈ ns, y ≤ m) : Ev (tCB (rMax K) (tCons tl tNil)) σ H (.int m) := fun H1 e Q q =>
  h H1 e _ fun p H2 _ e2 hp => ⟨p, ns, rfl, SqL.of hp, List.length_pos_of_mem hm, fun m' h1 h2 => by
    have : m' = m := Int.le_antisymm (hle m' h1) (h2 m hm)
    rw [this]
    exact q H2 e2⟩
theorem max_ex : ∀ {ns : List Int}, ns ≠ [] → ∃ m ∈ ns, ∀ y ∈ ns, y ≤ m
  | [x], _ => ⟨x, List.mem_singleton.mpr rfl, fun y hy => by rw [List.mem_singleton.mp hy]; exact Int.le_refl _⟩
  | x :: y :: r, _ => by
    obtain ⟨m, hm, h⟩ := max_ex (ns := y :: r) (by simp)
    by_cases c : m ≤ x
    · refine ⟨x, List.mem_cons_self .., fun z hz => ?_⟩
      rcases List.mem_cons.mp hz with w | w
      · rw [w]; exact Int.le_refl _
      · exact Int.le_trans (h z w) c
    · refine ⟨m, List.mem_cons_of_mem _ hm, fun z hz => ?_⟩
      rcases List.mem_cons.mp hz with w | w
      · omega
      · exact h z w
/-- x = [pair for pair in found if ..][n] -/
theorem q_pick {K : PySem.W.Frag} {σ : L2.St} {H : Hp} {tl tb : TE} {tt : TT} {vs : List Nat} {a : Addr} {ys : List V} {qs : List (Int × Int)} {i j : Nat} {n : Int} {tz : TS} {D : Ends} (g : Int × Int → Bool) (q1 : Int × Int) (h : Ev tl σ H (.ref a)) (hx : H a = some (.lst ys)) (hp : PairsAt H ys qs) (hz : ys.length ≤ 40000)
    (hw : ∀ x, wipe ((wipe σ vs).set j (some x)) vs = wipe σ vs) (hj : ∀ x, ((wipe σ vs).set j (some x))[j]? = some (some x)) (he : ∀ r q H1, Ex H H1 → H1 r = some (tup2 q) → EvT tt ((wipe σ vs).set j (some (.ref r))) H1 (g q)) (hb : Ev tb σ H (.int n))
    (ix : ∀ zs, PairsAt H zs (qs.filter g) → ∃ y, atI zs n = some y ∧ PairAt H y q1) (k : ∀ y H1, Ex H H1 → PairAt H1 y q1 → tz D (σ.set i (some y)) H1) : tSeq (tAsg (tOp (rIxL K) (tLc (iList K tl) (gName j) tt (tVar j) vs) tb) (gName i)) tz D σ H := by
  obtain ⟨zs, h1, h2⟩ := el_pairsF (K := K) g h hx hp hz hw hj he
  obtain ⟨y, h3, h4⟩ := ix zs h1
  exact q_asg (ev_at0 h2 hb h3) fun H1 x1 => k y H1 x1 (h4.mono' x1)
theorem ix_first {H : Hp} {qs r : List (Int × Int)} {q1 : Int × Int} (e : qs = q1 :: r) : ∀ zs, PairsAt H zs qs → ∃ y, atI zs 0 = some y ∧ PairAt H y q1 := by
  subst e
  rintro _ (_ | ⟨h, t⟩)
  exact ⟨_, at_zero, h⟩
theorem ix_last {H : Hp} {qs r : List (Int × Int)} {q1 : Int × Int} (e : qs = r ++ [q1]) : ∀ zs, PairsAt H zs qs → ∃ y, atI zs (-1) = some y ∧ PairAt H y q1 := by
  subst e
  intro zs h
  obtain ⟨zs', y, rfl, hy⟩ := PairsAt.snoc_inv h
  exact ⟨y, at_last, hy⟩
theorem PairAt.po {H : Hp} {y : V} {q : Int × Int} (h : PairAt H y q) : PO H y (some q) := h
section
variable {P : Program} {w : World} {K : PySem.W.Frag} {mg : Str → Option Value} {base : Heap} {CN fI CA FE : Addr}
theorem ok_law_ends (T : Txt P K mg CN fI CA FE) (D : Df K mg "_law_ends" s_law_ends) (D_Met_nearest : PropOk P w K mg base CX0 3 FE "nearest" ["self"] (spNearest FE)) (D_Met_soonest : PropOk P w K mg base CX0 3 FE "soonest" ["self"] (spSoon FE)) (D_Met_latest : PropOk P w K mg base CX0 3 FE "latest" ["self"] (spLate FE))
    (D_Met_distance : PropOk P w K mg base CX0 5 FE "distance" ["self"] (spDist FE)) (D_Met_amount : PropOk P w K mg base CX0 2 FE "amount" ["self"] (spAmount FE)) :
    DefOk P w K mg base CX0 7 "_law_ends" ["_law_found", "_law_met"] (spEndsL FE) := by
  refine D.ok sc_law_ends (fun _ _ _ _ _ _ us hl => match us, hl with | [_, _], _ => rfl) (fun vs H Q E h => ?_) (fun f cdv A outer s H vs Q E hr h => ?_)
  · obtain ⟨_, _, _, _, _, _, _, _, _, _, rfl, _⟩ := h
    rfl
  · obtain ⟨la, m, ys, p, o, b, has, q0, st, e, rfl, hL, hP, M, S, k⟩ := h
    have hlen := forced_len (g := goodB p o b) (p := p) (o := o) S.fi.1 160 (Nat.le_refl _)
    have hyl := PairsAt.len hP
    obtain ⟨dx, pa, oa, la', ea, g⟩ := M.ins
    have hgd : ∀ q, goodB p o b q = true ↔ Mt.good p o b q := fun q => goodB_iff
    obtain ⟨tf1, tf2, tf3⟩ := Mt.told_facts S hgd M.ok
    have mf := fun {r : Int × Int} => Mt.mem_forced (n := 160) hgd S.lo.1 S.fi.1 (q := r)
    refine ⟨_, (pss_cons (ps_if (pt_cmpR (op_eqD hr.units) (pv 0) (pe_lst pa_nil) (nomark _))
 (pss_one (ps_ret (pe_and (pe_cmpR (op_eqD hr.units) (pe_tup (pa_cons (pe_propD (pv 1) T.c_Met D_Met_nearest (hr.mono (by decide)) pass0) (pa_cons (pe_propD (pv 1) T.c_Met D_Met_soonest (hr.mono (by decide)) pass0) (pa_cons (pe_propD (pv 1) T.c_Met D_Met_latest (hr.mono (by decide)) pass0) (pa_cons (pe_propD (pv 1) T.c_Met D_Met_distance (hr.mono (by decide)) pass0) pa_nil))))) (pe_tup (pa_cons pe_non (pa_cons pe_non (pa_cons pe_non (pa_cons pe_non pa_nil))))) (nomark _)) (pe_one (pe_cmpR op_eq (pe_propD (pv 1) T.c_Met D_Met_amount (hr.mono (by decide)) pass0) pe_int (nomark _))))))
 pss_nil)
 (pss_cons (ps_set (i := 2) sc_law_ends.nd rfl (Or.inr rfl) (pe_callB (cr_min rfl) (by rfl) T.n_min (by decide +kernel) (pa_cons (pe_lc (own := [("_law_pair", 3)]) (by rfl) sc_law_ends.nd (pi_list (pv 0)) (blkOk_by (own := [("_law_pair", 3)]) (N := ["_law_found", "_law_met", "_law_near", "_law_pair", "_law_nearest", "_law_soonest", "_law_top", "_law_latest", "_law_due"]) (sc := defScope s_law_ends) (by decide +kernel)) (fun _ _ _ _ _ => (pg_name (i := 3) sc_law_ends.nd rfl (Or.inl rfl))) (fun _ _ _ _ _ => pts_nil) (fun _ _ _ _ _ => (pe_op op_sub (pe_ix (r := rIxT K) ix_tup (pv 3) pe_int (fun _ _ => rfl)) (pe_ix (r := rIxT K) ix_tup (pv 3) pe_int (fun _ _ => rfl))))) pa_nil)))
 (pss_cons (ps_set (i := 4) sc_law_ends.nd rfl (Or.inl rfl) (pe_ix ix_list (pe_lc (own := [("_law_pair", 3)]) (by rfl) sc_law_ends.nd (pi_list (pv 0)) (blkOk_by (own := [("_law_pair", 3)]) (N := ["_law_found", "_law_met", "_law_near", "_law_pair", "_law_nearest", "_law_soonest", "_law_top", "_law_latest", "_law_due"]) (sc := defScope s_law_ends) (by decide +kernel)) (fun _ _ _ _ _ => (pg_name (i := 3) sc_law_ends.nd rfl (Or.inl rfl))) (fun _ _ _ _ _ => (pts_one (pt_cmpR op_eq (pe_op op_sub (pe_ix (r := rIxT K) ix_tup (pv 3) pe_int (fun _ _ => rfl)) (pe_ix (r := rIxT K) ix_tup (pv 3) pe_int (fun _ _ => rfl))) (pv 2) (nomark _)))) (fun _ _ _ _ _ => (pv 3))) pe_int (fun _ _ => rfl)))
 (pss_cons (ps_set (i := 5) sc_law_ends.nd rfl (Or.inl rfl) (pe_ix ix_list (pe_lc (own := [("_law_pair", 3)]) (by rfl) sc_law_ends.nd (pi_list (pv 0)) (blkOk_by (own := [("_law_pair", 3)]) (N := ["_law_found", "_law_met", "_law_near", "_law_pair", "_law_nearest", "_law_soonest", "_law_top", "_law_latest", "_law_due"]) (sc := defScope s_law_ends) (by decide +kernel)) (fun _ _ _ _ _ => (pg_name (i := 3) sc_law_ends.nd rfl (Or.inl rfl))) (fun _ _ _ _ _ => (pts_one (pt_cmpR op_eq (pe_ix (r := rIxT K) ix_tup (pv 3) pe_int (fun _ _ => rfl)) (pe_ix (r := rIxT K) ix_tup (pe_ix (r := rIxL K) ix_list (pv 0) pe_int (fun _ _ => rfl)) pe_int (fun _ _ => rfl)) (nomark _)))) (fun _ _ _ _ _ => (pv 3))) (pe_un un_neg pe_int) (fun _ _ => rfl)))
 (pss_cons (ps_if (PW.pt (pw_or (pt_cmpR (op_neD hr.units) (pe_propD (pv 1) T.c_Met D_Met_nearest (hr.mono (by decide)) pass0) (pv 4) (nomark _)) (pw_or (pt_cmpR op_ne (pe_propD (pv 1) T.c_Met D_Met_distance (hr.mono (by decide)) pass0) (pv 2) (nomark _)) (pw_or1 (pt_cmpR (op_neD hr.units) (pe_propD (pv 1) T.c_Met D_Met_soonest (hr.mono (by decide)) pass0) (pv 5) (nomark _))))))
 (pss_one (ps_ret pe_bl))
 pss_nil)
 (pss_cons (ps_set (i := 6) sc_law_ends.nd rfl (Or.inr rfl) (pe_callB (cr_max rfl) (by rfl) T.n_max (by decide +kernel) (pa_cons (pe_lc (own := [("_law_pair", 3)]) (by rfl) sc_law_ends.nd (pi_list (pv 0)) (blkOk_by (own := [("_law_pair", 3)]) (N := ["_law_found", "_law_met", "_law_near", "_law_pair", "_law_nearest", "_law_soonest", "_law_top", "_law_latest", "_law_due"]) (sc := defScope s_law_ends) (by decide +kernel)) (fun _ _ _ _ _ => (pg_name (i := 3) sc_law_ends.nd rfl (Or.inl rfl))) (fun _ _ _ _ _ => pts_nil) (fun _ _ _ _ _ => (pe_ix (r := rIxT K) ix_tup (pv 3) pe_int (fun _ _ => rfl)))) pa_nil)))
 (pss_cons (ps_set (i := 7) sc_law_ends.nd rfl (Or.inl rfl) (pe_ix ix_list (pe_lc (own := [("_law_pair", 3)]) (by rfl) sc_law_ends.nd (pi_list (pv 0)) (blkOk_by (own := [("_law_pair", 3)]) (N := ["_law_found", "_law_met", "_law_near", "_law_pair", "_law_nearest", "_law_soonest", "_law_top", "_law_latest", "_law_due"]) (sc := defScope s_law_ends) (by decide +kernel)) (fun _ _ _ _ _ => (pg_name (i := 3) sc_law_ends.nd rfl (Or.inl rfl))) (fun _ _ _ _ _ => (pts_one (pt_cmpR op_eq (pe_ix (r := rIxT K) ix_tup (pv 3) pe_int (fun _ _ => rfl)) (pv 6) (nomark _)))) (fun _ _ _ _ _ => (pv 3))) pe_int (fun _ _ => rfl)))
 (pss_cons (ps_if (pt_cmpR op_lt (pe_ix ix_tup (pe_ix ix_list (pv 0) (pe_un un_neg pe_int) (fun _ _ => rfl)) pe_int (fun _ _ => rfl)) pe_int (nomark _))
 (pss_one (ps_ret (pe_and (pe_cmpR (op_eqD hr.units) (pe_propD (pv 1) T.c_Met D_Met_latest (hr.mono (by decide)) pass0) (pv 7) (nomark _)) (pe_one (pe_cmpR op_eq (pe_propD (pv 1) T.c_Met D_Met_amount (hr.mono (by decide)) pass0) (pe_callB call_len_seq (by rfl) T.n_len (by decide +kernel) (pa_cons (pv 0) pa_nil)) (nomark _))))))
 pss_nil)
 (pss_cons (ps_set (i := 8) sc_law_ends.nd rfl (Or.inl rfl) (pe_ifExp (pt_cmpR op_eq (pe_lenSetF (by rfl) T.n_len (by rfl) T.n_set (pe_lc (own := [("_law_pair", 3)]) (by rfl) sc_law_ends.nd (pi_list (pv 0)) (blkOk_by (own := [("_law_pair", 3)]) (N := ["_law_found", "_law_met", "_law_near", "_law_pair", "_law_nearest", "_law_soonest", "_law_top", "_law_latest", "_law_due"]) (sc := defScope s_law_ends) (by decide +kernel)) (fun _ _ _ _ _ => (pg_name (i := 3) sc_law_ends.nd rfl (Or.inl rfl))) (fun _ _ _ _ _ => pts_nil) (fun _ _ _ _ _ => (pe_ix (r := rIxT K) ix_tup (pv 3) pe_int (fun _ _ => rfl))))) pe_int (nomark _)) (pv 7) pe_non))
 (pss_one (ps_ret (pe_and (pe_cmpR op_isN (pe_propD (pv 1) T.c_Met D_Met_amount (hr.mono (by decide)) pass0) pe_non (nomark _)) (pe_one (pe_cmpR (op_eqD hr.units) (pe_propD (pv 1) T.c_Met D_Met_latest (hr.mono (by decide)) pass0) (pv 8) (nomark _))))))))))))))), ?_⟩
    generalize hF : Mt.forced (goodB p o b) p o b.first 160 = F at *
    refine ⟨_, rfl, show 0 ≤ sizeLine by decide, fun n0 hn0 => ?_⟩
    have w0 := Ex.new (o := HO.lst []) hn0
    refine ⟨.list (F.map pD), .list [], .lst (SqL.of (w0 _ _ hL)) (dp_pairs (PairsAt.mono w0 hP)), .lst (SqL.of upd_same) .nil, shp_pairs _, rfl, _, rfl, ?_⟩
    rw [eqv_nil]
    have hL := w0 _ _ hL
    have hP := PairsAt.mono w0 hP
    have M := M.mono w0
    have g := w0 _ _ g
    have k : ∀ H', Ex (upd H n0 (.lst [])) H' → Q (.bl true) H' := fun H' x => k H' (w0.trans x)
    generalize upd H n0 (.lst []) = H at hL hP M g k
    by_cases c : F = []
    · refine if_so (decide_eq_true c) ?_
      have em : Mt.isEmpty has e = true := by
        cases z : Mt.isEmpty has e with
        | true => rfl
        | false =>
          obtain ⟨qn, _, _, _, mn, _⟩ := Mt.ends_facts S hgd M.ok z
          rw [hF, c] at mn
          cases mn
      have e1 : Mt.nearest has q0 st e = none := by unfold Mt.nearest; rw [em, if_pos rfl]
      have e2 : Mt.soonest has q0 st e = none := by unfold Mt.soonest; rw [em, if_pos rfl]
      have e3 : Mt.latest has q0 st e = none := by unfold Mt.latest; rw [em, if_pos rfl]
      have e4 : Mt.distance has q0 st e = none := by unfold Mt.distance; rw [e1]; rfl
      have e5 : Mt.amount has e = some 0 := by unfold Mt.amount; rw [em, if_pos rfl]
      refine ⟨_, rfl, m, dx, _, rfl, g, near_any M fun v1 H1 x1 h1 => ?_⟩
      refine ⟨_, rfl, m, dx, _, rfl, x1 _ _ g, soon_any (M.mono x1) fun v2 H2 x2 h2 => ?_⟩
      have y2 := x1.trans x2
      refine ⟨_, rfl, m, dx, _, rfl, y2 _ _ g, late_any (M.mono y2) fun v3 H3 x3 h3 => ?_⟩
      have y3 := y2.trans x3
      refine ⟨_, rfl, m, dx, _, rfl, y3 _ _ g, m, p, o, b, has, q0, st, e, rfl, M.mono y3, fun H4 x4 => ?_⟩
      have y4 := y3.trans x4
      rw [e1] at h1; rw [e2] at h2; rw [e3] at h3; rw [e4]
      cases (show v1 = .non from h1)
      cases (show v2 = .non from h2)
      cases (show v3 = .non from h3)
      refine ⟨show 4 ≤ sizeLine by decide, fun t1 ht1 => ⟨show 4 ≤ sizeLine by decide, fun t2 ht2 => ?_⟩⟩
      have w1 := Ex.new (o := HO.tup [.non, .non, .non, .non]) ht1
      have w2 := Ex.new (o := HO.tup [.non, .non, .non, .non]) ht2
      refine ⟨.tuple [.none, .none, .none, .none], .tuple [.none, .none, .none, .none], .tup (SqT.of (w2 _ _ upd_same)) (.cons .non (.cons .non (.cons .non (.cons .non .nil)))), .tup (SqT.of upd_same) (.cons .non (.cons .non (.cons .non (.cons .non .nil)))), rfl, rfl, _, rfl, if_so rfl ?_⟩
      have y6 := (y4.trans w1).trans w2
      refine ⟨_, rfl, m, dx, _, rfl, y6 _ _ g, m, p, o, b, has, q0, st, e, rfl, M.mono y6, ?_⟩
      rw [e5]
      exact ⟨rfl, k _ y6⟩
    · refine if_no (decide_eq_false c) ?_
      have em : Mt.isEmpty has e = false := by
        cases z : Mt.isEmpty has e with
        | false => rfl
        | true =>
          obtain ⟨x, r, hx⟩ := List.exists_cons_of_ne_nil c
          exact absurd (mf.mp (by rw [hx]; exact List.mem_cons_self ..)).1 ((Mt.empty_iff M.ok).mp z x)
      obtain ⟨qn, qs, en, es, mn, nmin, ⟨r1, fr1⟩, ⟨r2, fr2⟩, hd, late, inf, fin⟩ := Mt.ends_facts S hgd M.ok em
      rw [hF] at mn nmin fr1 fr2 hd late inf
      have hz : ys.length ≤ 40000 := by omega
      have ev1 : ∀ {σ : L2.St} {j : Nat} {r : Addr} {q : Int × Int} {H1 : Hp}, σ[j]? = some (some (.ref r)) → H1 r = some (tup2 q) → Ev (tOp (rIxT K) (tVar j) (tC (.int 0))) σ H1 (.int q.1) := fun hj hr' => ev_op (ev_var hj) ev_c (rv_ixT (SqT.of hr') rfl)
      have ev2 : ∀ {σ : L2.St} {j : Nat} {r : Addr} {q : Int × Int} {H1 : Hp}, σ[j]? = some (some (.ref r)) → H1 r = some (tup2 q) → Ev (tOp (rIxT K) (tVar j) (tC (.int 1))) σ H1 (.int q.2) := fun hj hr' => ev_op (ev_var hj) ev_c (rv_ixT (SqT.of hr') rfl)
      have dI : ∀ {x y : Int}, decide (V.int x = V.int y) = decide (x = y) := by intro x y; rw [decide_eq_decide]; simp
      refine q_asg (v := .int (qn.2 - qn.1)) (ev_minI (ns := F.map fun q => q.2 - q.1) (el_pairsI _ (ev_var rfl) hL hP hz (fun _ => rfl) fun r q H1 x1 hr' => ev_op (ev2 rfl hr') (ev1 rfl hr') rv_I0) (List.mem_map.mpr ⟨qn, mn, rfl⟩) (fun y hy => by obtain ⟨r, hr', rfl⟩ := List.mem_map.mp hy; exact nmin r hr')) fun H1 x1 => ?_
      have hL := x1 _ _ hL
      have hP := PairsAt.mono x1 hP
      have M := M.mono x1
      have g := x1 _ _ g
      have k : ∀ H', Ex H1 H' → Q (.bl true) H' := fun H' x => k H' (x1.trans x)
      clear x1
      refine q_pick (fun x => decide (x.2 - x.1 = qn.2 - qn.1)) qn (ev_var rfl) hL hP hz (fun _ => rfl) (fun _ => rfl) (fun r q H2 x2 hr' => et_is (et_test (ev_op (ev_op (ev2 rfl hr') (ev1 rfl hr') rv_I0) (ev_var rfl) (rv_eq rfl))) dI) ev_c (ix_first fr1) fun y4 H2 x2 p4 => ?_
      have hL := x2 _ _ hL
      have hP := PairsAt.mono x2 hP
      have M := M.mono x2
      have g := x2 _ _ g
      have k : ∀ H', Ex H2 H' → Q (.bl true) H' := fun H' x => k H' (x2.trans x)
      clear x2
      obtain ⟨x0, rx, hx0⟩ := List.exists_cons_of_ne_nil c
      have hq2 := hd x0 rx hx0
      obtain ⟨y0, ry, hy0, p0⟩ : ∃ y0 ry, ys = y0 :: ry ∧ PairAt H2 y0 x0 := by
        rw [hx0] at hP
        cases hP with
        | cons h t => exact ⟨_, _, rfl, h⟩
      obtain ⟨a0, rfl, h0⟩ := p0
      refine q_pick (fun x => decide (x.2 = qs.2)) qs (ev_var rfl) hL hP hz (fun _ => rfl) (fun _ => rfl) (fun r q H3 x3 hr' => et_is (et_test (ev_op (ev2 rfl hr') (ev_op (ev_op (ev_var rfl) ev_c (rv_ixL (SqL.of (x3 _ _ hL)) (by rw [hy0]; exact at_zero))) ev_c (rv_ixT (SqT.of (x3 _ _ h0)) rfl)) (rv_eq rfl))) (by rw [dI, hq2])) (ev_un ev_c ru_neg) (ix_last fr2) fun y5 H3 x3 p5 => ?_
      have hL := x3 _ _ hL
      have hP := PairsAt.mono x3 hP
      have M := M.mono x3
      have g := x3 _ _ g
      have p4 := p4.mono' x3
      have k : ∀ H', Ex H3 H' → Q (.bl true) H' := fun H' x => k H' (x3.trans x)
      clear x3 h0
      refine q_skip (fun D' nx => ?_) fun H4 x4 => ?_
      · refine ⟨_, rfl, m, dx, _, rfl, g, near_any M fun v1 H1 x1 h1 => ⟨_, rfl, _, _, h1.dp, (p4.po.mono x1).dp, shp_oPD _, shp_oPD _, _, rfl, if_no ?_ ?_⟩⟩
        · rw [en, eq_refl (shp_oPD _)]; rfl
        refine ⟨_, rfl, m, dx, _, rfl, x1 _ _ g, m, p, o, b, has, q0, st, e, rfl, M.mono x1, fun H2 x2 => ⟨_, rfl, scal_o _ (some _), _, rfl, if_no ?_ ?_⟩⟩
        · unfold Mt.distance; rw [en]; exact nei_f rfl
        have y2 := x1.trans x2
        refine ⟨_, rfl, m, dx, _, rfl, y2 _ _ g, soon_any (M.mono y2) fun v3 H5 x5 h3 => ⟨_, rfl, _, _, h3.dp, (p5.po.mono (y2.trans x5)).dp, shp_oPD _, shp_oPD _, _, rfl, if_no ?_ (nx _ (y2.trans x5))⟩⟩
        rw [es, eq_refl (shp_oPD _)]; rfl
      have hL := x4 _ _ hL
      have hP := PairsAt.mono x4 hP
      have M := M.mono x4
      have g := x4 _ _ g
      have k : ∀ H', Ex H4 H' → Q (.bl true) H' := fun H' x => k H' (x4.trans x)
      clear x4
      obtain ⟨tp, tm, tmax⟩ := max_ex (ns := F.map fun q => q.1) (by rw [hx0]; simp)
      refine q_asg (v := .int tp) (ev_maxI (ns := F.map fun q => q.1) (el_pairsI _ (ev_var rfl) hL hP hz (fun _ => rfl) fun r q H1 x1 hr' => ev1 rfl hr') tm tmax) fun H5 x5 => ?_
      have hL := x5 _ _ hL
      have hP := PairsAt.mono x5 hP
      have M := M.mono x5
      have g := x5 _ _ g
      have k : ∀ H', Ex H5 H' → Q (.bl true) H' := fun H' x => k H' (x5.trans x)
      clear x5
      obtain ⟨q3, r3, f3⟩ : ∃ q3 r3, F.filter (fun x => decide (x.1 = tp)) = q3 :: r3 := by
        obtain ⟨q', hq', e'⟩ := List.mem_map.mp tm
        have : q' ∈ F.filter (fun x => decide (x.1 = tp)) := List.mem_filter.mpr ⟨hq', decide_eq_true e'⟩
        cases z : F.filter (fun x => decide (x.1 = tp)) with
        | nil => rw [z] at this; cases this
        | cons a r => exact ⟨a, r, rfl⟩
      have lt : ∀ ql, Mt.latest has q0 st e = some ql → q3 = ql := fun ql el => by
        obtain ⟨l1, l2, r, l3⟩ := late ql el
        have e1 : tp = ql.1 := Int.le_antisymm (by obtain ⟨q', hq', rfl⟩ := List.mem_map.mp tm; exact l2 q' hq') (tmax _ (List.mem_map.mpr ⟨ql, l1, rfl⟩))
        rw [e1, l3] at f3
        cases f3
        rfl
      refine q_pick (fun x => decide (x.1 = tp)) q3 (ev_var rfl) hL hP hz (fun _ => rfl) (fun _ => rfl) (fun r q H2 x2 hr' => et_is (et_test (ev_op (ev1 rfl hr') (ev_var rfl) (rv_eq rfl))) dI) ev_c (ix_first f3) fun y7 H6 x6 p7 => ?_
      have hL := x6 _ _ hL
      have hP := PairsAt.mono x6 hP
      have M := M.mono x6
      have g := x6 _ _ g
      have k : ∀ H', Ex H6 H' → Q (.bl true) H' := fun H' x => k H' (x6.trans x)
      clear x6
      obtain ⟨rz, z, hz'⟩ : ∃ r z, F = r ++ [z] := by
        rcases List.eq_nil_or_concat F with w | ⟨r, z, w⟩
        · exact absurd w c
        · exact ⟨r, z, by rw [w, List.concat_eq_append]⟩
      obtain ⟨zs', yz, hyz, pz⟩ := PairsAt.snoc_inv (by rw [hz'] at hP; exact hP)
      obtain ⟨az, rfl, hz2⟩ := pz
      refine ⟨_, rfl, _, rfl, _, _, _, _, rfl, rfl, SqL.of hL, (by rw [hyz]; exact at_last), _, _, _, _, rfl, rfl, SqT.of hz2, rfl, _, _, rfl, rfl, _, rfl, ?_⟩
      by_cases c1 : z.2 < 100
      · refine if_so (decide_eq_true c1) ?_
        obtain ⟨_, am⟩ := tf2 (.inr ⟨rz, z, hz', c1⟩)
        obtain ⟨ql, el⟩ := fin _ am
        refine ⟨_, rfl, m, dx, _, rfl, g, late_any M fun v1 H1 x1 h1 => ⟨_, rfl, _, _, h1.dp, (p7.po.mono x1).dp, shp_oPD _, shp_oPD _, _, rfl, if_so ?_ ?_⟩⟩
        · rw [el, lt ql el, eq_refl (shp_oPD _)]
        refine ⟨_, rfl, m, dx, _, rfl, x1 _ _ g, m, p, o, b, has, q0, st, e, rfl, M.mono x1, _, rfl, la, _, rfl, .inl (SqL.of (x1 _ _ hL)), scal_o _ (some _), ?_⟩
        have e1 : decide (oV (Mt.amount has e) = V.int (ys.length : Int)) = true := by rw [am, hyl]; exact eqi_t rfl
        rw [e1]
        exact k _ x1
      · refine if_no (decide_eq_false c1) ?_
        obtain ⟨_, am⟩ := tf3 ⟨rz, z, hz', c1⟩
        obtain ⟨inf1, inf2⟩ := inf am
        have hsm := found_small S hgd M.ok am
        rw [hF] at hsm
        dsimp only [tNext]
        refine q_mid (fun σ H' => ∃ v8, σ = [some (.ref la), some (.ref m), some (.int (qn.2 - qn.1)), none, some y4, some y5, some (.int tp), some y7, some v8] ∧ Ex H6 H' ∧ PO H' v8 (Mt.latest has q0 st e)) (fun nx mid => ?_) ?_
        · dsimp only [tAsg, tIf, tTest, tOp, tLenSetF]
          refine el_go (xs := (F.map fun q : Int × Int => q.1).map V.int) (el_pairsI (K := K) (fun q : Int × Int => q.1) (ev_var rfl) hL hP hz (fun _ => rfl) (fun r q H2 x2 hr' => ev1 rfl hr')) fun l7 H7 _ x7 hl7 => ?_
          refine ⟨l7, F.map fun q => q.1, rfl, SqL.of hl7, by rw [List.length_map]; omega, rfl, _, rfl, ?_⟩
          cases el : Mt.latest has q0 st e with
          | none =>
            obtain ⟨x, y, r, hxy, ne⟩ := inf1 el
            have hn : lenSet (F.map fun q => q.1) ≠ 1 := lenSet_many (x := x.1) (y := y.1) (by rw [hxy]; simp) (by rw [hxy]; simp) ne
            exact if_no (eqi_f (by omega)) (mid _ _ ⟨_, rfl, x7, by rw [el]; rfl⟩)
          | some ql =>
            have hn : lenSet (F.map fun q => q.1) = 1 := lenSet_one (x := ql.1) (by rw [hx0]; simp) (fun y hy => by obtain ⟨r, hr', rfl⟩ := List.mem_map.mp hy; exact inf2 ql el r hr')
            refine if_so (eqi_t (by omega)) ⟨_, rfl, mid _ _ ⟨_, rfl, x7, ?_⟩⟩
            rw [el, ← lt ql el]
            exact p7.po.mono x7
        · rintro σ H7 ⟨v8, rfl, x7, h8⟩
          refine ⟨_, rfl, m, dx, _, rfl, x7 _ _ g, m, p, o, b, has, q0, st, e, rfl, M.mono x7, rfl, _, rfl, ?_⟩
          rw [am]
          refine if_so rfl ⟨_, rfl, m, dx, _, rfl, x7 _ _ g, late_any (M.mono x7) fun v1 H1 x1 h1 => ⟨_, rfl, _, _, h1.dp, (h8.mono x1).dp, shp_oPD _, shp_oPD _, ?_⟩⟩
          rw [eq_refl (shp_oPD _)]
          exact k _ (x7.trans x1)
end
end My
set_option maxHeartbeats 4000000
namespace My
open PySem L2 Lf Evl StX
abbrev s_law_other : Stmt := top 33
theorem sc_law_other : FnScope ["_law_bounds_here", "_law_dice_here", "_law_low", "_law_high", "_law_first", "_law_rounds", "_law_way"] ["_law_bounds_here", "_law_dice_here"] (defScope s_law_other) := ⟨rfl, rfl, rfl, by decide +kernel, rfl, by decide +kernel, by decide +kernel⟩
theorem eqv_int (i j : Int) : PyData.eqv (.int i) (.int j) = (i == j) := by unfold PyData.eqv; rfl
theorem eqv_oID (x y : Option Int) : PyData.eqv (oID x) (oID y) = decide (x = y) := by
  cases x with
  | none => cases y with
    | none => rfl
    | some j => rfl
  | some i => cases y with
    | none => rfl
    | some j =>
      show (i == j) = decide (some i = some j)
      by_cases h : i = j
      · rw [h]; simp
      · rw [decide_eq_false (fun z => h (Option.some.inj z))]
        simpa using h
theorem eqv_pD (p q : Int × Int) : PyData.eqv (pD p) (pD q) = decide (p = q) := by
  show ((p.1 == q.1) && ((p.2 == q.2) && true)) = decide (p = q)
  rw [Bool.and_true]
  by_cases h : p = q
  · rw [h]; simp
  · rw [decide_eq_false h]
    cases h1 : p.1 == q.1 with
    | false => rfl
    | true =>
      cases h2 : p.2 == q.2 with
      | false => rfl
      | true => exact absurd (Prod.ext (eq_of_beq h1) (eq_of_beq h2)) h
theorem eqv_met (p o p' o' : Int × Int) (b b' : Mt.Bnd) : PyData.eqv (metD p o b) (metD p' o' b') = true → p = p' ∧ o = o' ∧ b = b' := by
  show (PyData.eqv (pD p) (pD p') && (PyData.eqv (pD o) (pD o') && ((b.low == b'.low) && (PyData.eqv (oID b.high) (oID b'.high) && ((b.first == b'.first) && (PyData.eqv (oID b.rounds) (oID b'.rounds) && true)))))) = true → _
  rw [eqv_pD, eqv_pD, eqv_oID, eqv_oID]
  simp only [Bool.and_eq_true, decide_eq_true_eq, beq_iff_eq]
  rintro ⟨h1, h2, h3, h4, h5, h6, _⟩
  obtain ⟨l, h, f, r⟩ := b
  obtain ⟨l', h', f', r'⟩ := b'
  dsimp only at h3 h4 h5 h6
  subst h3; subst h4; subst h5; subst h6
  exact ⟨h1, h2, rfl⟩
theorem eqv_ne {p o p' o' : Int × Int} {b b' : Mt.Bnd} (h : ¬ (p = p' ∧ o = o' ∧ b = b')) : PyData.eqv (metD p o b) (metD p' o' b') = false := by
  cases z : PyData.eqv (metD p o b) (metD p' o' b') with
  | false => rfl
  | true => exact absurd (eqv_met _ _ _ _ _ _ z) h
def spOther : Sp := fun vs H Q _ => ∃ (ba d : Addr) (b : Mt.Bnd) (xs : List V), vs = [.ref ba, .ref d] ∧ H ba = some (bndT b) ∧ LBnd b ∧ H d = some (.lst xs) ∧ DiceL xs ∧
  ∀ r H' ys b', Eb d H H' → H' d = some (.lst ys) → DiceL ys → H' r = some (bndT b') → KBnd b' → b ≠ b' → Q (.ref r) H'
section
variable {P : Program} {w : World} {K : PySem.W.Frag} {mg : Str → Option Value} {base : Heap} {CN fI CA FE : Addr}
theorem ok_law_other (T : Txt P K mg CN fI CA FE) (D : Df K mg "_law_other" s_law_other) (D_law_next : DefOk P w K mg base CX0 1 "_law_next" ["_law_dice_here", "_law_many"] spNext) : DefOk P w K mg base CX0 2 "_law_other" ["_law_bounds_here", "_law_dice_here"] spOther := by
  refine D.ok sc_law_other (fun _ _ _ _ _ _ us hl => match us, hl with | [_, _], _ => rfl) (fun vs H Q E h => ?_) (fun f cdv A outer s H vs Q E hr h => ?_)
  · obtain ⟨_, _, _, _, rfl, _⟩ := h
    rfl
  · obtain ⟨ba, d, b, xs, rfl, hb, B, hd, hx, k⟩ := h
    refine ⟨_, (pss_cons (ps_asg (pv 0) (pg_tup (by rfl) (pgs_cons (pg_name (i := 2) sc_law_other.nd rfl (Or.inl rfl)) (pgs_cons (pg_name (i := 3) sc_law_other.nd rfl (Or.inl rfl)) (pgs_cons (pg_name (i := 4) sc_law_other.nd rfl (Or.inl rfl)) (pgs_cons (pg_name (i := 5) sc_law_other.nd rfl (Or.inl rfl)) pgs_nil))))))
 (pss_cons (ps_set (i := 6) sc_law_other.nd rfl (Or.inl rfl) (pe_callD D_law_next (hr.mono (by decide)) pass0 (pa_cons (pv 1) (pa_cons pe_int pa_nil))))
 (pss_cons (ps_if (pt_cmpR op_eq (pv 6) pe_int (nomark _))
 (pss_one (ps_ret (pe_tup (pa_cons (pe_op op_add (pv 2) pe_int) (pa_cons (pv 3) (pa_cons (pv 4) (pa_cons (pv 5) pa_nil)))))))
 pss_nil)
 (pss_cons (ps_if (pt_cmpR op_eq (pv 6) pe_int (nomark _))
 (pss_one (ps_ret (pe_tup (pa_cons (pv 2) (pa_cons (pe_ifExp (pt_cmpR op_isN (pv 3) pe_non (nomark _)) pe_int pe_non) (pa_cons (pv 4) (pa_cons (pv 5) pa_nil)))))))
 pss_nil)
 (pss_cons (ps_if (pt_cmpR op_eq (pv 6) pe_int (nomark _))
 (pss_one (ps_ret (pe_tup (pa_cons (pv 2) (pa_cons (pv 3) (pa_cons (pe_op op_add (pe_op op_add (pv 4) pe_int) (pe_callD D_law_next (hr.mono (by decide)) pass0 (pa_cons (pv 1) (pa_cons pe_int pa_nil)))) (pa_cons (pv 5) pa_nil)))))))
 pss_nil)
 (pss_one (ps_ret (pe_tup (pa_cons (pv 2) (pa_cons (pv 3) (pa_cons (pv 4) (pa_cons (pe_ifExp (pt_cmpR op_isN (pv 5) pe_non (nomark _)) pe_int (pe_op op_add (pv 5) pe_int)) pa_nil)))))))))))), ?_⟩
    obtain ⟨lo, hi, fi, ro⟩ := b
    obtain ⟨l0, hh, f0, rr⟩ := B
    dsimp only at l0 hh f0 rr
    refine ⟨_, rfl, ba, _, rfl, SqT.of hb, rfl, _, _, rfl, _, _, rfl, _, _, rfl, _, _, rfl, rfl, ?_⟩
    refine ⟨_, rfl, d, _, xs, rfl, hd, hx, by decide, by decide, fun r ys r0 r1 hy => ?_⟩
    have hd1 : upd H d (.lst ys) d = some (.lst ys) := upd_same
    have eb1 : Eb d H (upd H d (.lst ys)) := Eb.upd
    generalize upd H d (.lst ys) = H1 at hd1 eb1
    have fin : ∀ (H2 : Hp) (zs : List V) (b' : Mt.Bnd), Eb d H H2 → H2 d = some (.lst zs) → DiceL zs → KBnd b' → (⟨lo, hi, fi, ro⟩ : Mt.Bnd) ≠ b' → 4 ≤ sizeLine ∧ ∀ t, H2 t = none → Q (.ref t) (upd H2 t (bndT b')) := fun H2 zs b' e2 h2 hz B' ne =>
      ⟨by decide, fun t ht => k t _ zs b' (e2.trans (Eb.of (Ex.new ht))) (Ex.new ht _ _ h2) hz upd_same B' ne⟩
    refine ⟨_, rfl, rfl, _, rfl, ite2 (fun _ => ?_) (fun _ => ?_)⟩
    · refine ⟨_, rfl, _, _, rfl, rfl, _, rfl, _, rfl, _, rfl, fin H1 ys ⟨lo + 1, hi, fi, ro⟩ eb1 hd1 hy ⟨⟨by dsimp only; omega, by dsimp only; omega⟩, fun h e => ?_, ⟨f0.1, by dsimp only; omega⟩, fun n e => ?_⟩ (fun z => ?_)⟩
      · have := hh h e; exact ⟨this.1, by omega⟩
      · have := rr n e; exact ⟨this.1, by omega⟩
      · injection z with z1; omega
    refine ⟨_, rfl, rfl, _, rfl, ite2 (fun _ => ?_) (fun _ => ?_)⟩
    · refine ⟨_, rfl, _, rfl, rfl, _, rfl, ?_⟩
      cases hi with
      | none =>
        refine if_so rfl ⟨_, rfl, _, rfl, fin H1 ys ⟨lo, some 3, fi, ro⟩ eb1 hd1 hy ⟨⟨l0.1, by dsimp only; omega⟩, fun h e => ?_, ⟨f0.1, by dsimp only; omega⟩, fun n e => ?_⟩ (fun z => ?_)⟩
        · cases e; decide
        · have := rr n e; exact ⟨this.1, by omega⟩
        · injection z with _ z1; cases z1
      | some hv =>
        refine if_no rfl ⟨_, rfl, _, rfl, fin H1 ys ⟨lo, none, fi, ro⟩ eb1 hd1 hy ⟨⟨l0.1, by dsimp only; omega⟩, fun h e => ?_, ⟨f0.1, by dsimp only; omega⟩, fun n e => ?_⟩ (fun z => ?_)⟩
        · cases e
        · have := rr n e; exact ⟨this.1, by omega⟩
        · injection z with _ z1; cases z1
    refine ⟨_, rfl, rfl, _, rfl, ite2 (fun _ => ?_) (fun _ => ?_)⟩
    · refine ⟨_, rfl, _, rfl, _, rfl, _, _, rfl, rfl, _, rfl, d, _, ys, rfl, hd1, hy, by decide, by decide, fun u zs u0 u1 hz => ⟨_, _, rfl, rfl, _, rfl, fin _ zs ⟨lo, hi, fi + 1 + u, ro⟩ (eb1.trans Eb.upd) upd_same hz ⟨⟨l0.1, by dsimp only; omega⟩, fun h e => ?_, ⟨by dsimp only; omega, by dsimp only; omega⟩, fun n e => ?_⟩ (fun z => ?_)⟩⟩
      · have := hh h e; exact ⟨this.1, by omega⟩
      · have := rr n e; exact ⟨this.1, by omega⟩
      · injection z with _ _ z1; omega
    · refine ⟨_, rfl, _, rfl, _, rfl, _, rfl, rfl, _, rfl, ?_⟩
      cases ro with
      | none =>
        refine if_so rfl (fin H1 ys ⟨lo, hi, fi, some 0⟩ eb1 hd1 hy ⟨⟨l0.1, by dsimp only; omega⟩, fun h e => ?_, ⟨f0.1, by dsimp only; omega⟩, fun n e => ?_⟩ (fun z => ?_))
        · have := hh h e; exact ⟨this.1, by omega⟩
        · cases e; decide
        · injection z with _ _ _ z1; cases z1
      | some rv =>
        have r9 := rr rv rfl
        refine if_no rfl ⟨_, rfl, _, _, rfl, rfl, fin H1 ys ⟨lo, hi, fi, some (rv + 1)⟩ eb1 hd1 hy ⟨⟨l0.1, by dsimp only; omega⟩, fun h e => ?_, ⟨f0.1, by dsimp only; omega⟩, fun n e => ?_⟩ (fun z => ?_)⟩
        · have := hh h e; exact ⟨this.1, by omega⟩
        · cases e; exact ⟨by omega, by omega⟩
        · injection z with _ _ _ z1; injection z1 with z2; omega
end
end My
set_option maxHeartbeats 4000000
namespace My
open PySem L2 Lf Evl StX
abbrev s_law_one : Stmt := top 34
theorem sc_law_one : FnScope ["_law_cell", "_law_dice_here", "_law_one_here", "_law_two", "_law_place", "_law_other_here", "_law_bounds_here", "_law_met", "_law_found", "_law_most", "_law_told", "_law_turn", "_law_pair", "_law_again", "_law_unlike"] ["_law_cell"] (defScope s_law_one) := ⟨rfl, rfl, rfl, by decide +kernel, rfl, by decide +kernel, by decide +kernel⟩
abbrev s_law : Stmt := top 35
theorem sc_law : FnScope ["_law_script", "_law_cell"] ["_law_script"] (defScope s_law) := ⟨rfl, rfl, rfl, by decide +kernel, rfl, by decide +kernel, by decide +kernel⟩
theorem cut_take (xs : List V) (n : Nat) (h : n ≤ xs.length) : cutV xs none (some (n : Int)) = xs.take n := by
  unfold cutV
  rw [HT.sIx_nat, HT.sIx_none, List.drop_zero, Nat.sub_zero, Nat.min_eq_left h]
theorem PairsAt.take {H : Hp} : ∀ {ys : List V} {qs : List (Int × Int)} (n : Nat), PairsAt H ys qs → PairsAt H (ys.take n) (qs.take n)
  | _, _, 0, _ => .nil
  | _, _, n + 1, .nil => .nil
  | _, _, n + 1, .cons h t => .cons h (PairsAt.take n t)
theorem given_bl {H : Hp} : ∀ {ys : List V} {qs : List (Int × Int)}, PairsAt H ys qs → given ys.length (fun _ => true) (fun _ => .bl true) = (qs.map fun _ => true).map V.bl
  | _, _, .nil => rfl
  | _, _, .cons h t => by
    rw [List.length_cons, given_cons, if_pos rfl, given_bl t]
    rfl
theorem el_pairsB {K : PySem.W.Frag} {σ : L2.St} {H : Hp} {te tl : TE} {vs : List Nat} {a : Addr} {ys : List V} {qs : List (Int × Int)} {j : Nat} (h : Ev tl σ H (.ref a)) (hx : H a = some (.lst ys)) (hp : PairsAt H ys qs) (hz : ys.length ≤ 40000) (hw : ∀ x, wipe ((wipe σ vs).set j (some x)) vs = wipe σ vs)
    (he : ∀ r q H1, Ex H H1 → H1 r = some (tup2 q) → Ev te ((wipe σ vs).set j (some (.ref r))) H1 (.bl true)) : EvL (tLc (iList K tl) (gName j) tYes te vs) σ H ((qs.map fun _ => true).map V.bl) := by
  rw [← given_bl hp]
  refine el_lcL (fun _ => true) _ h (SqL.of hx) hz hw (fun i x H1 x1 hi => fun H2 x2 Q q => q H2 (Ex.refl _)) (fun i x H1 x1 hi _ => ?_)
  obtain ⟨_, r, rfl, hr⟩ := pairs_at hp hi
  exact he r _ H1 x1 (x1 _ _ hr)
theorem any_eqv (F : List (Int × Int)) (q : Int × Int) : ((F.map pD).any fun z => PyData.eqv z (pD q)) = decide (q ∈ F) := by
  induction F with
  | nil => rfl
  | cons x F ih =>
    rw [List.map_cons, List.any_cons, ih, eqv_pD]
    by_cases h : x = q
    · rw [h]; simp
    · rw [decide_eq_false h, Bool.false_or]
      by_cases h2 : q ∈ F
      · rw [decide_eq_true h2, decide_eq_true (List.mem_cons_of_mem _ h2)]
      · rw [decide_eq_false h2, decide_eq_false]
        intro z
        rcases List.mem_cons.mp z with w | w
        · exact h w.symm
        · exact h2 w
theorem all_true {α : Type} (qs : List α) : (qs.map fun _ => true).all id = true := by
  rw [List.all_map]
  simp
theorem mkF {H : Hp} {pa oa x dx : Addr} {p o : Int × Int} {b : Mt.Bnd} (hp : H pa = some (tup2 p)) (ho : H oa = some (tup2 o)) (P : PlOk p o) (B : BndOk b) (hx : H x = none) (hdx : H dx = none) (ne : dx ≠ x) :
    upd H dx (.own x) x = none ∧ upd H dx (.own x) pa = some (tup2 p) ∧ upd H dx (.own x) oa = some (tup2 o) ∧ Great p.1 ∧ Great p.2 ∧ Great o.1 ∧ Great o.2 ∧ ¬ (p.1 = 0 ∧ o.1 = 0) ∧ BndOk b := by
  have e1 := Ex.new (o := HO.own x) hdx
  have g : ∀ {i : Int}, Bd 150 i → Great i := fun h => bd_great h (by decide)
  exact ⟨by rw [upd_ne ne.symm]; exact hx, e1 _ _ hp, e1 _ _ ho, g (P.s1.mono (by decide)), g P.o1, g (P.s2.mono (by decide)), g P.o2, P.nz, B⟩
theorem mkX {H H' : Hp} {x dx : Addr} (hx : H x = none) (hdx : H dx = none) (eb : Eb x (upd H dx (.own x)) H') : Ex H H' := fun a ob ha => eb a ob (ne_of_none ha hx) (Ex.new hdx _ _ ha)
def spOne : Sp := fun vs H Q _ => ∃ c : Int, vs = [.int c] ∧ ∀ H', Ex H H' → Q (.bl true) H'
def spLaw (K : PySem.W.Frag) : Sp := fun vs H Q _ => ∃ (a : Addr) (ns : List Int), vs = [.ref a] ∧ SqL K H a (ns.map V.int) ∧ ∀ H', Q (.bl true) H'
section
variable {P : Program} {w : World} {K : PySem.W.Frag} {mg : Str → Option Value} {base : Heap} {CN fI CA FE : Addr}
theorem ok_law_one (T : Txt P K mg CN fI CA FE) (T2 : Tx2 K FE) (D : Df K mg "_law_one" s_law_one) (I : InitOk P w K mg base FE) (D_law_dice : DefOk P w K mg base CX0 1 "_law_dice" ["_law_cell"] spDice) (D_law_next : DefOk P w K mg base CX0 1 "_law_next" ["_law_dice_here", "_law_many"] spNext)
    (D_law_bounds : DefOk P w K mg base CX0 2 "_law_bounds" ["_law_dice_here", "_law_most"] spBounds) (D_law_forced : DefOk P w K mg base CX0 3 "_law_forced" ["_law_place", "_law_other_here", "_law_bounds_here"] spForced) (D_law_is_pair : DefOk P w K mg base CX0 2 "_law_is_pair" ["_law_value"] spIsPair)
    (D_law_is_truth : DefOk P w K mg base CX0 1 "_law_is_truth" ["_law_value", "_law_due"] spTruth) (D_law_ends : DefOk P w K mg base CX0 7 "_law_ends" ["_law_found", "_law_met"] (spEndsL FE)) (D_law_other : DefOk P w K mg base CX0 2 "_law_other" ["_law_bounds_here", "_law_dice_here"] spOther)
    (D_law_made : DefOk P w K mg base CX0 7 "_law_made" ["_law_place", "_law_other_here", "_law_bounds_here"] (spMade FE)) (D_Met_each : GZ.MethGW P w K mg base 4 FE "each" ["self"] (spEach FE)) (D_Met_bool : MethOk P w K mg base CX0 2 FE "__bool__" ["self"] (spBool FE))
    (D_Met_contains : MethOk P w K mg base CX0 3 FE "__contains__" ["self", "value"] (spHas FE)) (D_Met_eq : MethOk P w K mg base CX0 1 FE "__eq__" ["self", "other"] (spEqM FE)) :
    DefOk P w K mg base CX0 9 "_law_one" ["_law_cell"] spOne := by
  obtain ⟨fi0, fd0, M, F0, F⟩ := I
  obtain ⟨mD, bD⟩ := bindD F0
  obtain ⟨mR, bR⟩ := bindR F0
  refine D.ok sc_law_one (fun _ _ _ _ _ _ us hl => match us, hl with | [_], _ => rfl) (fun vs H Q E h => ?_) (fun f cdv A outer s H vs Q E hr h => ?_)
  · obtain ⟨_, rfl, _⟩ := h
    rfl
  · obtain ⟨c, rfl, k⟩ := h
    refine ⟨_, (pss_cons (ps_set (i := 1) sc_law_one.nd rfl (Or.inl rfl) (pe_callD D_law_dice (hr.mono (by decide)) pass0 (pa_cons (pv 0) pa_nil)))
 (pss_cons (ps_par (by rfl) sc_law_one.nd (i := 2) (j := 3) rfl rfl (by decide) rfl rfl (pa_cons (pe_op op_sub (pe_callD D_law_next (hr.mono (by decide)) pass0 (pa_cons (pv 1) (pa_cons pe_int pa_nil))) pe_int) (pa_cons (pe_op op_sub (pe_callD D_law_next (hr.mono (by decide)) pass0 (pa_cons (pv 1) (pa_cons pe_int pa_nil))) pe_int) pa_nil)) (by rfl))
 (pss_cons (ps_set (i := 2) sc_law_one.nd rfl (Or.inl rfl) (pe_ifExp (PW.pt (pw_and (pt_cmpR op_eq (pv 2) pe_int (nomark _)) (pw_and1 (pt_cmpR op_eq (pv 3) pe_int (nomark _))))) pe_int (pv 2)))
 (pss_cons (ps_par (by rfl) sc_law_one.nd (i := 4) (j := 5) rfl rfl (by decide) rfl rfl (pa_cons (pe_tup (pa_cons (pv 2) (pa_cons (pe_op op_sub (pe_callD D_law_next (hr.mono (by decide)) pass0 (pa_cons (pv 1) (pa_cons pe_int pa_nil))) pe_int) pa_nil))) (pa_cons (pe_tup (pa_cons (pv 3) (pa_cons (pe_op op_sub (pe_callD D_law_next (hr.mono (by decide)) pass0 (pa_cons (pv 1) (pa_cons pe_int pa_nil))) pe_int) pa_nil))) pa_nil)) (by rfl))
 (pss_cons (ps_set (i := 6) sc_law_one.nd rfl (Or.inl rfl) (pe_callD D_law_bounds (hr.mono (by decide)) pass0 (pa_cons (pv 1) (pa_cons pe_int pa_nil))))
 (pss_cons (ps_set (i := 7) sc_law_one.nd rfl (Or.inl rfl) (pe_makeK (n := 2) M F (hr.mono (by decide)) (by rfl) T.g_Meetings bR passL (pa_cons (pv 4) (pa_cons (pv 5) pa_nil)) (pk_cons (pe_ix ix_tup (pv 6) pe_int (fun _ _ => rfl)) (pk_cons (pe_ix ix_tup (pv 6) pe_int (fun _ _ => rfl)) (pk_cons (pe_ix ix_tup (pv 6) pe_int (fun _ _ => rfl)) (pk_cons (pe_ix ix_tup (pv 6) pe_int (fun _ _ => rfl)) pk_nil))))))
 (pss_cons (ps_set (i := 8) sc_law_one.nd rfl (Or.inl rfl) (pe_callD D_law_forced (hr.mono (by decide)) pass0 (pa_cons (pv 4) (pa_cons (pv 5) (pa_cons (pv 6) pa_nil)))))
 (pss_cons (ps_set (i := 9) sc_law_one.nd rfl (Or.inl rfl) (pe_op op_add (pe_callB call_len_seq (by rfl) T.n_len (by decide +kernel) (pa_cons (pv 8) pa_nil)) pe_int))
 (pss_cons (GZ.ps_setLcG (i := 10) (by rfl) sc_law_one.nd rfl rfl (sw_true rfl rfl rfl (by decide +kernel)) (hr.mono (by decide)) (by rfl) T.n_zip (by rfl) T.n_range (pa_cons (pv 9) pa_nil) (GZ.pgenW_methD (pv 7) T.c_Met D_Met_each (hr.mono (by decide))) (blkOk_by (own := [("_law_turn", 11), ("_law_pair", 12)]) (N := ["_law_cell", "_law_dice_here", "_law_one_here", "_law_two", "_law_place", "_law_other_here", "_law_bounds_here", "_law_met", "_law_found", "_law_most", "_law_told", "_law_turn", "_law_pair", "_law_again", "_law_unlike"]) (sc := defScope s_law_one) (by decide +kernel)))
 (pss_cons (ps_if (PW.pt (pw_or (pt_not (pt_val (pe_callB (cr_all rfl) (by rfl) T.n_all (by decide +kernel) (pa_cons (pe_lc (own := [("_law_pair", 12)]) (by rfl) sc_law_one.nd (pi_list (pv 10)) (blkOk_by (own := [("_law_pair", 12)]) (N := ["_law_cell", "_law_dice_here", "_law_one_here", "_law_two", "_law_place", "_law_other_here", "_law_bounds_here", "_law_met", "_law_found", "_law_most", "_law_told", "_law_turn", "_law_pair", "_law_again", "_law_unlike"]) (sc := defScope s_law_one) (by decide +kernel)) (fun _ _ _ _ _ => (pg_name (i := 12) sc_law_one.nd rfl (Or.inl rfl))) (fun _ _ _ _ _ => pts_nil) (fun _ _ _ _ _ => (pe_callD D_law_is_pair (hr.mono (by decide)) pass0 (pa_cons (pv 12) pa_nil)))) pa_nil)))) (pw_or1 (pt_cmpR (op_neD hr.units) (pe_slice sl_list (pv 10) po_none (po_some (pe_callB call_len_seq (by rfl) T.n_len (by decide +kernel) (pa_cons (pv 8) pa_nil)))) (pv 8) (nomark _)))))
 (pss_one (ps_ret pe_bl))
 pss_nil)
 (pss_cons (ps_if (PW.pt (pw_or (pt_cmpR (op_eqD hr.units) (pv 8) (pe_lst pa_nil) (nomark _)) (pw_or1 (pt_cmpR op_lt (pe_ix ix_tup (pe_ix ix_list (pv 8) (pe_un un_neg pe_int) (fun _ _ => rfl)) pe_int (fun _ _ => rfl)) pe_int (nomark _)))))
 (pss_one (ps_if (pt_cmpR op_ne (pe_callB call_len_seq (by rfl) T.n_len (by decide +kernel) (pa_cons (pv 10) pa_nil)) (pe_callB call_len_seq (by rfl) T.n_len (by decide +kernel) (pa_cons (pv 8) pa_nil)) (nomark _))
 (pss_one (ps_ret pe_bl))
 pss_nil))
 (pss_one (ps_if (PW.pt (pw_or (pt_cmpR op_ne (pe_callB call_len_seq (by rfl) T.n_len (by decide +kernel) (pa_cons (pv 10) pa_nil)) (pe_op op_add (pe_callB call_len_seq (by rfl) T.n_len (by decide +kernel) (pa_cons (pv 8) pa_nil)) pe_int) (nomark _)) (pw_or1 (pt_cmpR op_lt (pe_ix ix_tup (pe_ix ix_list (pv 10) (pe_callB call_len_seq (by rfl) T.n_len (by decide +kernel) (pa_cons (pv 8) pa_nil)) (fun _ _ => rfl)) pe_int (fun _ _ => rfl)) pe_int (nomark _)))))
 (pss_one (ps_ret pe_bl))
 pss_nil)))
 (pss_cons (ps_if (PW.pt (pw_or (pt_not (pt_val (pe_callD D_law_is_truth (hr.mono (by decide)) pass0 (pa_cons (pe_callTy (call_boolOwn D_Met_bool (hr.mono (by decide)) pass0) (by rfl) T.n_bool (by decide +kernel) (pa_cons (pv 7) pa_nil)) (pa_cons (pe_cmpR (op_neD hr.units) (pv 8) (pe_lst pa_nil) (nomark _)) pa_nil))))) (pw_or1 (pt_not (pt_val (pe_callD D_law_ends (hr.mono (by decide)) pass0 (pa_cons (pv 8) (pa_cons (pv 7) pa_nil))))))))
 (pss_one (ps_ret pe_bl))
 pss_nil)
 (pss_cons (ps_for PassesOwn.never rfl (pi_range1 (by rfl) T.n_range (pa_cons pe_int pa_nil)) (pg_name (i := 11) sc_law_one.nd rfl (Or.inl rfl))
 (pss_cons (ps_set (i := 12) sc_law_one.nd rfl (Or.inl rfl) (pe_tup (pa_cons (pe_op op_sub (pe_callD D_law_next (hr.mono (by decide)) pass0 (pa_cons (pv 1) (pa_cons pe_int pa_nil))) pe_int) (pa_cons (pe_op op_sub (pe_callD D_law_next (hr.mono (by decide)) pass0 (pa_cons (pv 1) (pa_cons pe_int pa_nil))) pe_int) pa_nil))))
 (pss_one (ps_if (pt_not (pt_val (pe_callD D_law_is_truth (hr.mono (by decide)) pass0 (pa_cons (pe_cmpR (op_inOwn D_Met_contains (hr.mono (by decide)) pass0) (pv 12) (pv 7) (by rfl)) (pa_cons (pe_cmpR (op_inD (hu65 hr)) (pv 12) (pv 8) (by rfl)) pa_nil)))))
 (pss_one (ps_ret pe_bl))
 pss_nil))))
 (pss_cons (ps_if (PW.pt (pw_or (pt_cmpR (op_inOwn D_Met_contains (hr.mono (by decide)) pass0) (pe_lst (pa_cons pe_int (pa_cons pe_int pa_nil))) (pv 7) (by rfl)) (pw_or (pt_cmpR (op_inOwn D_Met_contains (hr.mono (by decide)) pass0) (pe_tup (pa_cons pe_bl (pa_cons pe_int pa_nil))) (pv 7) (by rfl)) (pw_or (pt_cmpR (op_inOwn D_Met_contains (hr.mono (by decide)) pass0) (pe_tup (pa_cons pe_int pa_nil)) (pv 7) (by rfl)) (pw_or (pt_cmpR (op_inOwn D_Met_contains (hr.mono (by decide)) pass0) pe_non (pv 7) (by rfl)) (pw_or1 (pt_cmpR (op_inOwn D_Met_contains (hr.mono (by decide)) pass0) pe_str (pv 7) (by rfl))))))))
 (pss_one (ps_ret pe_bl))
 pss_nil)
 (pss_cons (ps_set (i := 13) sc_law_one.nd rfl (Or.inl rfl) (pe_makeK (n := 2) M F (hr.mono (by decide)) (by rfl) T.g_Meetings bD passL (pa_cons (pv 4) (pa_cons (pv 5) pa_nil)) (pk_cons (pe_ix ix_tup (pv 6) pe_int (fun _ _ => rfl)) (pk_cons (pe_ix ix_tup (pv 6) pe_int (fun _ _ => rfl)) (pk_cons (pe_ix ix_tup (pv 6) pe_int (fun _ _ => rfl)) (pk_cons (pe_ix ix_tup (pv 6) pe_int (fun _ _ => rfl)) pk_nil))))))
 (pss_cons (ps_set (i := 14) sc_law_one.nd rfl (Or.inl rfl) (pe_callD D_law_other (hr.mono (by decide)) pass0 (pa_cons (pv 6) (pa_cons (pv 1) pa_nil))))
 (pss_cons (ps_if (PW.pt (pw_or (pt_cmpR (op_neOwnA D_Met_eq (hr.mono (by decide)) pass0 T2.hm T2.ne) (pv 7) (pv 13) (nomark _)) (pw_or (pt_not (pt_cmpR (op_eqOwnA D_Met_eq (hr.mono (by decide)) pass0) (pv 7) (pv 13) (nomark _))) (pw_or (pt_cmpR (op_eqOwnA D_Met_eq (hr.mono (by decide)) pass0) (pv 7) (pe_tup (pa_cons (pv 4) (pa_cons (pv 5) pa_nil))) (nomark _)) (pw_or1 (pt_cmpR (op_eqOwnA D_Met_eq (hr.mono (by decide)) pass0) (pv 7) (pe_callD D_law_made (hr.mono (by decide)) pass0 (pa_cons (pv 4) (pa_cons (pv 5) (pa_cons (pv 14) pa_nil)))) (nomark _)))))))
 (pss_one (ps_ret pe_bl))
 pss_nil)
 (pss_one (ps_ret (pe_cmpR (op_neOwnA D_Met_eq (hr.mono (by decide)) pass0 T2.hm T2.ne) (pv 7) (pe_callD D_law_made (hr.mono (by decide)) pass0 (pa_cons (pe_tup (pa_cons (pe_ix ix_tup (pv 4) pe_int (fun _ _ => rfl)) (pa_cons (pe_op op_add (pe_ix ix_tup (pv 4) pe_int (fun _ _ => rfl)) pe_int) pa_nil))) (pa_cons (pv 5) (pa_cons (pv 6) pa_nil)))) (nomark _))))))))))))))))))))), ?_⟩
    refine ⟨_, rfl, c, rfl, fun d xs hd hx => ?_⟩
    refine ⟨_, rfl, d, _, xs, rfl, upd_same, hx, by decide, by decide, fun x zs x0 x1 hz => ⟨_, _, rfl, rfl, ?_⟩⟩
    refine ⟨_, rfl, d, _, zs, rfl, upd_same, hz, by decide, by decide, fun y ws y0 y1 hw => ⟨_, _, rfl, rfl, _, _, rfl, ?_⟩⟩
    have eb0 : Eb d (upd H d (.lst xs)) (upd (upd (upd H d (.lst xs)) d (.lst zs)) d (.lst ws)) := Eb.upd.trans Eb.upd
    have hd0 : upd (upd (upd H d (.lst xs)) d (.lst zs)) d (.lst ws) d = some (.lst ws) := upd_same
    generalize upd (upd (upd H d (.lst xs)) d (.lst zs)) d (.lst ws) = H0 at eb0 hd0 ⊢
    obtain ⟨u, hu, u0, u1, nz⟩ : ∃ u : Int, u = (if x - 5 = 0 ∧ y - 5 = 0 then 3 else x - 5) ∧ -6 < u ∧ u < 6 ∧ ¬ (u = 0 ∧ y - 5 = 0) := by
      refine ⟨_, rfl, ?_, ?_, ?_⟩
      · split <;> omega
      · split <;> omega
      · split <;> omega
    dsimp only
    refine q_asg (v := V.int u) ?_ fun H1 w0 => ?_
    · refine fun H1 w0 Q' q' => ⟨_, rfl, rfl, _, rfl, ?_⟩
      by_cases c1 : x - 5 = 0
      · refine if_so (eqi_t c1) ⟨_, rfl, rfl, _, rfl, ?_⟩
        by_cases c2 : y - 5 = 0
        · rw [if_pos ⟨c1, c2⟩] at hu
          rw [hu] at q'
          exact if_so (eqi_t c2) (q' H1 (Ex.refl _))
        · rw [if_neg (fun z => c2 z.2)] at hu
          rw [hu] at q'
          exact if_no (eqi_f c2) ⟨_, rfl, q' H1 (Ex.refl _)⟩
      · rw [if_neg (fun z => c1 z.1)] at hu
        rw [hu] at q'
        exact if_no (eqi_f c1) (if_no rfl ⟨_, rfl, q' H1 (Ex.refl _)⟩)
    have eb1 := eb0.trans (Eb.of w0)
    have hd1 := w0 _ _ hd0
    refine ⟨_, rfl, _, rfl, d, _, ws, rfl, hd1, hw, by decide, by decide, fun a as a0 a1 ha => ⟨_, _, rfl, rfl, show 2 ≤ sizeLine by decide, fun pa hpa => ?_⟩⟩
    have w1 := Ex.new (o := tup2 (u, a - 12)) hpa
    have e1 : Eb d H1 (upd (upd H1 d (.lst as)) pa (tup2 (u, a - 12))) := Eb.upd.trans (Eb.of w1)
    have eb2 := eb1.trans e1
    have hd2 := w1 _ _ (upd_same (H := H1) (a := d) (o := .lst as))
    have hp2 := upd_same (H := upd H1 d (.lst as)) (a := pa) (o := tup2 (u, a - 12))
    generalize upd (upd H1 d (.lst as)) pa (tup2 (u, a - 12)) = H2 at eb2 hd2 hp2 ⊢
    refine ⟨_, rfl, _, rfl, d, _, as, rfl, hd2, ha, by decide, by decide, fun v cs v0 v1 hc => ⟨_, _, rfl, rfl, show 2 ≤ sizeLine by decide, fun oa hoa => ⟨_, _, rfl, ?_⟩⟩⟩
    have w2 := Ex.new (o := tup2 (y - 5, v - 12)) hoa
    have e2 : Eb d H2 (upd (upd H2 d (.lst cs)) oa (tup2 (y - 5, v - 12))) := Eb.upd.trans (Eb.of w2)
    have hp3 := e2.tup hd2 hp2
    have eb3 := eb2.trans e2
    have hd3 := w2 _ _ (upd_same (H := H2) (a := d) (o := .lst cs))
    have ho3 := upd_same (H := upd H2 d (.lst cs)) (a := oa) (o := tup2 (y - 5, v - 12))
    generalize upd (upd H2 d (.lst cs)) oa (tup2 (y - 5, v - 12)) = H3 at hp3 eb3 hd3 ho3 ⊢
    refine ⟨_, rfl, d, cs, rfl, hd3, hc, fun ba H4 es b eb4 hd4 he hb B => ?_⟩
    have hp := eb4.tup hd3 hp3
    have ho := eb4.tup hd3 ho3
    have x4 : Ex H H4 := ex_eb hd (eb3.trans eb4)
    have PL : PlD (u, a - 12) (y - 5, v - 12) := ⟨bd_small (by omega) (by omega), (bd_small (by omega) (by omega)).mono (by decide), bd_small (by omega) (by omega), (bd_small (by omega) (by omega)).mono (by decide), nz⟩
    have S : Mt.Small (u, a - 12) (y - 5, v - 12) b := by
      obtain ⟨⟨l0, l1⟩, h1, ⟨f0, f1⟩, r1⟩ := B
      exact ⟨by dsimp only; omega, by dsimp only; omega, by dsimp only; omega, by dsimp only; omega, ⟨l0, by omega⟩, ⟨f0, by omega⟩, fun h e => by have := h1 h e; omega, fun n e => by have := r1 n e; omega⟩
    have d1 : (u, a - 12).2 + 1 ≠ (u, a - 12).2 := by dsimp only; omega
    generalize (u, a - 12) = p at *
    generalize (y - 5, v - 12) = o at *
    clear eb0 hd0 eb1 hd1 eb2 hd2 hp2 eb3 hd3 ho3 hp3 e1 e2 w0 w1 w2 eb4 hu u0 u1 nz v0 v1 a0 a1 x0 x1 y0 y1
    -- the meetings
    refine ⟨_, rfl, _, rfl, _, rfl, _, _, _, _, rfl, rfl, SqT.of hb, rfl, _, rfl, _, _, _, _, rfl, rfl, SqT.of hb, rfl, _, rfl, _, _, _, _, rfl, rfl, SqT.of hb, rfl, _, rfl, _, _, _, _, rfl, rfl, SqT.of hb, rfl, rfl, rfl, fun m dX a1 a2 a3 => ?_⟩
    obtain ⟨k1, k2, k3, k4, k5, k6, k7, k8, k9⟩ := mkF (b := b) hp ho PL.ok B.kb.ok a1 a2 a3
    refine ⟨m, dX, pa, oa, _, _, b, _, rfl, rfl, k1, k2, k3, k4, k5, k6, k7, k8, k9, fun H5 has q0 st e eb5 M0 => ⟨rfl, ?_⟩⟩
    have x5 := mkX a1 a2 eb5
    clear k1 k2 k3 k4 k5 k6 k7 k8 k9 eb5
    have hp := x5 _ _ hp
    have ho := x5 _ _ ho
    have hb := x5 _ _ hb
    have hd5 := x5 _ _ hd4
    have x := x4.trans x5
    clear a1 a2 a3 x4 x5
    refine ⟨_, rfl, _, rfl, _, rfl, pa, oa, ba, p, o, b, rfl, hp, ho, hb, PL, S.fi.1, S.fi.2, fun l ys H6 hl x6 hL hP => ?_⟩
    have hp := x6 _ _ hp
    have ho := x6 _ _ ho
    have hb := x6 _ _ hb
    have hd6 := x6 _ _ hd5
    have M0 := M0.mono x6
    have x := x.trans x6
    have nl : l ≠ d := fun z => by rw [z, hd5] at hl; cases hl
    clear x6 hd5 hl
    have hgd : ∀ q, goodB p o b q = true ↔ Mt.good p o b q := fun q => goodB_iff
    obtain ⟨tf1, tf2, tf3⟩ := Mt.told_facts S hgd M0.ok
    have mf := fun {r : Int × Int} => Mt.mem_forced (n := 160) hgd S.lo.1 S.fi.1 (q := r)
    have hlen := forced_len (g := goodB p o b) (p := p) (o := o) S.fi.1 160 (Nat.le_refl _)
    have emf : Mt.isEmpty has e = decide (Mt.forced (goodB p o b) p o b.first 160 = []) := by
      cases z : Mt.isEmpty has e with
      | true =>
        refine (decide_eq_true ?_).symm
        cases y : Mt.forced (goodB p o b) p o b.first 160 with
        | nil => rfl
        | cons q r => exact absurd (mf.mp (by rw [y]; exact List.mem_cons_self ..)).1 ((Mt.empty_iff M0.ok).mp z q)
      | false =>
        refine (decide_eq_false fun y => ?_).symm
        obtain ⟨qn, _, _, _, mn, _⟩ := Mt.ends_facts S hgd M0.ok z
        rw [y] at mn
        cases mn
    have hyl := PairsAt.len hP
    generalize hF : Mt.forced (goodB p o b) p o b.first 160 = F at *
    refine ⟨_, rfl, l, ys, rfl, .inl (SqL.of hL), _, _, rfl, rfl, ?_⟩
    dsimp only
    refine q_firsts (n := ys.length + 2) M0 (fun R h => ⟨_, rfl, h⟩) rfl (by omega) (by omega) fun L ts H7 hL7 x7 hT hPT => ?_
    rw [hyl] at hPT
    have hp := x7 _ _ hp
    have ho := x7 _ _ ho
    have hb := x7 _ _ hb
    have hd7 := x7 _ _ hd6
    have M0 := M0.mono x7
    have hL := x7 _ _ hL
    have hP0 := hP
    have hP := PairsAt.mono x7 hP
    have x := x.trans x7
    clear x7 hd6 hL7 hP0
    have htl := PairsAt.len hPT
    have hfl := firsts_len has q0 st e (F.length + 2)
    -- the first ones
    refine q_skip (fun D' nx => ?_) fun H8 x8 => ?_
    · dsimp only [tIfS, tOr, tNot, tB]
      refine ev_all (K := K) (el_pairsB (ev_var rfl) hT hPT (by omega) (fun _ => rfl) (fun r q H1 x1 hr' => fun H2 x2 Q' q' => ⟨_, rfl, r, q, rfl, x2 _ _ hr', q' H2 (Ex.refl _)⟩)) H7 (Ex.refl _) _ fun H8 x8 => ⟨_, rfl, if_no ?_ ?_⟩
      · rw [all_true]; rfl
      refine ⟨_, rfl, _, rfl, l, ys, rfl, .inl (SqL.of (x8 _ _ hL)), _, rfl, L, _, rfl, SqL.of (x8 _ _ hT), fun s1 hs1 => ?_⟩
      have ct : cutV ts none (some (ys.length : Int)) = ts.take ys.length := cut_take _ _ (by
        have := congrArg List.length tf1
        rw [List.length_take] at this
        omega)
      rw [ct]
      have w1 := Ex.new (o := HO.lst (ts.take ys.length)) hs1
      have y8 := x8.trans w1
      refine ⟨_, rfl, .list (F.map pD), .list (F.map pD), .lst (SqL.of upd_same) (dp_pairs ?_), .lst (SqL.of (y8 _ _ hL)) (dp_pairs (PairsAt.mono y8 hP)), shp_pairs _, shp_pairs _, _, rfl, if_no ?_ (nx _ y8)⟩
      · have := PairsAt.take F.length (PairsAt.mono y8 hPT)
        rw [tf1, ← hyl] at this
        exact this
      · rw [eq_refl (shp_pairs _)]; rfl
    have hp := x8 _ _ hp
    have ho := x8 _ _ ho
    have hb := x8 _ _ hb
    have hd8 := x8 _ _ hd7
    have M0 := M0.mono x8
    have hL := x8 _ _ hL
    have hP := PairsAt.mono x8 hP
    have hT := x8 _ _ hT
    have hPT := PairsAt.mono x8 hPT
    have x := x.trans x8
    clear x8 hd7
    refine q_skip (fun D' nx => ?_) fun H9 x9 => ?_
    · refine ⟨_, rfl, show 0 ≤ sizeLine by decide, fun n0 hn0 => ?_⟩
      have w0 := Ex.new (o := HO.lst []) hn0
      refine ⟨.list (F.map pD), .list [], .lst (SqL.of (w0 _ _ hL)) (dp_pairs (PairsAt.mono w0 hP)), .lst (SqL.of upd_same) .nil, shp_pairs _, rfl, _, rfl, ?_⟩
      rw [eqv_nil]
      have lt : ∀ H', Ex (upd H8 n0 (.lst [])) H' → ts.length = ys.length → tIfS (tTest (tOp rNe (tCB (fun xs H Q => ∃ p ys, xs = [V.ref p] ∧ (SqL K H p ys ∨ SqT K H p ys) ∧ Q (.int ys.length) H) (tCons (tVar 10) tNil)) (tCB (fun xs H Q => ∃ p ys, xs = [V.ref p] ∧ (SqL K H p ys ∨ SqT K H p ys) ∧ Q (.int ys.length) H) (tCons (tVar 8) tNil)))) (tRet (tC (.bl false))) tNext D' [some (.int c), some (.ref d), some (.int u), some (.int (y - 5)), some (.ref pa), some (.ref oa), some (.ref ba), some (.ref m), some (.ref l), some (.int ((ys.length : Int) + 2)), some (.ref L), none, none, none, none] H' := fun H' x' e => by
        have x2 := w0.trans x'
        exact ⟨_, rfl, L, ts, rfl, .inl (SqL.of (x2 _ _ hT)), _, rfl, l, ys, rfl, .inl (SqL.of (x2 _ _ hL)), rfl, _, rfl, if_no (nei_f (by rw [e])) (nx _ x2)⟩
      by_cases c0 : F = []
      · refine if_so (decide_eq_true c0) (if_so rfl ?_)
        refine lt _ (Ex.refl _) ?_
        rw [htl, hyl]
        exact (tf2 (.inl c0)).1
      · refine if_no (decide_eq_false c0) ?_
        obtain ⟨rz, z, hz'⟩ : ∃ r z, F = r ++ [z] := by
          rcases List.eq_nil_or_concat F with w | ⟨r, z, w⟩
          · exact absurd w c0
          · exact ⟨r, z, by rw [w, List.concat_eq_append]⟩
        obtain ⟨zs', yz, hyz, pz⟩ := PairsAt.snoc_inv (by rw [hz'] at hP; exact hP)
        obtain ⟨az, rfl, hz2⟩ := pz
        refine ⟨_, rfl, _, rfl, _, _, _, _, rfl, rfl, SqL.of (w0 _ _ hL), (by rw [hyz]; exact at_last), _, _, _, _, rfl, rfl, SqT.of (w0 _ _ hz2), rfl, _, _, rfl, rfl, _, rfl, ?_⟩
        by_cases c1 : z.2 < 100
        · rw [decide_eq_true c1]
          refine if_so rfl (lt _ (Ex.refl _) ?_)
          rw [htl, hyl]
          exact (tf2 (.inr ⟨rz, z, hz', c1⟩)).1
        · rw [decide_eq_false c1]
          refine if_no rfl ?_
          obtain ⟨⟨q1, q2, e12, g12⟩, _⟩ := tf3 ⟨rz, z, hz', c1⟩
          have tl : ts.length = ys.length + 2 := by rw [htl, hyl, e12, List.length_append]; rfl
          refine ⟨_, rfl, L, ts, rfl, .inl (SqL.of (w0 _ _ hT)), _, rfl, l, ys, rfl, .inl (SqL.of (w0 _ _ hL)), _, _, rfl, rfl, rfl, _, rfl, if_no (nei_f (by rw [tl]; omega)) ?_⟩
          obtain ⟨yt, ht1⟩ : ∃ yt, ts[ys.length]? = some yt := ⟨_, List.getElem?_eq_getElem (by omega)⟩
          obtain ⟨ht2, at_, rfl, ht3⟩ := pairs_at hPT ht1
          have eq1 : (Mt.firsts has q0 st e (F.length + 2)).getD ys.length (0, 0) = q1 := by
            rw [e12, hyl, List.getD_eq_getElem?_getD, List.getElem?_append_right (Nat.le_refl _)]
            simp
          rw [eq1] at ht3
          have ha : atI ts (ys.length : Int) = some (.ref at_) := by
            unfold atI ixN
            rw [if_pos (by omega), if_pos (by omega)]
            simpa using ht1
          refine ⟨_, rfl, _, rfl, l, ys, rfl, .inl (SqL.of (w0 _ _ hL)), _, _, _, _, rfl, rfl, SqL.of (w0 _ _ hT), ha, _, _, _, _, rfl, rfl, SqT.of (w0 _ _ ht3), rfl, _, _, rfl, rfl, _, rfl, if_no (decide_eq_false (by omega)) (nx _ w0)⟩
    have hp := x9 _ _ hp
    have ho := x9 _ _ ho
    have hb := x9 _ _ hb
    have hd9 := x9 _ _ hd8
    have M0 := M0.mono x9
    have hL := x9 _ _ hL
    have hP := PairsAt.mono x9 hP
    have x := x.trans x9
    clear x9 hd8 hT hPT
    obtain ⟨dx, pm, om, lm, em, g⟩ := M0.ins
    refine q_skip (fun D' nx => ?_) fun H10 x10 => ?_
    · refine ⟨_, rfl, m, dx, _, rfl, g, m, p, o, b, has, q0, st, e, rfl, M0, _, rfl, ?_⟩
      refine ⟨_, rfl, show 0 ≤ sizeLine by decide, fun n0 hn0 => ?_⟩
      have w0 := Ex.new (o := HO.lst []) hn0
      refine ⟨.list (F.map pD), .list [], .lst (SqL.of (w0 _ _ hL)) (dp_pairs (PairsAt.mono w0 hP)), .lst (SqL.of upd_same) .nil, shp_pairs _, rfl, _, _, rfl, _, rfl, if_no ?_ ?_⟩
      · rw [eqv_nil, emf]
        simp
      refine ⟨_, rfl, _, rfl, l, m, ys, p, o, b, has, q0, st, e, rfl, w0 _ _ hL, (by rw [hF]; exact PairsAt.mono w0 hP), M0.mono w0, S, fun H' x' => ⟨_, rfl, if_no rfl (nx _ (w0.trans x'))⟩⟩
    have hp := x10 _ _ hp
    have ho := x10 _ _ ho
    have hb := x10 _ _ hb
    have hd10 := x10 _ _ hd9
    have M0 := M0.mono x10
    have g := x10 _ _ g
    have hL := x10 _ _ hL
    have hP := PairsAt.mono x10 hP
    have x := x.trans x10
    clear x10 hd9
    -- pairs in them
    refine q_forR1 (n := 12) (fun H1 x1 Q' q' => q' H1 (Ex.refl _)) ⟨by decide, by decide⟩ (fun i σ H' => ∃ v11 v12 ds, σ = [some (.int c), some (.ref d), some (.int u), some (.int (y - 5)), some (.ref pa), some (.ref oa), some (.ref ba), some (.ref m), some (.ref l), some (.int ((ys.length : Int) + 2)), some (.ref L), v11, v12, none, none] ∧ Eb d H10 H' ∧ H' d = some (.lst ds) ∧ DiceL ds)
      (fun H1 x1 => ⟨none, none, es, rfl, Eb.of x1, x1 _ _ hd10, he⟩) ?_ ?_
    · rintro i σ H11 hi ⟨v11, v12, ds, rfl, eb, hd11, hds⟩
      refine ⟨_, rfl, d, _, ds, rfl, hd11, hds, by decide, by decide, fun r1 d1 r10 r11 hd1 => ⟨_, _, rfl, rfl, ?_⟩⟩
      refine ⟨_, rfl, d, _, d1, rfl, upd_same, hd1, by decide, by decide, fun r2 d2 r20 r21 hd2 => ⟨_, _, rfl, rfl, show 2 ≤ sizeLine by decide, fun t ht => ?_⟩⟩
      have eb2 : Eb d H10 (upd (upd H11 d (.lst d1)) d (.lst d2)) := (eb.trans Eb.upd).trans Eb.upd
      have hd2' : upd (upd H11 d (.lst d1)) d (.lst d2) d = some (.lst d2) := upd_same
      generalize upd (upd H11 d (.lst d1)) d (.lst d2) = H12 at eb2 hd2' ht ⊢
      have w1 := Ex.new (o := tup2 (r1 - 2, r2 - 1)) ht
      have bq : Bd2 9 (r1 - 2, r2 - 1) := ⟨by show Bd 9 (r1 - 2); unfold Bd; omega, by show Bd 9 (r2 - 1); unfold Bd; omega⟩
      have ht1 : upd H12 t (tup2 (r1 - 2, r2 - 1)) t = some (tup2 (r1 - 2, r2 - 1)) := upd_same
      have eb3 := eb2.trans (Eb.of w1)
      have hd3 := w1 _ _ hd2'
      have M3 := M0.eb eb3 hd10
      obtain ⟨dx3, pm3, om3, lm3, em3, g3⟩ := M3.ins
      have hL3 := eb3 _ _ nl hL
      have hP3 := PairsAt.eb eb3 hd10 hP
      refine ⟨_, rfl, _, rfl, m, dx3, _, rfl, g3, .inl ⟨m, p, o, b, has, q0, st, e, t, (r1 - 2, r2 - 1), rfl, M3, ht1, bq.mono (by decide), fun H14 x14 => ⟨_, rfl, ?_⟩⟩⟩
      refine ⟨_, rfl, _, rfl, pD (r1 - 2, r2 - 1), F.map pD, dp_pair (x14 _ _ ht1), .lst (SqL.of (x14 _ _ hL3)) (dp_pairs (PairsAt.mono x14 hP3)), shp_p _, shp_pairs _, _, _, rfl, _, rfl, if_no ?_ ⟨_, _, d2, rfl, eb3.trans (Eb.of x14), x14 _ _ hd3, hd2⟩⟩
      have e1 : goodB p o b (r1 - 2, r2 - 1) = decide ((r1 - 2, r2 - 1) ∈ F) := goodB_d ⟨fun z => mf.mpr ⟨z, by show r2 - 1 < 160; omega⟩, fun z => (mf.mp z).1⟩
      rw [any_eqv, e1]
      simp
    rintro σ H11 ⟨v11, v12, ds, rfl, eb, hd11, hds⟩
    have M0 := M0.eb eb hd10
    obtain ⟨dx, pm, om, lm, em, g⟩ := M0.ins
    have hp := eb.tup hd10 hp
    have ho := eb.tup hd10 ho
    have hb := eb.tup hd10 hb
    have x11 : Eb d H10 H11 := eb
    -- values that are no pairs
    refine q_skip (fun D' nx => ?_) fun H12 x12 => ?_
    · refine ⟨show 2 ≤ sizeLine by decide, fun t1 ht1 => ⟨_, rfl, m, dx, _, rfl, Ex.new ht1 _ _ g, .inr ⟨m, _, rfl, .kind (.lst upd_same) rfl, _, rfl, _, rfl, if_no rfl ?_⟩⟩⟩
      have w1 := Ex.new (o := HO.lst [.int 1, .int 1]) ht1
      refine ⟨show 2 ≤ sizeLine by decide, fun t2 ht2 => ⟨_, rfl, m, dx, _, rfl, Ex.new ht2 _ _ (w1 _ _ g), .inr ⟨m, _, rfl, .num upd_same (.bl true) rfl, _, rfl, _, rfl, if_no rfl ?_⟩⟩⟩
      have w2 := w1.trans (Ex.new (o := HO.tup [.bl true, .int 1]) ht2)
      refine ⟨show 1 ≤ sizeLine by decide, fun t3 ht3 => ⟨_, rfl, m, dx, _, rfl, Ex.new ht3 _ _ (w2 _ _ g), .inr ⟨m, _, rfl, .len upd_same (by simp), _, rfl, _, rfl, if_no rfl ?_⟩⟩⟩
      have w3 := w2.trans (Ex.new (o := HO.tup [.int 1]) ht3)
      refine ⟨_, rfl, m, dx, _, rfl, w3 _ _ g, .inr ⟨m, _, rfl, .kind .non rfl, _, rfl, _, rfl, if_no rfl ?_⟩⟩
      exact ⟨_, rfl, m, dx, _, rfl, w3 _ _ g, .inr ⟨m, _, rfl, .kind (.str _) rfl, _, rfl, _, rfl, if_no rfl (nx _ w3)⟩⟩
    have hp := x12 _ _ hp
    have ho := x12 _ _ ho
    have hb := x12 _ _ hb
    have hd12 := x12 _ _ hd11
    have M0 := M0.mono x12
    -- the same again
    refine ⟨_, rfl, _, rfl, _, rfl, _, _, _, _, rfl, rfl, SqT.of hb, rfl, _, rfl, _, _, _, _, rfl, rfl, SqT.of hb, rfl, _, rfl, _, _, _, _, rfl, rfl, SqT.of hb, rfl, _, rfl, _, _, _, _, rfl, rfl, SqT.of hb, rfl, rfl, rfl, fun m2 dX a1 a2 a3 => ?_⟩
    obtain ⟨k1, k2, k3, k4, k5, k6, k7, k8, k9⟩ := mkF (b := b) hp ho PL.ok B.kb.ok a1 a2 a3
    refine ⟨m2, dX, pa, oa, _, _, b, _, rfl, rfl, k1, k2, k3, k4, k5, k6, k7, k8, k9, fun H13 has' q0' st' e' eb13 M2 => ⟨rfl, ?_⟩⟩
    have x13 := mkX a1 a2 eb13
    clear k1 k2 k3 k4 k5 k6 k7 k8 k9 eb13
    have hp := x13 _ _ hp
    have ho := x13 _ _ ho
    have hb := x13 _ _ hb
    have hd13 := x13 _ _ hd12
    have M0 := M0.mono x13
    -- other bounds
    refine ⟨_, rfl, _, rfl, ba, d, b, ds, rfl, hb, B, hd13, hds, fun bu H14 d4 b' eb14 hd14 hds4 hbu B' ne => ?_⟩
    have hp := eb14.tup hd13 hp
    have ho := eb14.tup hd13 ho
    have hb := eb14.tup hd13 hb
    have M0 := M0.eb eb14 hd13
    have M2 := M2.eb eb14 hd13
    have x14 : Ex H H14 := fun a' o' ha => eb14 _ _ (ne_of_none ha hd) (x13 _ _ (x12 _ _ (x11 _ _ (ne_of_none ha hd) (x _ _ ha))))
    dsimp only [gName]
    obtain ⟨dx, pm, om, lm, em, g⟩ := M0.ins
    obtain ⟨dx2, pm2, om2, lm2, em2, g2⟩ := M2.ins
    have same : PyData.eqv (metD p o b) (metD p o b) = true := eq_refl (shp_met p o b)
    refine q_skip (fun D' nx => ?_) fun H15 x15 => ?_
    · refine ⟨_, rfl, _, rfl, m, dx, _, rfl, g, .inl ⟨m2, dx2, _, rfl, g2⟩, .inl ⟨m, m2, p, o, b, has, q0, st, e, p, o, b, has', q0', st', e', rfl, M0, M2, fun Ha xa => ⟨_, rfl, _, rfl, if_no (by rw [same]; rfl) ?_⟩⟩⟩
      refine ⟨_, rfl, _, rfl, m, dx, _, rfl, xa _ _ g, .inl ⟨m2, dx2, _, rfl, xa _ _ g2⟩, .inl ⟨m, m2, p, o, b, has, q0, st, e, p, o, b, has', q0', st', e', rfl, M0.mono xa, M2.mono xa, fun Hb xb => ⟨_, rfl, _, rfl, if_no (by rw [same]; rfl) ?_⟩⟩⟩
      have yb := xa.trans xb
      refine ⟨_, rfl, _, rfl, _, rfl, show 2 ≤ sizeLine by decide, fun t ht => ?_⟩
      have w1 := yb.trans (Ex.new (o := HO.tup [.ref pa, .ref oa]) ht)
      refine ⟨m, dx, _, rfl, w1 _ _ g, .inr ⟨t, _, rfl, upd_same⟩, .inr ⟨m, t, _, rfl, upd_same, _, rfl, _, rfl, if_no rfl ?_⟩⟩
      refine ⟨_, rfl, _, rfl, _, rfl, _, rfl, pa, oa, bu, p, o, b', rfl, w1 _ _ hp, w1 _ _ ho, w1 _ _ hbu, PL.ok, B'.ok, fun m3 Hc has3 q3 st3 e3 xc M3 => ?_⟩
      have yc := w1.trans xc
      obtain ⟨dx3, pm3, om3, lm3, em3, g3⟩ := M3.ins
      exact ⟨m, dx, _, rfl, yc _ _ g, .inl ⟨m3, dx3, _, rfl, g3⟩, .inl ⟨m, m3, p, o, b, has, q0, st, e, p, o, b', has3, q3, st3, e3, rfl, M0.mono yc, M3, fun Hd xd => ⟨_, rfl, _, rfl, if_no (eqv_ne fun z => ne z.2.2) (nx _ (yc.trans xd))⟩⟩⟩
    have hp := x15 _ _ hp
    have ho := x15 _ _ ho
    have hb := x15 _ _ hb
    have M0 := M0.mono x15
    have g := x15 _ _ g
    -- another place
    refine ⟨_, rfl, _, rfl, _, _, _, _, rfl, rfl, SqT.of hp, rfl, _, rfl, _, _, _, _, rfl, rfl, SqT.of hp, rfl, _, _, rfl, rfl, show 2 ≤ sizeLine by decide, fun t ht => ?_⟩
    have w1 := Ex.new (o := tup2 (p.1, p.2 + 1)) ht
    refine ⟨_, rfl, _, rfl, t, oa, ba, (p.1, p.2 + 1), o, b, rfl, upd_same, w1 _ _ ho, w1 _ _ hb, ⟨PL.ok.s1, ?_, PL.ok.s2, PL.ok.o2, PL.nz⟩, B.kb.ok, fun m3 Hc has3 q3 st3 e3 xc M3 => ?_⟩
    · exact (PL.o1.add ((Bd.lit (n := 1) (by decide)).mono (by decide)) (by decide : 140 + 1 ≤ 141)).mono (by decide)
    have yc := w1.trans xc
    obtain ⟨dx3, pm3, om3, lm3, em3, g3⟩ := M3.ins
    refine ⟨m, dx, _, rfl, yc _ _ g, .inl ⟨m3, dx3, _, rfl, g3⟩, .inl ⟨m, m3, p, o, b, has, q0, st, e, (p.1, p.2 + 1), o, b, has3, q3, st3, e3, rfl, M0.mono yc, M3, fun Hd xd => ⟨_, rfl, ?_⟩⟩⟩
    rw [eqv_ne fun z => d1 (congrArg Prod.snd z.1).symm]
    exact k _ ((x14.trans x15).trans (yc.trans xd))
theorem ok_law {f : Addr} {fd : FuncData} (T : Txt P K mg CN fI CA FE) (D : Fun K "law" "law" s_law f fd) (D_law_cells : DefOk P w K mg base CX0 1 "_law_cells" ["_law_script", "_law_most"] (spCells K)) (D_law_one : DefOk P w K mg base CX0 9 "_law_one" ["_law_cell"] spOne) :
    FnOk P w K mg base CX0 10 f fd ["_law_script"] (spLaw K) := by
  refine D.ok sc_law (fun vs H Q E h => ?_) (fun cdv A outer s H vs Q E hr h => ?_)
  · obtain ⟨_, _, rfl, _⟩ := h
    rfl
  · obtain ⟨a, ns, rfl, hS, k⟩ := h
    refine ⟨_, (pss_cons (ps_for PassesOwn.never rfl (pi_list (pe_callD D_law_cells (hr.mono (by decide)) pass0 (pa_cons (pv 0) (pa_cons pe_int pa_nil)))) (pg_name (i := 1) sc_law.nd rfl (Or.inl rfl))
 (pss_one (ps_if (pt_not (pt_val (pe_callD D_law_one (hr.mono (by decide)) pass0 (pa_cons (pv 1) pa_nil))))
 (pss_one (ps_ret pe_bl))
 pss_nil)))
 (pss_one (ps_ret pe_bl))), ?_⟩
    refine ⟨_, rfl, a, ns, rfl, hS, fun l cs H1 e1 hL => ?_⟩
    refine ⟨l, rfl, ⟨_, SqL.of hL⟩, for_list (K := K) (a := l) (xs := cs.map V.int) (fun i σ H' => ∃ v : Option V, σ = [some (.ref a), v] ∧ Ex H1 H') ⟨none, rfl, Ex.refl _⟩ ?_ ?_ ?_⟩
    · rintro i σ H' hi ⟨v, rfl, e'⟩
      exact SqL.of (e' _ _ hL)
    · rintro i x σ H' hi ⟨v, rfl, e'⟩
      obtain ⟨n, _, rfl⟩ := map_int_at hi
      exact ⟨_, rfl, n, rfl, fun H2 e2 => ⟨_, rfl, if_no rfl ⟨_, rfl, e'.trans e2⟩⟩⟩
    · rintro σ H2 ⟨v, rfl, e2⟩
      exact k H2
end
end My
set_option maxHeartbeats 8000000
namespace My
open PySem L2 Lf Evl
abbrev s_num : Stmt := inClass (top 4) 0
theorem fld_value : PySem.LfX.FldOk "value" := ⟨by decide +kernel, by decide +kernel, by decide +kernel, by decide +kernel, fun _ _ _ _ _ _ _ _ _ _ _ _ _ => .of_eq rfl⟩
theorem all_mk {P : Program} {w : World} {K : PySem.W.Frag} {h : Heap} {mg : Str → Option Value} {fa CN fI CA FE : Addr} (X : K.In h) (G : h.Ns mainGlobals mg) (hfa : mg "law" = some (.ref fa))
    {f0 : Addr} {od0 an0 : Option Addr} {sl0 : Array (Option Value)} {oc0 kV0 dc0 pm0 cd0 ct0 : Value}
    (a0 : PySem.W.nsIn K mainGlobals "is_number" = some (some (.ref f0))) (l0 : K.lookup f0 = some ⟨oc0, od0, .func (PySem.W.fnOf "is_number" "is_number" (defArgs s_is_number) (defBody s_is_number) (defScope s_is_number) .none kV0 dc0 pm0 an0 cd0 ct0), sl0⟩) (c0 : PySem.W.codeIn K cd0 "is_number" = true) (k0 : PySem.W.keepIn K (.ref f0) = true)
    {f1 : Addr} {od1 an1 : Option Addr} {sl1 : Array (Option Value)} {oc1 kV1 dc1 pm1 cd1 ct1 : Value}
    (a1 : PySem.W.nsIn K mainGlobals "combination" = some (some (.ref f1))) (l1 : K.lookup f1 = some ⟨oc1, od1, .func (PySem.W.fnOf "combination" "combination" (defArgs s_combination) (defBody s_combination) (defScope s_combination) .none kV1 dc1 pm1 an1 cd1 ct1), sl1⟩) (c1 : PySem.W.codeIn K cd1 "combination" = true) (k1 : PySem.W.keepIn K (.ref f1) = true)
    {f2 : Addr} {od2 an2 : Option Addr} {sl2 : Array (Option Value)} {oc2 kV2 dc2 pm2 cd2 ct2 : Value}
    (a2 : PySem.W.nsIn K mainGlobals "line_of" = some (some (.ref f2))) (l2 : K.lookup f2 = some ⟨oc2, od2, .func (PySem.W.fnOf "line_of" "line_of" (defArgs s_line_of) (defBody s_line_of) (defScope s_line_of) .none kV2 dc2 pm2 an2 cd2 ct2), sl2⟩) (c2 : PySem.W.codeIn K cd2 "line_of" = true) (k2 : PySem.W.keepIn K (.ref f2) = true)
    {f3 : Addr} {od3 an3 : Option Addr} {sl3 : Array (Option Value)} {oc3 kV3 dc3 pm3 cd3 ct3 : Value}
    (a3 : PySem.W.nsIn K mainGlobals "pair_after" = some (some (.ref f3))) (l3 : K.lookup f3 = some ⟨oc3, od3, .func (PySem.W.fnOf "pair_after" "pair_after" (defArgs s_pair_after) (defBody s_pair_after) (defScope s_pair_after) .none kV3 dc3 pm3 an3 cd3 ct3), sl3⟩) (c3 : PySem.W.codeIn K cd3 "pair_after" = true) (k3 : PySem.W.keepIn K (.ref f3) = true)
    {f4 : Addr} {od4 an4 : Option Addr} {sl4 : Array (Option Value)} {oc4 kV4 dc4 pm4 cd4 ct4 : Value}
    (a4 : PySem.W.nsIn K mainGlobals "ends_of" = some (some (.ref f4))) (l4 : K.lookup f4 = some ⟨oc4, od4, .func (PySem.W.fnOf "ends_of" "ends_of" (defArgs s_ends_of) (defBody s_ends_of) (defScope s_ends_of) .none kV4 dc4 pm4 an4 cd4 ct4), sl4⟩) (c4 : PySem.W.codeIn K cd4 "ends_of" = true) (k4 : PySem.W.keepIn K (.ref f4) = true)
    {f5 : Addr} {od5 an5 : Option Addr} {sl5 : Array (Option Value)} {oc5 kV5 dc5 pm5 cd5 ct5 : Value}
    (a5 : PySem.W.nsIn K mainGlobals "is_great" = some (some (.ref f5))) (l5 : K.lookup f5 = some ⟨oc5, od5, .func (PySem.W.fnOf "is_great" "is_great" (defArgs s_is_great) (defBody s_is_great) (defScope s_is_great) .none kV5 dc5 pm5 an5 cd5 ct5), sl5⟩) (c5 : PySem.W.codeIn K cd5 "is_great" = true) (k5 : PySem.W.keepIn K (.ref f5) = true)
    {f6 : Addr} {od6 an6 : Option Addr} {sl6 : Array (Option Value)} {oc6 kV6 dc6 pm6 cd6 ct6 : Value}
    (a6 : PySem.W.nsIn K mainGlobals "is_count" = some (some (.ref f6))) (l6 : K.lookup f6 = some ⟨oc6, od6, .func (PySem.W.fnOf "is_count" "is_count" (defArgs s_is_count) (defBody s_is_count) (defScope s_is_count) .none kV6 dc6 pm6 an6 cd6 ct6), sl6⟩) (c6 : PySem.W.codeIn K cd6 "is_count" = true) (k6 : PySem.W.keepIn K (.ref f6) = true)
    {f7 : Addr} {od7 an7 : Option Addr} {sl7 : Array (Option Value)} {oc7 kV7 dc7 pm7 cd7 ct7 : Value}
    (a7 : PySem.W.nsIn K mainGlobals "is_pair" = some (some (.ref f7))) (l7 : K.lookup f7 = some ⟨oc7, od7, .func (PySem.W.fnOf "is_pair" "is_pair" (defArgs s_is_pair) (defBody s_is_pair) (defScope s_is_pair) .none kV7 dc7 pm7 an7 cd7 ct7), sl7⟩) (c7 : PySem.W.codeIn K cd7 "is_pair" = true) (k7 : PySem.W.keepIn K (.ref f7) = true)
    {f8 : Addr} {od8 an8 : Option Addr} {sl8 : Array (Option Value)} {oc8 kV8 dc8 pm8 cd8 ct8 : Value}
    (a8 : PySem.W.nsIn K mainGlobals "require_great_place" = some (some (.ref f8))) (l8 : K.lookup f8 = some ⟨oc8, od8, .func (PySem.W.fnOf "require_great_place" "require_great_place" (defArgs s_require_great_place) (defBody s_require_great_place) (defScope s_require_great_place) .none kV8 dc8 pm8 an8 cd8 ct8), sl8⟩) (c8 : PySem.W.codeIn K cd8 "require_great_place" = true) (k8 : PySem.W.keepIn K (.ref f8) = true)
    {f9 : Addr} {od9 an9 : Option Addr} {sl9 : Array (Option Value)} {oc9 kV9 dc9 pm9 cd9 ct9 : Value}
    (a9 : PySem.W.nsIn K mainGlobals "require_count" = some (some (.ref f9))) (l9 : K.lookup f9 = some ⟨oc9, od9, .func (PySem.W.fnOf "require_count" "require_count" (defArgs s_require_count) (defBody s_require_count) (defScope s_require_count) .none kV9 dc9 pm9 an9 cd9 ct9), sl9⟩) (c9 : PySem.W.codeIn K cd9 "require_count" = true) (k9 : PySem.W.keepIn K (.ref f9) = true)
    {f10 : Addr} {od10 an10 : Option Addr} {sl10 : Array (Option Value)} {oc10 kV10 dc10 pm10 cd10 ct10 : Value}
    (a10 : PySem.W.nsIn K mainGlobals "_law_dice" = some (some (.ref f10))) (l10 : K.lookup f10 = some ⟨oc10, od10, .func (PySem.W.fnOf "_law_dice" "_law_dice" (defArgs s_law_dice) (defBody s_law_dice) (defScope s_law_dice) .none kV10 dc10 pm10 an10 cd10 ct10), sl10⟩) (c10 : PySem.W.codeIn K cd10 "_law_dice" = true) (k10 : PySem.W.keepIn K (.ref f10) = true)
    {f11 : Addr} {od11 an11 : Option Addr} {sl11 : Array (Option Value)} {oc11 kV11 dc11 pm11 cd11 ct11 : Value}
    (a11 : PySem.W.nsIn K mainGlobals "_law_next" = some (some (.ref f11))) (l11 : K.lookup f11 = some ⟨oc11, od11, .func (PySem.W.fnOf "_law_next" "_law_next" (defArgs s_law_next) (defBody s_law_next) (defScope s_law_next) .none kV11 dc11 pm11 an11 cd11 ct11), sl11⟩) (c11 : PySem.W.codeIn K cd11 "_law_next" = true) (k11 : PySem.W.keepIn K (.ref f11) = true)
    {f12 : Addr} {od12 an12 : Option Addr} {sl12 : Array (Option Value)} {oc12 kV12 dc12 pm12 cd12 ct12 : Value}
    (a12 : PySem.W.nsIn K mainGlobals "_law_cells" = some (some (.ref f12))) (l12 : K.lookup f12 = some ⟨oc12, od12, .func (PySem.W.fnOf "_law_cells" "_law_cells" (defArgs s_law_cells) (defBody s_law_cells) (defScope s_law_cells) .none kV12 dc12 pm12 an12 cd12 ct12), sl12⟩) (c12 : PySem.W.codeIn K cd12 "_law_cells" = true) (k12 : PySem.W.keepIn K (.ref f12) = true)
    {f13 : Addr} {od13 an13 : Option Addr} {sl13 : Array (Option Value)} {oc13 kV13 dc13 pm13 cd13 ct13 : Value}
    (a13 : PySem.W.nsIn K mainGlobals "_law_meets" = some (some (.ref f13))) (l13 : K.lookup f13 = some ⟨oc13, od13, .func (PySem.W.fnOf "_law_meets" "_law_meets" (defArgs s_law_meets) (defBody s_law_meets) (defScope s_law_meets) .none kV13 dc13 pm13 an13 cd13 ct13), sl13⟩) (c13 : PySem.W.codeIn K cd13 "_law_meets" = true) (k13 : PySem.W.keepIn K (.ref f13) = true)
    {f14 : Addr} {od14 an14 : Option Addr} {sl14 : Array (Option Value)} {oc14 kV14 dc14 pm14 cd14 ct14 : Value}
    (a14 : PySem.W.nsIn K mainGlobals "_law_is_good" = some (some (.ref f14))) (l14 : K.lookup f14 = some ⟨oc14, od14, .func (PySem.W.fnOf "_law_is_good" "_law_is_good" (defArgs s_law_is_good) (defBody s_law_is_good) (defScope s_law_is_good) .none kV14 dc14 pm14 an14 cd14 ct14), sl14⟩) (c14 : PySem.W.codeIn K cd14 "_law_is_good" = true) (k14 : PySem.W.keepIn K (.ref f14) = true)
    {f15 : Addr} {od15 an15 : Option Addr} {sl15 : Array (Option Value)} {oc15 kV15 dc15 pm15 cd15 ct15 : Value}
    (a15 : PySem.W.nsIn K mainGlobals "_law_made" = some (some (.ref f15))) (l15 : K.lookup f15 = some ⟨oc15, od15, .func (PySem.W.fnOf "_law_made" "_law_made" (defArgs s_law_made) (defBody s_law_made) (defScope s_law_made) .none kV15 dc15 pm15 an15 cd15 ct15), sl15⟩) (c15 : PySem.W.codeIn K cd15 "_law_made" = true) (k15 : PySem.W.keepIn K (.ref f15) = true)
    {f16 : Addr} {od16 an16 : Option Addr} {sl16 : Array (Option Value)} {oc16 kV16 dc16 pm16 cd16 ct16 : Value}
    (a16 : PySem.W.nsIn K mainGlobals "_law_is_count" = some (some (.ref f16))) (l16 : K.lookup f16 = some ⟨oc16, od16, .func (PySem.W.fnOf "_law_is_count" "_law_is_count" (defArgs s_law_is_count) (defBody s_law_is_count) (defScope s_law_is_count) .none kV16 dc16 pm16 an16 cd16 ct16), sl16⟩) (c16 : PySem.W.codeIn K cd16 "_law_is_count" = true) (k16 : PySem.W.keepIn K (.ref f16) = true)
    {f17 : Addr} {od17 an17 : Option Addr} {sl17 : Array (Option Value)} {oc17 kV17 dc17 pm17 cd17 ct17 : Value}
    (a17 : PySem.W.nsIn K mainGlobals "_law_is_pair" = some (some (.ref f17))) (l17 : K.lookup f17 = some ⟨oc17, od17, .func (PySem.W.fnOf "_law_is_pair" "_law_is_pair" (defArgs s_law_is_pair) (defBody s_law_is_pair) (defScope s_law_is_pair) .none kV17 dc17 pm17 an17 cd17 ct17), sl17⟩) (c17 : PySem.W.codeIn K cd17 "_law_is_pair" = true) (k17 : PySem.W.keepIn K (.ref f17) = true)
    {f18 : Addr} {od18 an18 : Option Addr} {sl18 : Array (Option Value)} {oc18 kV18 dc18 pm18 cd18 ct18 : Value}
    (a18 : PySem.W.nsIn K mainGlobals "_law_is_truth" = some (some (.ref f18))) (l18 : K.lookup f18 = some ⟨oc18, od18, .func (PySem.W.fnOf "_law_is_truth" "_law_is_truth" (defArgs s_law_is_truth) (defBody s_law_is_truth) (defScope s_law_is_truth) .none kV18 dc18 pm18 an18 cd18 ct18), sl18⟩) (c18 : PySem.W.codeIn K cd18 "_law_is_truth" = true) (k18 : PySem.W.keepIn K (.ref f18) = true)
    {f19 : Addr} {od19 an19 : Option Addr} {sl19 : Array (Option Value)} {oc19 kV19 dc19 pm19 cd19 ct19 : Value}
    (a19 : PySem.W.nsIn K mainGlobals "_law_bounds" = some (some (.ref f19))) (l19 : K.lookup f19 = some ⟨oc19, od19, .func (PySem.W.fnOf "_law_bounds" "_law_bounds" (defArgs s_law_bounds) (defBody s_law_bounds) (defScope s_law_bounds) .none kV19 dc19 pm19 an19 cd19 ct19), sl19⟩) (c19 : PySem.W.codeIn K cd19 "_law_bounds" = true) (k19 : PySem.W.keepIn K (.ref f19) = true)
    {f20 : Addr} {od20 an20 : Option Addr} {sl20 : Array (Option Value)} {oc20 kV20 dc20 pm20 cd20 ct20 : Value}
    (a20 : PySem.W.nsIn K mainGlobals "_law_forced" = some (some (.ref f20))) (l20 : K.lookup f20 = some ⟨oc20, od20, .func (PySem.W.fnOf "_law_forced" "_law_forced" (defArgs s_law_forced) (defBody s_law_forced) (defScope s_law_forced) .none kV20 dc20 pm20 an20 cd20 ct20), sl20⟩) (c20 : PySem.W.codeIn K cd20 "_law_forced" = true) (k20 : PySem.W.keepIn K (.ref f20) = true)
    {f21 : Addr} {od21 an21 : Option Addr} {sl21 : Array (Option Value)} {oc21 kV21 dc21 pm21 cd21 ct21 : Value}
    (a21 : PySem.W.nsIn K mainGlobals "_law_ends" = some (some (.ref f21))) (l21 : K.lookup f21 = some ⟨oc21, od21, .func (PySem.W.fnOf "_law_ends" "_law_ends" (defArgs s_law_ends) (defBody s_law_ends) (defScope s_law_ends) .none kV21 dc21 pm21 an21 cd21 ct21), sl21⟩) (c21 : PySem.W.codeIn K cd21 "_law_ends" = true) (k21 : PySem.W.keepIn K (.ref f21) = true)
    {f22 : Addr} {od22 an22 : Option Addr} {sl22 : Array (Option Value)} {oc22 kV22 dc22 pm22 cd22 ct22 : Value}
    (a22 : PySem.W.nsIn K mainGlobals "_law_other" = some (some (.ref f22))) (l22 : K.lookup f22 = some ⟨oc22, od22, .func (PySem.W.fnOf "_law_other" "_law_other" (defArgs s_law_other) (defBody s_law_other) (defScope s_law_other) .none kV22 dc22 pm22 an22 cd22 ct22), sl22⟩) (c22 : PySem.W.codeIn K cd22 "_law_other" = true) (k22 : PySem.W.keepIn K (.ref f22) = true)
    {f23 : Addr} {od23 an23 : Option Addr} {sl23 : Array (Option Value)} {oc23 kV23 dc23 pm23 cd23 ct23 : Value}
    (a23 : PySem.W.nsIn K mainGlobals "_law_one" = some (some (.ref f23))) (l23 : K.lookup f23 = some ⟨oc23, od23, .func (PySem.W.fnOf "_law_one" "_law_one" (defArgs s_law_one) (defBody s_law_one) (defScope s_law_one) .none kV23 dc23 pm23 an23 cd23 ct23), sl23⟩) (c23 : PySem.W.codeIn K cd23 "_law_one" = true) (k23 : PySem.W.keepIn K (.ref f23) = true)
    {f24 : Addr} {od24 an24 : Option Addr} {sl24 : Array (Option Value)} {oc24 kV24 dc24 pm24 cd24 ct24 : Value}
    (a24 : PySem.W.nsIn K mainGlobals "law" = some (some (.ref f24))) (l24 : K.lookup f24 = some ⟨oc24, od24, .func (PySem.W.fnOf "law" "law" (defArgs s_law) (defBody s_law) (defScope s_law) .none kV24 dc24 pm24 an24 cd24 ct24), sl24⟩) (c24 : PySem.W.codeIn K cd24 "law" = true) (k24 : PySem.W.keepIn K (.ref f24) = true)
    {gM0 : Addr} {gdM0 gnM0 : Option Addr} {gsM0 : Array (Option Value)} {goM0 gvM0 gcM0 gpM0 geM0 gtM0 : Value} (mlM0 : K.lookup gM0 = some ⟨goM0, gdM0, .func (PySem.W.fnOf "spares_at" "Meetings.spares_at" (defArgs s_Meetings_spares_at) (defBody s_Meetings_spares_at) (defScope s_Meetings_spares_at) .none gvM0 gcM0 gpM0 gnM0 geM0 gtM0), gsM0⟩) (mcM0 : PySem.W.codeIn K geM0 "Meetings.spares_at" = true) (mkM0 : PySem.W.keepIn K (.ref gM0) = true)
    (maM0 : PySem.W.findIn K (.ref FE) "spares_at" = some (some (.ref gM0))) (mfM0 : PySem.W.isFn K (.ref gM0) = true)
    {gM1 : Addr} {gdM1 gnM1 : Option Addr} {gsM1 : Array (Option Value)} {goM1 gvM1 gcM1 gpM1 geM1 gtM1 : Value} (mlM1 : K.lookup gM1 = some ⟨goM1, gdM1, .func (PySem.W.fnOf "slopes" "Meetings.slopes" (defArgs s_Meetings_slopes) (defBody s_Meetings_slopes) (defScope s_Meetings_slopes) .none gvM1 gcM1 gpM1 gnM1 geM1 gtM1), gsM1⟩) (mcM1 : PySem.W.codeIn K geM1 "Meetings.slopes" = true) (mkM1 : PySem.W.keepIn K (.ref gM1) = true)
    (maM1 : PySem.W.findIn K (.ref FE) "slopes" = some (some (.ref gM1))) (mfM1 : PySem.W.isFn K (.ref gM1) = true)
    {gM2 : Addr} {gdM2 gnM2 : Option Addr} {gsM2 : Array (Option Value)} {goM2 gvM2 gcM2 gpM2 geM2 gtM2 : Value} (mlM2 : K.lookup gM2 = some ⟨goM2, gdM2, .func (PySem.W.fnOf "is_empty" "Meetings.is_empty" (defArgs s_Meetings_is_empty) (defBody s_Meetings_is_empty) (defScope s_Meetings_is_empty) .none gvM2 gcM2 gpM2 gnM2 geM2 gtM2), gsM2⟩) (mcM2 : PySem.W.codeIn K geM2 "Meetings.is_empty" = true) (mkM2 : PySem.W.keepIn K (.ref gM2) = true)
    (maM2 : PySem.W.findIn K (.ref FE) "is_empty" = some (some (.ref gM2))) (mfM2 : PySem.W.isFn K (.ref gM2) = true)
    {gM3 : Addr} {gdM3 gnM3 : Option Addr} {gsM3 : Array (Option Value)} {goM3 gvM3 gcM3 gpM3 geM3 gtM3 : Value} (mlM3 : K.lookup gM3 = some ⟨goM3, gdM3, .func (PySem.W.fnOf "end_by" "Meetings.end_by" (defArgs s_Meetings_end_by) (defBody s_Meetings_end_by) (defScope s_Meetings_end_by) .none gvM3 gcM3 gpM3 gnM3 geM3 gtM3), gsM3⟩) (mcM3 : PySem.W.codeIn K geM3 "Meetings.end_by" = true) (mkM3 : PySem.W.keepIn K (.ref gM3) = true)
    (maM3 : PySem.W.findIn K (.ref FE) "end_by" = some (some (.ref gM3))) (mfM3 : PySem.W.isFn K (.ref gM3) = true)
    {gM4 : Addr} {gdM4 gnM4 : Option Addr} {gsM4 : Array (Option Value)} {goM4 gvM4 gcM4 gpM4 geM4 gtM4 : Value} (mlM4 : K.lookup gM4 = some ⟨goM4, gdM4, .func (PySem.W.fnOf "growth" "Meetings.growth" (defArgs s_Meetings_growth) (defBody s_Meetings_growth) (defScope s_Meetings_growth) .none gvM4 gcM4 gpM4 gnM4 geM4 gtM4), gsM4⟩) (mcM4 : PySem.W.codeIn K geM4 "Meetings.growth" = true) (mkM4 : PySem.W.keepIn K (.ref gM4) = true)
    (maM4 : PySem.W.findIn K (.ref FE) "growth" = some (some (.ref gM4))) (mfM4 : PySem.W.isFn K (.ref gM4) = true)
    {gM5 : Addr} {gdM5 gnM5 : Option Addr} {gsM5 : Array (Option Value)} {goM5 gvM5 gcM5 gpM5 geM5 gtM5 : Value} (mlM5 : K.lookup gM5 = some ⟨goM5, gdM5, .func (PySem.W.fnOf "is_on_line" "Meetings.is_on_line" (defArgs s_Meetings_is_on_line) (defBody s_Meetings_is_on_line) (defScope s_Meetings_is_on_line) .none gvM5 gcM5 gpM5 gnM5 geM5 gtM5), gsM5⟩) (mcM5 : PySem.W.codeIn K geM5 "Meetings.is_on_line" = true) (mkM5 : PySem.W.keepIn K (.ref gM5) = true)
    (maM5 : PySem.W.findIn K (.ref FE) "is_on_line" = some (some (.ref gM5))) (mfM5 : PySem.W.isFn K (.ref gM5) = true)
    {gM6 : Addr} {gdM6 gnM6 : Option Addr} {gsM6 : Array (Option Value)} {goM6 gvM6 gcM6 gpM6 geM6 gtM6 : Value} (mlM6 : K.lookup gM6 = some ⟨goM6, gdM6, .func (PySem.W.fnOf "each" "Meetings.each" (defArgs s_Meetings_each) (defBody s_Meetings_each) (defScope s_Meetings_each) .none gvM6 gcM6 gpM6 gnM6 geM6 gtM6), gsM6⟩) (mcM6 : PySem.W.codeIn K geM6 "Meetings.each" = true) (mkM6 : PySem.W.keepIn K (.ref gM6) = true)
    (maM6 : PySem.W.findIn K (.ref FE) "each" = some (some (.ref gM6))) (mfM6 : PySem.W.isFn K (.ref gM6) = true)
    {gM7 : Addr} {gdM7 gnM7 : Option Addr} {gsM7 : Array (Option Value)} {goM7 gvM7 gcM7 gpM7 geM7 gtM7 : Value} (mlM7 : K.lookup gM7 = some ⟨goM7, gdM7, .func (PySem.W.fnOf "__contains__" "Meetings.__contains__" (defArgs s_Meetings___contains__) (defBody s_Meetings___contains__) (defScope s_Meetings___contains__) .none gvM7 gcM7 gpM7 gnM7 geM7 gtM7), gsM7⟩) (mcM7 : PySem.W.codeIn K geM7 "Meetings.__contains__" = true) (mkM7 : PySem.W.keepIn K (.ref gM7) = true)
    (maM7 : PySem.W.findIn K (.ref FE) "__contains__" = some (some (.ref gM7))) (mfM7 : PySem.W.isFn K (.ref gM7) = true)
    {gM8 : Addr} {gdM8 gnM8 : Option Addr} {gsM8 : Array (Option Value)} {goM8 gvM8 gcM8 gpM8 geM8 gtM8 : Value} (mlM8 : K.lookup gM8 = some ⟨goM8, gdM8, .func (PySem.W.fnOf "__bool__" "Meetings.__bool__" (defArgs s_Meetings___bool__) (defBody s_Meetings___bool__) (defScope s_Meetings___bool__) .none gvM8 gcM8 gpM8 gnM8 geM8 gtM8), gsM8⟩) (mcM8 : PySem.W.codeIn K geM8 "Meetings.__bool__" = true) (mkM8 : PySem.W.keepIn K (.ref gM8) = true)
    (maM8 : PySem.W.findIn K (.ref FE) "__bool__" = some (some (.ref gM8))) (mfM8 : PySem.W.isFn K (.ref gM8) = true)
    {gM9 : Addr} {gdM9 gnM9 : Option Addr} {gsM9 : Array (Option Value)} {goM9 gvM9 gcM9 gpM9 geM9 gtM9 : Value} (mlM9 : K.lookup gM9 = some ⟨goM9, gdM9, .func (PySem.W.fnOf "__eq__" "Meetings.__eq__" (defArgs s_Meetings___eq__) (defBody s_Meetings___eq__) (defScope s_Meetings___eq__) .none gvM9 gcM9 gpM9 gnM9 geM9 gtM9), gsM9⟩) (mcM9 : PySem.W.codeIn K geM9 "Meetings.__eq__" = true) (mkM9 : PySem.W.keepIn K (.ref gM9) = true)
    (maM9 : PySem.W.findIn K (.ref FE) "__eq__" = some (some (.ref gM9))) (mfM9 : PySem.W.isFn K (.ref gM9) = true)
    {gP0 : Addr} {gdP0 gnP0 : Option Addr} {gsP0 : Array (Option Value)} {goP0 gvP0 gcP0 gpP0 geP0 gtP0 : Value} (mlP0 : K.lookup gP0 = some ⟨goP0, gdP0, .func (PySem.W.fnOf "nearest" "Meetings.nearest" (defArgs s_Meetings_nearest) (defBody s_Meetings_nearest) (defScope s_Meetings_nearest) .none gvP0 gcP0 gpP0 gnP0 geP0 gtP0), gsP0⟩) (mcP0 : PySem.W.codeIn K geP0 "Meetings.nearest" = true) (mkP0 : PySem.W.keepIn K (.ref gP0) = true)
    {ppP0 : Addr} {pzP0 : List Value} (paP0 : PySem.W.findIn K (.ref FE) "nearest" = some (some (.ref ppP0))) (pgP0 : PySem.W.specialIn K (.ref ppP0) "__get__" = some (some (.builtin "property.__get__"))) (ptP0 : PySem.W.takesIn K (.ref ppP0) = some true) (prP0 : PySem.W.recIn K ppP0 "property" = some (.ref gP0 :: pzP0))
    {gP1 : Addr} {gdP1 gnP1 : Option Addr} {gsP1 : Array (Option Value)} {goP1 gvP1 gcP1 gpP1 geP1 gtP1 : Value} (mlP1 : K.lookup gP1 = some ⟨goP1, gdP1, .func (PySem.W.fnOf "distance" "Meetings.distance" (defArgs s_Meetings_distance) (defBody s_Meetings_distance) (defScope s_Meetings_distance) .none gvP1 gcP1 gpP1 gnP1 geP1 gtP1), gsP1⟩) (mcP1 : PySem.W.codeIn K geP1 "Meetings.distance" = true) (mkP1 : PySem.W.keepIn K (.ref gP1) = true)
    {ppP1 : Addr} {pzP1 : List Value} (paP1 : PySem.W.findIn K (.ref FE) "distance" = some (some (.ref ppP1))) (pgP1 : PySem.W.specialIn K (.ref ppP1) "__get__" = some (some (.builtin "property.__get__"))) (ptP1 : PySem.W.takesIn K (.ref ppP1) = some true) (prP1 : PySem.W.recIn K ppP1 "property" = some (.ref gP1 :: pzP1))
    {gP2 : Addr} {gdP2 gnP2 : Option Addr} {gsP2 : Array (Option Value)} {goP2 gvP2 gcP2 gpP2 geP2 gtP2 : Value} (mlP2 : K.lookup gP2 = some ⟨goP2, gdP2, .func (PySem.W.fnOf "soonest" "Meetings.soonest" (defArgs s_Meetings_soonest) (defBody s_Meetings_soonest) (defScope s_Meetings_soonest) .none gvP2 gcP2 gpP2 gnP2 geP2 gtP2), gsP2⟩) (mcP2 : PySem.W.codeIn K geP2 "Meetings.soonest" = true) (mkP2 : PySem.W.keepIn K (.ref gP2) = true)
    {ppP2 : Addr} {pzP2 : List Value} (paP2 : PySem.W.findIn K (.ref FE) "soonest" = some (some (.ref ppP2))) (pgP2 : PySem.W.specialIn K (.ref ppP2) "__get__" = some (some (.builtin "property.__get__"))) (ptP2 : PySem.W.takesIn K (.ref ppP2) = some true) (prP2 : PySem.W.recIn K ppP2 "property" = some (.ref gP2 :: pzP2))
    {gP3 : Addr} {gdP3 gnP3 : Option Addr} {gsP3 : Array (Option Value)} {goP3 gvP3 gcP3 gpP3 geP3 gtP3 : Value} (mlP3 : K.lookup gP3 = some ⟨goP3, gdP3, .func (PySem.W.fnOf "latest" "Meetings.latest" (defArgs s_Meetings_latest) (defBody s_Meetings_latest) (defScope s_Meetings_latest) .none gvP3 gcP3 gpP3 gnP3 geP3 gtP3), gsP3⟩) (mcP3 : PySem.W.codeIn K geP3 "Meetings.latest" = true) (mkP3 : PySem.W.keepIn K (.ref gP3) = true)
    {ppP3 : Addr} {pzP3 : List Value} (paP3 : PySem.W.findIn K (.ref FE) "latest" = some (some (.ref ppP3))) (pgP3 : PySem.W.specialIn K (.ref ppP3) "__get__" = some (some (.builtin "property.__get__"))) (ptP3 : PySem.W.takesIn K (.ref ppP3) = some true) (prP3 : PySem.W.recIn K ppP3 "property" = some (.ref gP3 :: pzP3))
    {gP4 : Addr} {gdP4 gnP4 : Option Addr} {gsP4 : Array (Option Value)} {goP4 gvP4 gcP4 gpP4 geP4 gtP4 : Value} (mlP4 : K.lookup gP4 = some ⟨goP4, gdP4, .func (PySem.W.fnOf "amount" "Meetings.amount" (defArgs s_Meetings_amount) (defBody s_Meetings_amount) (defScope s_Meetings_amount) .none gvP4 gcP4 gpP4 gnP4 geP4 gtP4), gsP4⟩) (mcP4 : PySem.W.codeIn K geP4 "Meetings.amount" = true) (mkP4 : PySem.W.keepIn K (.ref gP4) = true)
    {ppP4 : Addr} {pzP4 : List Value} (paP4 : PySem.W.findIn K (.ref FE) "amount" = some (some (.ref ppP4))) (pgP4 : PySem.W.specialIn K (.ref ppP4) "__get__" = some (some (.builtin "property.__get__"))) (ptP4 : PySem.W.takesIn K (.ref ppP4) = some true) (prP4 : PySem.W.recIn K ppP4 "property" = some (.ref gP4 :: pzP4))
    {gI KD : Addr} {gdI gnI : Option Addr} {gsI : Array (Option Value)} {goI gcI gpI geI gtI : Value} (mlI : K.lookup gI = some ⟨goI, gdI, .func (PySem.W.fnOf "__init__" "Meetings.__init__" (defArgs s_Meetings___init__) (defBody s_Meetings___init__) (defScope s_Meetings___init__) .none (.ref KD) gcI gpI gnI geI gtI), gsI⟩) (mcI : PySem.W.codeIn K geI "Meetings.__init__" = true) (mkI : PySem.W.keepIn K (.ref gI) = true)
    (maI : PySem.W.findIn K (.ref FE) "__init__" = some (some (.ref gI))) (mfI : PySem.W.isFn K (.ref gI) = true) (mks : PySem.W.makesIn K FE = true) (kpC : PySem.W.keepIn K (.ref FE) = true)
    {tk1 tk2 : Tok} (kw1 : PySem.W.nsIn K KD "low" = some (some (.int 0 tk1))) (kw2 : PySem.W.nsIn K KD "high" = some (some .none)) (kw3 : PySem.W.nsIn K KD "first" = some (some (.int 0 tk2))) (kw4 : PySem.W.nsIn K KD "rounds" = some (some .none))
    (gMt : PySem.W.nsIn K mainGlobals "Meetings" = some (some (.ref FE))) (q1 : PySem.W.plainGet K FE Str.empty = true) (q2 : PySem.W.hasDictIn K FE = true) (q3 : PySem.W.plainOver K FE = true) (q4 : PySem.W.findIn K (.ref FE) "__setattr__" = some (some (.builtin "object.__setattr__")))
    (nf0 : PySem.W.findIn K (.ref FE) "place" = some none) (nf1 : PySem.W.findIn K (.ref FE) "other" = some none) (nf2 : PySem.W.findIn K (.ref FE) "low" = some none) (nf3 : PySem.W.findIn K (.ref FE) "high" = some none) (nf4 : PySem.W.findIn K (.ref FE) "first" = some none) (nf5 : PySem.W.findIn K (.ref FE) "rounds" = some none) (nf6 : PySem.W.findIn K (.ref FE) "own_line" = some none) (nf7 : PySem.W.findIn K (.ref FE) "has_line" = some none) (nf8 : PySem.W.findIn K (.ref FE) "own_ends" = some none)
    (n_isinstance : PySem.W.nsIn K mainGlobals "isinstance" = some none)
    (n_int : PySem.W.nsIn K mainGlobals "int" = some none)
    (n_bool : PySem.W.nsIn K mainGlobals "bool" = some none)
    (n_tuple : PySem.W.nsIn K mainGlobals "tuple" = some none)
    (n_len : PySem.W.nsIn K mainGlobals "len" = some none)
    (n_abs : PySem.W.nsIn K mainGlobals "abs" = some none)
    (n_max : PySem.W.nsIn K mainGlobals "max" = some none)
    (n_min : PySem.W.nsIn K mainGlobals "min" = some none)
    (n_list : PySem.W.nsIn K mainGlobals "list" = some none)
    (n_range : PySem.W.nsIn K mainGlobals "range" = some none)
    (n_zip : PySem.W.nsIn K mainGlobals "zip" = some none)
    (n_all : PySem.W.nsIn K mainGlobals "all" = some none)
    (n_set : PySem.W.nsIn K mainGlobals "set" = some none)
    (n_super : PySem.W.nsIn K mainGlobals "super" = some none)
    {t1 : Tok} (gG : PySem.W.nsIn K mainGlobals "GREAT" = some (some (.int great t1)))
    (eA : PySem.W.nsIn K mainGlobals "InvalidArgument" = some (some (.ref CA))) (eN : PySem.W.nsIn K mainGlobals "InvalidNumber" = some (some (.ref CN)))
    (xA : PySem.W.excIn K CA [.type "ValueError", .type "Exception", .type "BaseException", .type "object"] "ValueError.__new__" = true) (kA : PySem.W.keepIn K (.ref CA) = true) (bA : PySem.W.subIn K (.ref CA) (.type "BaseException") = some true) (tA : PySem.W.typeIn K (.ref CA) = some (.type "type"))
    {nm q : Str} {N : Addr} {bs : List Value} {sn : List Str} {sub : List Value} {ab : Bool} {col : Option Bool} {dd : Option Addr} {m0 m1 m2 m3 m5 : Option Value}
    (xN : K.lookup CN = some (excClassObj nm q CN N bs [.type "RuntimeError", .type "Exception", .type "BaseException", .type "object"] true sn sub ab col dd m0 m1 m2 m3 m5 "RuntimeError.__new__"))
    (sa : PySem.W.findIn K (.ref CN) "__setattr__" = some (some (.builtin "object.__setattr__"))) (nv : PySem.W.findIn K (.ref CN) "value" = some none) (iC : PySem.W.findIn K (.ref CN) "__init__" = some (some (.ref fI))) (tI : PySem.W.typeIn K (.ref fI) = some (.type "function"))
    (kN : PySem.W.keepIn K (.ref CN) = true) (bN : PySem.W.subIn K (.ref CN) (.type "BaseException") = some true) (sB : PySem.W.subIn K (.ref CN) (.type "RuntimeError") = some true) (sD : PySem.W.mroIn K CN (.ref CN) = some true) (sO : PySem.W.mroIn K CN (.type "object") = some true) (tN : PySem.W.typeIn K (.ref CN) = some (.type "type"))
    (op : PySem.W.nsIn K cStatics "thirdparty.any" = some none) (al : PySem.W.alongIn K "__init__" [.type "RuntimeError", .type "Exception", .type "BaseException", .type "object"] = some (some (.builtin "RuntimeError.__init__")))
    (htop : (P.main.scope.names.lookup ("super" : Str)).isSome = false)
    {oc : Value} {od : Option Addr} {doc pm : Value} {an : Option Addr} {cda : Addr} {ct : Value} {cc : Addr} {osl : Array (Option Value)} {ccl : Value} {cdd : Option Addr} {vs : Array Value} {ccs : Array (Option Value)} {cl : Value} {cld : Option Addr} {csl : Array (Option Value)} {file : Str} {tf : Tok}
    (lI : K.lookup fI = some ⟨oc, od, .func (PySem.W.ksFn "__init__" "InvalidNumber.__init__" (defArgs s_num) (defBody s_num) (defScope s_num) .none .none doc pm an (.ref cda) ct cc), osl⟩) (cI : PySem.W.codeIn K (.ref cda) "InvalidNumber.__init__" = true)
    (lc : K.lookup cda = some ⟨ccl, cdd, .fields vs, ccs⟩) (lz : K.lookup cc = some ⟨cl, cld, .cell (some (.ref CN)), csl⟩) (hvs : vs[2]? = some (.str file tf)) (hfile : ((P.main.file : Str) == file) = true)
    (u1 : PySem.W.findIn K (.ref FE) "__class__" = some (some (.builtin "object.__class__"))) (u2 : PySem.W.specialIn K (.builtin "object.__class__") "__get__" = some (some (.builtin "getset_descriptor.__get__"))) (u3 : PySem.W.takesIn K (.builtin "object.__class__") = some true) (u4 : PySem.W.mroIn K FE (.type "object") = some true)
    (u5 : PySem.W.kitOne K (.type "tuple") (.ref FE) = some false) (u6 : PySem.W.findIn K (.ref FE) "__ne__" = some (some (.builtin "object.__ne__"))) :
    ∃ fd : FuncData, (∀ (s : Shared) (u : Value), BindsTo s fd ⟨[u], []⟩ [("_law_script", u)]) ∧ ∀ base : Heap, K.In base → base.Ns mainGlobals mg → FnOk P w K mg base CX0 10 fa fd ["_law_script"] (spLaw K) := by
  have e := hfa.symm.trans (PySem.W.mg_of X G a24)
  cases e
  have num : PySem.LfX.XTxt P K mg "InvalidNumber" "value" "RuntimeError" "RuntimeError.__init__" "RuntimeError.__new__" [.type "RuntimeError", .type "Exception", .type "BaseException", .type "object"] CN fI :=
    { fo := fld_value, gC := PySem.W.mg_of X G eN, cls := ⟨_, _, _, _, _, _, _, _, _, _, _, _, _, _, _, xN, fun _ => rfl, PySem.F.store_RuntimeError.passes, al⟩, sa := sa, noF := nv, iC := iC, tC := tI, kC := kN, exC := bN, sB := sB, sD := sD, sO := sO, tyC := tN, op := op,
      sup := PySem.W.mg_none_of X G n_super, top := htop, fn := ⟨_, _, _, _, _, _, _, _, _, _, _, _, _, _, _, _, _, _, _, _, _, _, _, _, _, _, _, _, _, _, _, _, _, lI, cI, lc, hvs, hfile, lz, by decide⟩ }
  have T : Txt P K mg CN fI CA FE := { n_isinstance := PySem.W.mg_none_of X G n_isinstance, n_int := PySem.W.mg_none_of X G n_int, n_bool := PySem.W.mg_none_of X G n_bool, n_tuple := PySem.W.mg_none_of X G n_tuple, n_len := PySem.W.mg_none_of X G n_len, n_abs := PySem.W.mg_none_of X G n_abs, n_max := PySem.W.mg_none_of X G n_max, n_min := PySem.W.mg_none_of X G n_min, n_list := PySem.W.mg_none_of X G n_list, n_range := PySem.W.mg_none_of X G n_range, n_zip := PySem.W.mg_none_of X G n_zip, n_all := PySem.W.mg_none_of X G n_all, n_set := PySem.W.mg_none_of X G n_set, g_GREAT := ⟨t1, PySem.W.mg_of X G gG⟩, num := num, gA := PySem.W.mg_of X G eA, xA := xA, kA := kA, bA := bA, tA := tA, c_Met := ⟨q1, q2, q3, q4⟩, g_Meetings := PySem.W.mg_of X G gMt, nf := ⟨nf0, nf1, nf2, nf3, nf4, nf5, nf6, nf7, nf8⟩ }
  have F_is_number := fun_mk (st := s_is_number) l0 c0 k0
  have E_is_number : Df K mg "is_number" s_is_number := ⟨_, _, F_is_number, PySem.W.mg_of X G a0⟩
  have F_combination := fun_mk (st := s_combination) l1 c1 k1
  have E_combination : Df K mg "combination" s_combination := ⟨_, _, F_combination, PySem.W.mg_of X G a1⟩
  have F_line_of := fun_mk (st := s_line_of) l2 c2 k2
  have E_line_of : Df K mg "line_of" s_line_of := ⟨_, _, F_line_of, PySem.W.mg_of X G a2⟩
  have F_pair_after := fun_mk (st := s_pair_after) l3 c3 k3
  have E_pair_after : Df K mg "pair_after" s_pair_after := ⟨_, _, F_pair_after, PySem.W.mg_of X G a3⟩
  have F_ends_of := fun_mk (st := s_ends_of) l4 c4 k4
  have E_ends_of : Df K mg "ends_of" s_ends_of := ⟨_, _, F_ends_of, PySem.W.mg_of X G a4⟩
  have F_is_great := fun_mk (st := s_is_great) l5 c5 k5
  have E_is_great : Df K mg "is_great" s_is_great := ⟨_, _, F_is_great, PySem.W.mg_of X G a5⟩
  have F_is_count := fun_mk (st := s_is_count) l6 c6 k6
  have E_is_count : Df K mg "is_count" s_is_count := ⟨_, _, F_is_count, PySem.W.mg_of X G a6⟩
  have F_is_pair := fun_mk (st := s_is_pair) l7 c7 k7
  have E_is_pair : Df K mg "is_pair" s_is_pair := ⟨_, _, F_is_pair, PySem.W.mg_of X G a7⟩
  have F_require_great_place := fun_mk (st := s_require_great_place) l8 c8 k8
  have E_require_great_place : Df K mg "require_great_place" s_require_great_place := ⟨_, _, F_require_great_place, PySem.W.mg_of X G a8⟩
  have F_require_count := fun_mk (st := s_require_count) l9 c9 k9
  have E_require_count : Df K mg "require_count" s_require_count := ⟨_, _, F_require_count, PySem.W.mg_of X G a9⟩
  have F_law_dice := fun_mk (st := s_law_dice) l10 c10 k10
  have E_law_dice : Df K mg "_law_dice" s_law_dice := ⟨_, _, F_law_dice, PySem.W.mg_of X G a10⟩
  have F_law_next := fun_mk (st := s_law_next) l11 c11 k11
  have E_law_next : Df K mg "_law_next" s_law_next := ⟨_, _, F_law_next, PySem.W.mg_of X G a11⟩
  have F_law_cells := fun_mk (st := s_law_cells) l12 c12 k12
  have E_law_cells : Df K mg "_law_cells" s_law_cells := ⟨_, _, F_law_cells, PySem.W.mg_of X G a12⟩
  have F_law_meets := fun_mk (st := s_law_meets) l13 c13 k13
  have E_law_meets : Df K mg "_law_meets" s_law_meets := ⟨_, _, F_law_meets, PySem.W.mg_of X G a13⟩
  have F_law_is_good := fun_mk (st := s_law_is_good) l14 c14 k14
  have E_law_is_good : Df K mg "_law_is_good" s_law_is_good := ⟨_, _, F_law_is_good, PySem.W.mg_of X G a14⟩
  have F_law_made := fun_mk (st := s_law_made) l15 c15 k15
  have E_law_made : Df K mg "_law_made" s_law_made := ⟨_, _, F_law_made, PySem.W.mg_of X G a15⟩
  have F_law_is_count := fun_mk (st := s_law_is_count) l16 c16 k16
  have E_law_is_count : Df K mg "_law_is_count" s_law_is_count := ⟨_, _, F_law_is_count, PySem.W.mg_of X G a16⟩
  have F_law_is_pair := fun_mk (st := s_law_is_pair) l17 c17 k17
  have E_law_is_pair : Df K mg "_law_is_pair" s_law_is_pair := ⟨_, _, F_law_is_pair, PySem.W.mg_of X G a17⟩
  have F_law_is_truth := fun_mk (st := s_law_is_truth) l18 c18 k18
  have E_law_is_truth : Df K mg "_law_is_truth" s_law_is_truth := ⟨_, _, F_law_is_truth, PySem.W.mg_of X G a18⟩
  have F_law_bounds := fun_mk (st := s_law_bounds) l19 c19 k19
  have E_law_bounds : Df K mg "_law_bounds" s_law_bounds := ⟨_, _, F_law_bounds, PySem.W.mg_of X G a19⟩
  have F_law_forced := fun_mk (st := s_law_forced) l20 c20 k20
  have E_law_forced : Df K mg "_law_forced" s_law_forced := ⟨_, _, F_law_forced, PySem.W.mg_of X G a20⟩
  have F_law_ends := fun_mk (st := s_law_ends) l21 c21 k21
  have E_law_ends : Df K mg "_law_ends" s_law_ends := ⟨_, _, F_law_ends, PySem.W.mg_of X G a21⟩
  have F_law_other := fun_mk (st := s_law_other) l22 c22 k22
  have E_law_other : Df K mg "_law_other" s_law_other := ⟨_, _, F_law_other, PySem.W.mg_of X G a22⟩
  have F_law_one := fun_mk (st := s_law_one) l23 c23 k23
  have E_law_one : Df K mg "_law_one" s_law_one := ⟨_, _, F_law_one, PySem.W.mg_of X G a23⟩
  have F_law := fun_mk (st := s_law) l24 c24 k24
  have E_law : Df K mg "law" s_law := ⟨_, _, F_law, PySem.W.mg_of X G a24⟩
  have E_Met_spares_at : Dm K FE "spares_at" "Meetings.spares_at" s_Meetings_spares_at := ⟨_, _, fun_mk (st := s_Meetings_spares_at) mlM0 mcM0 mkM0, ⟨maM0, mfM0, mkM0⟩⟩
  have E_Met_slopes : Dm K FE "slopes" "Meetings.slopes" s_Meetings_slopes := ⟨_, _, fun_mk (st := s_Meetings_slopes) mlM1 mcM1 mkM1, ⟨maM1, mfM1, mkM1⟩⟩
  have E_Met_is_empty : Dm K FE "is_empty" "Meetings.is_empty" s_Meetings_is_empty := ⟨_, _, fun_mk (st := s_Meetings_is_empty) mlM2 mcM2 mkM2, ⟨maM2, mfM2, mkM2⟩⟩
  have E_Met_end_by : Dm K FE "end_by" "Meetings.end_by" s_Meetings_end_by := ⟨_, _, fun_mk (st := s_Meetings_end_by) mlM3 mcM3 mkM3, ⟨maM3, mfM3, mkM3⟩⟩
  have E_Met_growth : Dm K FE "growth" "Meetings.growth" s_Meetings_growth := ⟨_, _, fun_mk (st := s_Meetings_growth) mlM4 mcM4 mkM4, ⟨maM4, mfM4, mkM4⟩⟩
  have E_Met_is_on_line : Dm K FE "is_on_line" "Meetings.is_on_line" s_Meetings_is_on_line := ⟨_, _, fun_mk (st := s_Meetings_is_on_line) mlM5 mcM5 mkM5, ⟨maM5, mfM5, mkM5⟩⟩
  have E_Met_each : Dm K FE "each" "Meetings.each" s_Meetings_each := ⟨_, _, fun_mk (st := s_Meetings_each) mlM6 mcM6 mkM6, ⟨maM6, mfM6, mkM6⟩⟩
  have E_Met___contains__ : Dm K FE "__contains__" "Meetings.__contains__" s_Meetings___contains__ := ⟨_, _, fun_mk (st := s_Meetings___contains__) mlM7 mcM7 mkM7, ⟨maM7, mfM7, mkM7⟩⟩
  have E_Met___bool__ : Dm K FE "__bool__" "Meetings.__bool__" s_Meetings___bool__ := ⟨_, _, fun_mk (st := s_Meetings___bool__) mlM8 mcM8 mkM8, ⟨maM8, mfM8, mkM8⟩⟩
  have E_Met___eq__ : Dm K FE "__eq__" "Meetings.__eq__" s_Meetings___eq__ := ⟨_, _, fun_mk (st := s_Meetings___eq__) mlM9 mcM9 mkM9, ⟨maM9, mfM9, mkM9⟩⟩
  have E_Met_nearest : Dp_ K FE "nearest" "Meetings.nearest" s_Meetings_nearest := ⟨_, _, _, fun_mk (st := s_Meetings_nearest) mlP0 mcP0 mkP0, ⟨paP0, pgP0, ptP0, _, prP0⟩⟩
  have E_Met_distance : Dp_ K FE "distance" "Meetings.distance" s_Meetings_distance := ⟨_, _, _, fun_mk (st := s_Meetings_distance) mlP1 mcP1 mkP1, ⟨paP1, pgP1, ptP1, _, prP1⟩⟩
  have E_Met_soonest : Dp_ K FE "soonest" "Meetings.soonest" s_Meetings_soonest := ⟨_, _, _, fun_mk (st := s_Meetings_soonest) mlP2 mcP2 mkP2, ⟨paP2, pgP2, ptP2, _, prP2⟩⟩
  have E_Met_latest : Dp_ K FE "latest" "Meetings.latest" s_Meetings_latest := ⟨_, _, _, fun_mk (st := s_Meetings_latest) mlP3 mcP3 mkP3, ⟨paP3, pgP3, ptP3, _, prP3⟩⟩
  have E_Met_amount : Dp_ K FE "amount" "Meetings.amount" s_Meetings_amount := ⟨_, _, _, fun_mk (st := s_Meetings_amount) mlP4 mcP4 mkP4, ⟨paP4, pgP4, ptP4, _, prP4⟩⟩
  have EI : ∃ fd, Mk K FE gI ∧ FunI K gI fd := ⟨_, ⟨mks, maI, mfI, kpC⟩, ⟨⟨_, _, _, _, _, _, _, _, _, _, rfl, mlI, mcI, .inl ⟨rfl, rfl⟩, .inr ⟨KD, rfl, fun q hq => by
    simp only [kwd, List.mem_cons, List.not_mem_nil, or_false] at hq
    rcases hq with rfl | rfl | rfl | rfl
    · exact ⟨_, kw1, _, rfl⟩
    · exact ⟨_, kw2, rfl⟩
    · exact ⟨_, kw3, _, rfl⟩
    · exact ⟨_, kw4, rfl⟩⟩⟩, mkI⟩⟩
  obtain ⟨fdI, MI, FI⟩ := EI
  refine ⟨PySem.W.fnOf "law" "law" (defArgs s_law) (defBody s_law) (defScope s_law) .none kV24 dc24 pm24 an24 cd24 ct24, fun s u => .of_eq rfl, fun base _ _ => ?_⟩
  have T2 : Tx2 K FE := ⟨u1, u2, u3, u4, u5, u6⟩
  have d1 := ok_is_number (w := w) (base := base) T E_is_number
  have d2 := ok_combination (w := w) (base := base) T E_combination
  have d3 := ok_line_of T E_line_of d2
  have d4 := ok_pair_after (w := w) (base := base) T E_pair_after
  have d5 := ok_ends_of (w := w) (base := base) T E_ends_of
  have d6 := ok_is_great T E_is_great d1
  have d7 := ok_is_count T E_is_count d6
  have d8 := ok_is_pair T E_is_pair d1
  have d9 := ok_require_great_place T E_require_great_place d8 d6
  have d10 := ok_require_count T E_require_count d7
  have m1 := ok_spares_at (w := w) (base := base) T E_Met_spares_at
  have m2 := ok_slopes (w := w) (base := base) T E_Met_slopes
  have i1 := ok_init T FI d9 d10 d6 d3 d5 m1 m2
  have i2 : InitOk P w K mg base FE := ⟨_, _, MI, FI, i1⟩
  have m3 := ok_is_empty (w := w) (base := base) T E_Met_is_empty
  have m4 := ok_end_by T E_Met_end_by d4
  have m5 := ok_growth (w := w) (base := base) T E_Met_growth
  have m7 := ok_on_line (w := w) (base := base) T E_Met_is_on_line
  have m8 := ok_bool T E_Met___bool__ m3
  have m9 := ok_contains T E_Met___contains__ d8 m7 m1
  have p1 := ok_nearest T E_Met_nearest m3 m4 m5
  have p2 := ok_distance T E_Met_distance p1
  have p3 := ok_soonest T E_Met_soonest m3 m4
  have p4 := ok_latest T E_Met_latest m3 m4
  have p5 := ok_amount T E_Met_amount m3
  have m10 := ok_each T E_Met_each m3 m4 m5 p5 d4
  have m11 := ok_eq (w := w) (base := base) T T2 E_Met___eq__
  have b1 := ok_law_dice (w := w) (base := base) T E_law_dice
  have b2 := ok_law_next (w := w) (base := base) T E_law_next
  have b3 := ok_law_cells (w := w) (base := base) T E_law_cells
  have b6 := ok_law_is_count (w := w) (base := base) T E_law_is_count
  have b8 := ok_law_bounds T E_law_bounds b2
  have b9 := ok_law_meets (w := w) (base := base) T E_law_meets
  have b10 := ok_law_is_good T E_law_is_good b9
  have b11 := ok_law_made T E_law_made i2
  have b12 := ok_law_is_pair T E_law_is_pair b6
  have b13 := ok_law_is_truth (w := w) (base := base) T E_law_is_truth
  have b14 := ok_law_forced T E_law_forced b10
  have b15 := ok_law_ends T E_law_ends p1 p3 p4 p2 p5
  have b16 := ok_law_other T E_law_other b2
  have b17 := ok_law_one T T2 E_law_one i2 b1 b2 b8 b14 b12 b13 b15 b16 b11 m10 m8 m9 m11
  exact ok_law T F_law b3 b17
end My
open PySem PySem.W PyProof.Rows
theorem PySem.Challenge.cw_loopfoundry_k12_all_meetings_of_small_pl_holds : PySem.Challenge.rw_loopfoundry_k12_all_meetings_of_small_pl.Holds := by
  w_on; o_law; k_head; (case hw => w_witness2)
  k_fill
  refine L2.walk_ofK (l := PySem.Challenge.rw_loopfoundry_k12_all_meetings_of_small_pl) (k := 10) (CX := L2.CX0) (x := "_law_script") (sp := My.spLaw) rfl (by decide) rfl ⟨rfl, by decide, by decide⟩ (fun w h Y => PySem.W.kIn_of Y) ?F (fun K H a ns hl _ hS => ⟨a, ns, rfl, hS, fun _ => rfl⟩) (fun _ _ _ _ z => z)
  case F =>
    intro w mg fa h KX G hmg
    refine' My.all_mk KX G hmg ?a0 ?l0 ?c0 ?k0 ?a1 ?l1 ?c1 ?k1 ?a2 ?l2 ?c2 ?k2 ?a3 ?l3 ?c3 ?k3 ?a4 ?l4 ?c4 ?k4 ?a5 ?l5 ?c5 ?k5 ?a6 ?l6 ?c6 ?k6 ?a7 ?l7 ?c7 ?k7 ?a8 ?l8 ?c8 ?k8 ?a9 ?l9 ?c9 ?k9 ?a10 ?l10 ?c10 ?k10 ?a11 ?l11 ?c11 ?k11 ?a12 ?l12 ?c12 ?k12 ?a13 ?l13 ?c13 ?k13 ?a14 ?l14 ?c14 ?k14 ?a15 ?l15 ?c15 ?k15 ?a16 ?l16 ?c16 ?k16 ?a17 ?l17 ?c17 ?k17 ?a18 ?l18 ?c18 ?k18 ?a19 ?l19 ?c19 ?k19 ?a20 ?l20 ?c20 ?k20 ?a21 ?l21 ?c21 ?k21 ?a22 ?l22 ?c22 ?k22 ?a23 ?l23 ?c23 ?k23 ?a24 ?l24 ?c24 ?k24 ?mlM0 ?mcM0 ?mkM0 ?maM0 ?mfM0 ?mlM1 ?mcM1 ?mkM1 ?maM1 ?mfM1 ?mlM2 ?mcM2 ?mkM2 ?maM2 ?mfM2 ?mlM3 ?mcM3 ?mkM3 ?maM3 ?mfM3 ?mlM4 ?mcM4 ?mkM4 ?maM4 ?mfM4 ?mlM5 ?mcM5 ?mkM5 ?maM5 ?mfM5 ?mlM6 ?mcM6 ?mkM6 ?maM6 ?mfM6 ?mlM7 ?mcM7 ?mkM7 ?maM7 ?mfM7 ?mlM8 ?mcM8 ?mkM8 ?maM8 ?mfM8 ?mlM9 ?mcM9 ?mkM9 ?maM9 ?mfM9 ?mlP0 ?mcP0 ?mkP0 ?paP0 ?pgP0 ?ptP0 ?prP0 ?mlP1 ?mcP1 ?mkP1 ?paP1 ?pgP1 ?ptP1 ?prP1 ?mlP2 ?mcP2 ?mkP2 ?paP2 ?pgP2 ?ptP2 ?prP2 ?mlP3 ?mcP3 ?mkP3 ?paP3 ?pgP3 ?ptP3 ?prP3 ?mlP4 ?mcP4 ?mkP4 ?paP4 ?pgP4 ?ptP4 ?prP4 ?mlI ?mcI ?mkI ?maI ?mfI ?mks ?kpC ?kw1 ?kw2 ?kw3 ?kw4 ?gMt ?q1 ?q2 ?q3 ?q4 ?nf0 ?nf1 ?nf2 ?nf3 ?nf4 ?nf5 ?nf6 ?nf7 ?nf8 ?n_isinstance ?n_int ?n_bool ?n_tuple ?n_len ?n_abs ?n_max ?n_min ?n_list ?n_range ?n_zip ?n_all ?n_set ?n_super ?gG ?eA ?eN ?xA ?kA ?bA ?tA ?xN ?sa ?nv ?iC ?tI ?kN ?bN ?sB ?sD ?sO ?tN ?op ?al ?htop ?lI ?cI ?lc ?lz ?hvs ?hfile ?u1 ?u2 ?u3 ?u4 ?u5 ?u6
    (case gMt => first | k_is | kernel_rfl)
    (case eA => first | k_is | kernel_rfl)
    (case eN => first | k_is | kernel_rfl)
    (case maM0 => first | k_is | kernel_rfl)
    (case maM1 => first | k_is | kernel_rfl)
    (case maM2 => first | k_is | kernel_rfl)
    (case maM3 => first | k_is | kernel_rfl)
    (case maM4 => first | k_is | kernel_rfl)
    (case maM5 => first | k_is | kernel_rfl)
    (case maM6 => first | k_is | kernel_rfl)
    (case maM7 => first | k_is | kernel_rfl)
    (case maM8 => first | k_is | kernel_rfl)
    (case maM9 => first | k_is | kernel_rfl)
    (case paP0 => first | k_is | kernel_rfl)
    (case paP1 => first | k_is | kernel_rfl)
    (case paP2 => first | k_is | kernel_rfl)
    (case paP3 => first | k_is | kernel_rfl)
    (case paP4 => first | k_is | kernel_rfl)
    (case maI => first | k_is | kernel_rfl)
    (case iC => first | k_is | kernel_rfl)
    (case prP0 => first | k_is | kernel_rfl)
    (case prP1 => first | k_is | kernel_rfl)
    (case prP2 => first | k_is | kernel_rfl)
    (case prP3 => first | k_is | kernel_rfl)
    (case prP4 => first | k_is | kernel_rfl)
    (case a0 => first | k_is | kernel_rfl)
    (case l0 => first | k_is | kernel_rfl)
    (case c0 => first | k_is | kernel_rfl)
    (case k0 => first | k_is | kernel_rfl)
    (case a1 => first | k_is | kernel_rfl)
    (case l1 => first | k_is | kernel_rfl)
    (case c1 => first | k_is | kernel_rfl)
    (case k1 => first | k_is | kernel_rfl)
    (case a2 => first | k_is | kernel_rfl)
    (case l2 => first | k_is | kernel_rfl)
    (case c2 => first | k_is | kernel_rfl)
    (case k2 => first | k_is | kernel_rfl)
    (case a3 => first | k_is | kernel_rfl)
    (case l3 => first | k_is | kernel_rfl)
    (case c3 => first | k_is | kernel_rfl)
    (case k3 => first | k_is | kernel_rfl)
    (case a4 => first | k_is | kernel_rfl)
    (case l4 => first | k_is | kernel_rfl)
    (case c4 => first | k_is | kernel_rfl)
    (case k4 => first | k_is | kernel_rfl)
    (case a5 => first | k_is | kernel_rfl)
    (case l5 => first | k_is | kernel_rfl)
    (case c5 => first | k_is | kernel_rfl)
    (case k5 => first | k_is | kernel_rfl)
    (case a6 => first | k_is | kernel_rfl)
    (case l6 => first | k_is | kernel_rfl)
    (case c6 => first | k_is | kernel_rfl)
    (case k6 => first | k_is | kernel_rfl)
    (case a7 => first | k_is | kernel_rfl)
    (case l7 => first | k_is | kernel_rfl)
    (case c7 => first | k_is | kernel_rfl)
    (case k7 => first | k_is | kernel_rfl)
    (case a8 => first | k_is | kernel_rfl)
    (case l8 => first | k_is | kernel_rfl)
    (case c8 => first | k_is | kernel_rfl)
    (case k8 => first | k_is | kernel_rfl)
    (case a9 => first | k_is | kernel_rfl)
    (case l9 => first | k_is | kernel_rfl)
    (case c9 => first | k_is | kernel_rfl)
    (case k9 => first | k_is | kernel_rfl)
    (case a10 => first | k_is | kernel_rfl)
    (case l10 => first | k_is | kernel_rfl)
    (case c10 => first | k_is | kernel_rfl)
    (case k10 => first | k_is | kernel_rfl)
    (case a11 => first | k_is | kernel_rfl)
    (case l11 => first | k_is | kernel_rfl)
    (case c11 => first | k_is | kernel_rfl)
    (case k11 => first | k_is | kernel_rfl)
    (case a12 => first | k_is | kernel_rfl)
    (case l12 => first | k_is | kernel_rfl)
    (case c12 => first | k_is | kernel_rfl)
    (case k12 => first | k_is | kernel_rfl)
    (case a13 => first | k_is | kernel_rfl)
    (case l13 => first | k_is | kernel_rfl)
    (case c13 => first | k_is | kernel_rfl)
    (case k13 => first | k_is | kernel_rfl)
    (case a14 => first | k_is | kernel_rfl)
    (case l14 => first | k_is | kernel_rfl)
    (case c14 => first | k_is | kernel_rfl)
    (case k14 => first | k_is | kernel_rfl)
    (case a15 => first | k_is | kernel_rfl)
    (case l15 => first | k_is | kernel_rfl)
    (case c15 => first | k_is | kernel_rfl)
    (case k15 => first | k_is | kernel_rfl)
    (case a16 => first | k_is | kernel_rfl)
    (case l16 => first | k_is | kernel_rfl)
    (case c16 => first | k_is | kernel_rfl)
    (case k16 => first | k_is | kernel_rfl)
    (case a17 => first | k_is | kernel_rfl)
    (case l17 => first | k_is | kernel_rfl)
    (case c17 => first | k_is | kernel_rfl)
    (case k17 => first | k_is | kernel_rfl)
    (case a18 => first | k_is | kernel_rfl)
    (case l18 => first | k_is | kernel_rfl)
    (case c18 => first | k_is | kernel_rfl)
    (case k18 => first | k_is | kernel_rfl)
    (case a19 => first | k_is | kernel_rfl)
    (case l19 => first | k_is | kernel_rfl)
    (case c19 => first | k_is | kernel_rfl)
    (case k19 => first | k_is | kernel_rfl)
    (case a20 => first | k_is | kernel_rfl)
    (case l20 => first | k_is | kernel_rfl)
    (case c20 => first | k_is | kernel_rfl)
    (case k20 => first | k_is | kernel_rfl)
    (case a21 => first | k_is | kernel_rfl)
    (case l21 => first | k_is | kernel_rfl)
    (case c21 => first | k_is | kernel_rfl)
    (case k21 => first | k_is | kernel_rfl)
    (case a22 => first | k_is | kernel_rfl)
    (case l22 => first | k_is | kernel_rfl)
    (case c22 => first | k_is | kernel_rfl)
    (case k22 => first | k_is | kernel_rfl)
    (case a23 => first | k_is | kernel_rfl)
    (case l23 => first | k_is | kernel_rfl)
    (case c23 => first | k_is | kernel_rfl)
    (case k23 => first | k_is | kernel_rfl)
    (case a24 => first | k_is | kernel_rfl)
    (case l24 => first | k_is | kernel_rfl)
    (case c24 => first | k_is | kernel_rfl)
    (case k24 => first | k_is | kernel_rfl)
    (case mlM0 => first | k_is | kernel_rfl)
    (case mcM0 => first | k_is | kernel_rfl)
    (case mkM0 => first | k_is | kernel_rfl)
    (case mfM0 => first | k_is | kernel_rfl)
    (case mlM1 => first | k_is | kernel_rfl)
    (case mcM1 => first | k_is | kernel_rfl)
    (case mkM1 => first | k_is | kernel_rfl)
    (case mfM1 => first | k_is | kernel_rfl)
    (case mlM2 => first | k_is | kernel_rfl)
    (case mcM2 => first | k_is | kernel_rfl)
    (case mkM2 => first | k_is | kernel_rfl)
    (case mfM2 => first | k_is | kernel_rfl)
    (case mlM3 => first | k_is | kernel_rfl)
    (case mcM3 => first | k_is | kernel_rfl)
    (case mkM3 => first | k_is | kernel_rfl)
    (case mfM3 => first | k_is | kernel_rfl)
    (case mlM4 => first | k_is | kernel_rfl)
    (case mcM4 => first | k_is | kernel_rfl)
    (case mkM4 => first | k_is | kernel_rfl)
    (case mfM4 => first | k_is | kernel_rfl)
    (case mlM5 => first | k_is | kernel_rfl)
    (case mcM5 => first | k_is | kernel_rfl)
    (case mkM5 => first | k_is | kernel_rfl)
    (case mfM5 => first | k_is | kernel_rfl)
    (case mlM6 => first | k_is | kernel_rfl)
    (case mcM6 => first | k_is | kernel_rfl)
    (case mkM6 => first | k_is | kernel_rfl)
    (case mfM6 => first | k_is | kernel_rfl)
    (case mlM7 => first | k_is | kernel_rfl)
    (case mcM7 => first | k_is | kernel_rfl)
    (case mkM7 => first | k_is | kernel_rfl)
    (case mfM7 => first | k_is | kernel_rfl)
    (case mlM8 => first | k_is | kernel_rfl)
    (case mcM8 => first | k_is | kernel_rfl)
    (case mkM8 => first | k_is | kernel_rfl)
    (case mfM8 => first | k_is | kernel_rfl)
    (case mlM9 => first | k_is | kernel_rfl)
    (case mcM9 => first | k_is | kernel_rfl)
    (case mkM9 => first | k_is | kernel_rfl)
    (case mfM9 => first | k_is | kernel_rfl)
    (case mlP0 => first | k_is | kernel_rfl)
    (case mcP0 => first | k_is | kernel_rfl)
    (case mkP0 => first | k_is | kernel_rfl)
    (case pgP0 => first | k_is | kernel_rfl)
    (case ptP0 => first | k_is | kernel_rfl)
    (case mlP1 => first | k_is | kernel_rfl)
    (case mcP1 => first | k_is | kernel_rfl)
    (case mkP1 => first | k_is | kernel_rfl)
    (case pgP1 => first | k_is | kernel_rfl)
    (case ptP1 => first | k_is | kernel_rfl)
    (case mlP2 => first | k_is | kernel_rfl)
    (case mcP2 => first | k_is | kernel_rfl)
    (case mkP2 => first | k_is | kernel_rfl)
    (case pgP2 => first | k_is | kernel_rfl)
    (case ptP2 => first | k_is | kernel_rfl)
    (case mlP3 => first | k_is | kernel_rfl)
    (case mcP3 => first | k_is | kernel_rfl)
    (case mkP3 => first | k_is | kernel_rfl)
    (case pgP3 => first | k_is | kernel_rfl)
    (case ptP3 => first | k_is | kernel_rfl)
    (case mlP4 => first | k_is | kernel_rfl)
    (case mcP4 => first | k_is | kernel_rfl)
    (case mkP4 => first | k_is | kernel_rfl)
    (case pgP4 => first | k_is | kernel_rfl)
    (case ptP4 => first | k_is | kernel_rfl)
    (case mlI => first | k_is | kernel_rfl)
    (case mcI => first | k_is | kernel_rfl)
    (case mkI => first | k_is | kernel_rfl)
    (case mfI => first | k_is | kernel_rfl)
    (case mks => first | k_is | kernel_rfl)
    (case kpC => first | k_is | kernel_rfl)
    (case kw1 => first | k_is | kernel_rfl)
    (case kw2 => first | k_is | kernel_rfl)
    (case kw3 => first | k_is | kernel_rfl)
    (case kw4 => first | k_is | kernel_rfl)
    (case q1 => first | k_is | kernel_rfl)
    (case q2 => first | k_is | kernel_rfl)
    (case q3 => first | k_is | kernel_rfl)
    (case q4 => first | k_is | kernel_rfl)
    (case nf0 => first | k_is | kernel_rfl)
    (case nf1 => first | k_is | kernel_rfl)
    (case nf2 => first | k_is | kernel_rfl)
    (case nf3 => first | k_is | kernel_rfl)
    (case nf4 => first | k_is | kernel_rfl)
    (case nf5 => first | k_is | kernel_rfl)
    (case nf6 => first | k_is | kernel_rfl)
    (case nf7 => first | k_is | kernel_rfl)
    (case nf8 => first | k_is | kernel_rfl)
    (case n_isinstance => first | k_is | kernel_rfl)
    (case n_int => first | k_is | kernel_rfl)
    (case n_bool => first | k_is | kernel_rfl)
    (case n_tuple => first | k_is | kernel_rfl)
    (case n_len => first | k_is | kernel_rfl)
    (case n_abs => first | k_is | kernel_rfl)
    (case n_max => first | k_is | kernel_rfl)
    (case n_min => first | k_is | kernel_rfl)
    (case n_list => first | k_is | kernel_rfl)
    (case n_range => first | k_is | kernel_rfl)
    (case n_zip => first | k_is | kernel_rfl)
    (case n_all => first | k_is | kernel_rfl)
    (case n_set => first | k_is | kernel_rfl)
    (case n_super => first | k_is | kernel_rfl)
    (case gG => first | k_is | kernel_rfl)
    (case xA => k_exc)
    (case kA => first | k_is | kernel_rfl)
    (case bA => first | k_is | kernel_rfl)
    (case tA => first | k_is | kernel_rfl)
    (case xN => first | k_is | kernel_rfl)
    (case sa => first | k_is | kernel_rfl)
    (case nv => first | k_is | kernel_rfl)
    (case tI => first | k_is | kernel_rfl)
    (case kN => first | k_is | kernel_rfl)
    (case bN => first | k_is | kernel_rfl)
    (case sB => first | k_is | kernel_rfl)
    (case sD => first | k_is | kernel_rfl)
    (case sO => first | k_is | kernel_rfl)
    (case tN => first | k_is | kernel_rfl)
    (case op => first | k_is | kernel_rfl)
    (case al => first | k_is | kernel_rfl)
    (case htop => decide +kernel)
    (case lI => first | k_is | kernel_rfl)
    (case cI => first | k_is | kernel_rfl)
    (case lc => first | k_is | kernel_rfl)
    (case lz => first | k_is | kernel_rfl)
    (case hvs => rfl)
    (case hfile => decide +kernel)
    (case u1 => first | k_is | kernel_rfl)
    (case u2 => first | k_is | kernel_rfl)
    (case u3 => first | k_is | kernel_rfl)
    (case u4 => first | k_is | kernel_rfl)
    (case u5 => first | k_is | kernel_rfl)
    (case u6 => first | k_is | kernel_rfl)
#print axioms PySem.Challenge.cw_loopfoundry_k12_all_meetings_of_small_pl_holds
