import PyProof.Rows.All
import Wide.All
import OpenK.AllK
import Wide.FinOn
import HandS.ForMost
import HandS.Lambda
import HandS.TryMany
import HandS.ExcField
import HandS.ExcInit
import HandS.Text
import KE.KExcSuper
import HandS.ExcValue
import HandS.TupAny
import HandS.TupMul
import HandS.WideBits
import HandS.IsInst
import HandS.Style
import HandS.Conv
import HandS.RaiseMore
import HandS.SortInts
import HandS.More
import HandS.Walk
import HandS.Zip
import HandS.Exc
import HandS.ExcIs
import HandS.Star
import HandS.NoneIn
import HandS.Iter
import HandS.DictTup
import KE.KDictWalk
import KE.KDictDisplayH
import KE.GoesMore
import HandS.ExcOwn
import KE.KExcIs
import HandS.Small
import HandS.Defaults
import HandS.Ends
import HandS.Words
import KE.KExcLine
import KE.RegKSuper
import PySem.Challenge.RW_handbetween_k20_whole_errors
set_option Elab.async false
set_option linter.all false
set_option maxRecDepth 100000
set_option maxHeartbeats 2000000
/-! EV, part U: except clauses, with and without a name, one behind the other. -/
namespace EV
open PySem PySem.Spec PyProof.Rows L2
/-- a clause: its class, the slot of its name if it has one, its suite's wish -/
structure Cl where
  c : Value
  i : Option Nat
  ts : Addr → Value → Option Addr → TS
def offD (i : Option Nat) (D : Ends) : Ends := match i with
  | none => D
  | some j => { nx := fun σ H => D.nx (σ.set j none) H, rt := D.rt, bk := fun σ H => D.bk (σ.set j none) H, ct := fun σ H => D.ct (σ.set j none) H }
def onS (i : Option Nat) (a : Addr) (σ : L2.St) : L2.St := match i with
  | none => σ
  | some j => σ.set j (some (.ref a))
/-- the wish of the clauses at an exception -/
def wCl (K : PySem.W.Frag) (Wo : WX) (D : Ends) : List Cl → WX
  | [] => Wo
  | k :: r => fun cls d σ H => ∃ t, PySem.W.exmOne K cls k.c = some t ∧ (t = true → ∀ a, H a = none → k.ts a cls d (offD k.i D) (onS k.i a σ) H) ∧ (t = false → wCl K Wo D r cls d σ H)
inductive CN (X : Cx) : Option Str → Option Nat → Prop
  | no : CN X none none
  | yes {n : Str} {j : Nat} (h1 : X.N[j]? = some n) (h2 : X.env.kindOf n = some .local) : CN X (some n) (some j)
inductive CLs (X : Cx) : List ExceptHandler → List Cl → Prop
  | nil : CLs X [] []
  | cons {x : Str} {nm : Option Str} {k : Cl} {s0 : Stmt} {suite : List Stmt} {p1 p2 : Pos} {hs : List ExceptHandler} {l : List Cl} (nam : Names X x k.c) (cn : CN X nm k.i)
      (run : ∀ (a : Addr) (oe : Obj) (cls : Value) (d : Option Addr) (pn : List (Addr × Obj)), Zc cls d oe → (∃ vs, oe.data = .fields vs) → PSs (X.suite a ((a, oe) :: pn)) (s0 :: suite) (k.ts a cls d)) (rest : CLs X hs l) :
      CLs X (.ExceptHandler (some (.Name x p1)) nm (s0 :: suite) p2 :: hs) (k :: l)
section
variable {X : Cx} {pins : List (Addr × Obj)} {σ : L2.St} {H : Hp} {D : Ends} {B : Heap} {a : Addr} {cls : Value} {d : Option Addr} {Wo : WX} {sI s' : Shared}
/-- an exception in this frame's hand goes through the clauses -/
theorem cl_walk (hs : X.stack = X.env :: X.outer) (hf : X.env.frame = some X.env.locals) (nd : X.N.Nodup) (tk : Takes X Wo) (J : Inv X pins σ H sI) (nb : ∀ b o, sI.heap.get? b = some o → b ∉ frs X.stack → B.get? b = some o)
    (up : sI.heap.UpToSlots s'.heap) (na : H a = none) (os : s'.os = sI.os) (ag : AllBare s'.gens) (fl : HandSPX.FlyingZ B (X.env :: X.outer) a (Zc cls d) s'.heap) (nL : a ≠ X.env.locals) (nF : a ∉ X.fs) :
    ∀ {hds : List ExceptHandler} {l : List Cl}, CLs X hds l → wCl X.K Wo D l cls d σ H → wpAny (model X.prog X.w) X.A (handleBy (.ref a) X.env hds) (SP X pins D) X.xe s' := by
  have ok := J.ok
  have J1 : Inv X pins σ H s' := J.landed nb fl.1 up os ag
  obtain ⟨o1, v1, e1, z1, d1⟩ := fl.there
  have S1 := J1.suite e1 d1 na nL nF
  intro hds l cl
  induction cl with
  | nil =>
    intro w
    refine wpAny_handleBy_nil ?_
    obtain ⟨_, _, _, oe, vs, T, _, _, he, _, hd, ht, _⟩ := id fl
    have go : wpAny (model X.prog X.w) X.A (setFlight (.ref a) X.env.frame) (fun _ s4 => wpAny (model X.prog X.w) X.A (throw (.ref a) : Sem Flow) (SP X pins D) X.xe s4) X.xe s' := by
      rw [hf]
      exact HandSPX.setFlight_upZ fl fun h4 held up4 => wpAny_throw (tk _ _ ⟨a, B, sI, pins, σ, H, cls, d, rfl, J, nb, up.trans up4, .inr (.inr (by rw [hs]; exact held)), na, os, ag, w⟩)
    unfold PySem.passOn
    refine wpAny_bind (wpAny_field he hd ht ?_)
    rw [if_neg (show ¬ ((Value.ref T == Value.none) = true) by simp)]
    first
      | exact wpAny_bind (wpAny_pure (wpAny_bind go))
      | exact wpAny_bind go
  | @cons x nm k s0 suite p1 p2 hds2 l2 nam cn run rest ih =>
    intro w
    obtain ⟨t, ht, yes, no⟩ := w
    refine wpAny_handleBy_cons (codeAny_handlers_test ?_) (by intro q; cases q)
    have ty : PySem.W.Looks (model X.prog X.w) s'.heap (typeOf (.ref a)) cls := fun A Q E s q z => wpAny_typeOf_ref (q _ _ e1) (by rw [z1.1]; exact z)
    have mt := PySem.W.exm_one (M := model X.prog X.w) J1.kIn ty ht
    have name : ∀ {Q : Value → Shared → Prop} {E : Value → Shared → Prop}, Q k.c s' → wpAny (model X.prog X.w) (X.A.mark (some (.ref a))) (eval (.Name x p1) X.env) Q E s' := fun {Q E} q => by
      obtain ⟨g, gd, g1 | ⟨g1, g2, g3⟩⟩ := nam
      · exact ld_glob (X := X.suite a ((a, o1) :: (X.pn ++ pins))) S1 g g1 q gd
      · exact ld_blt (X := X.suite a ((a, o1) :: (X.pn ++ pins))) S1 g g1 g2 q g3 gd
    refine name (mt.here ?_)
    cases t with
    | false =>
      show wpAny _ X.A (handleBy (.ref a) X.env hds2) _ _ _
      exact ih (no rfl)
    | true =>
      have yes := yes rfl a na
      obtain ⟨c, i, ts⟩ := k
      cases cn with
      | no =>
        refine codeAny_handlers_suite (HandSPX.lands_againZ fl fun h4 fl4 up4 => ?_)
        have J4 : Inv X pins σ H { s' with heap := h4 } := J.landed nb fl4.1 (up.trans up4) os ag
        obtain ⟨o4, v4, e4, z4, d4⟩ := fl4.there
        refine wpAny_mono ((run a o4 cls d (X.pn ++ pins) z4 ⟨_, d4⟩).run [] _ _ H _ (J4.suite e4 d4 na nL nF) yes) (fun f s6 sp => ?_) fun _ _ z => z.elim
        cases f with
        | ret u => exact let ⟨_, _, _, S6, r6, q6⟩ := sp; ⟨_, _, _, S6.unsuite ok, r6, q6⟩
        | next => exact let ⟨_, _, S6, q6⟩ := sp; ⟨_, _, S6.unsuite ok, q6⟩
        | brk => exact let ⟨_, _, S6, q6⟩ := sp; ⟨_, _, S6.unsuite ok, q6⟩
        | cont => exact let ⟨_, _, S6, q6⟩ := sp; ⟨_, _, S6.unsuite ok, q6⟩
      | @yes n j h1 h2 =>
        refine codeAny_handlers_suite_as (HandSPX.lands_againZ fl fun h4 fl4 up4 => ?_)
        have J4 : Inv X pins σ H { s' with heap := h4 } := J.landed nb fl4.1 (up.trans up4) os ag
        obtain ⟨o4, v4, e4, z4, d4⟩ := fl4.there
        refine store_ok (X := X.suite a ((a, o4) :: (X.pn ++ pins))) (v := .ref a) (J4.suite e4 d4 na nL nF) nd h1 (.inl h2) rfl (fun s5 S5 => ?_) (.inr h2)
        refine wpAny_mono ((run a o4 cls d (X.pn ++ pins) z4 ⟨_, d4⟩).run [] s5 _ H _ S5 yes) (fun f s6 sp => ?_) fun _ _ z => z.elim
        have off : ∀ {σ6 : L2.St} {H6 : Hp} {Q : Shared → Prop}, Inv (X.suite a ((a, o4) :: (X.pn ++ pins))) [] σ6 H6 s6 → (∀ s7, Inv X pins (σ6.set j none) H6 s7 → Q s7) →
            wpAny (model X.prog X.w) X.A (do bindName X.env n .none; unbindBehindTheSuite X.env n p2) (fun _ s7 => Q s7) X.xe s6 := fun S6 q => gone_ok (S6.unsuite ok) nd h1 h2 q
        cases f with
        | ret u => exact let ⟨_, _, _, S6, r6, q6⟩ := sp; off S6 fun s7 J7 => ⟨_, _, _, J7, r6, q6⟩
        | next => exact let ⟨_, _, S6, q6⟩ := sp; off S6 fun s7 J7 => ⟨_, _, J7, q6⟩
        | brk => exact let ⟨_, _, S6, q6⟩ := sp; off S6 fun s7 J7 => ⟨_, _, J7, q6⟩
        | cont => exact let ⟨_, _, S6, q6⟩ := sp; off S6 fun s7 J7 => ⟨_, _, J7, q6⟩
/-- try: body, then such clauses -/
theorem ps_try_cl {body : List Stmt} {h0 : ExceptHandler} {hds : List ExceptHandler} {l : List Cl} {pos : Pos} {tb : WX → TS} (hs : X.stack = X.env :: X.outer) (hf : X.env.frame = some X.env.locals) (nd : X.N.Nodup) (tk : Takes X Wo)
    (hb : ∀ (W : WX) (pn : List (Addr × Obj)) (xe : Value → Shared → Prop), Takes (X.tr pn xe) W → PassesOwn (model X.prog X.w) X.A X.env xe → PSs (X.tr pn xe) body (tb W)) (cl : CLs X (h0 :: hds) l) :
    PS X (.Try body (h0 :: hds) [] [] pos) (fun D σ H => tb (wCl X.K Wo D l) D σ H) := by
  refine ⟨fun pins s σ H D I h => wpAny_Try_except (wpAny_mono ((hb (wCl X.K Wo D l) (X.pn ++ pins) (fun e s₁ => wpAny (model X.prog X.w) X.A (noteFrame e X.env) (fun _ s₂ => wpAny (model X.prog X.w) X.A (setFlight e none)
    (fun _ s₃ => wpAny (model X.prog X.w) X.A (handleBy e X.env (h0 :: hds)) (SP X pins D) X.xe s₃) X.xe s₂) X.xe s₁) (fun u s' xx => ?_) PassesOwn.looking).run [] s σ H D (I.toTry _) h) (fun f s1 sp => ?_) fun _ _ z => z)⟩
  · obtain ⟨a, B, sI, pins', τ, H', cls, d, rfl, J', nb, up, sky, na, os, ag, w⟩ := xx
    have fr : X.A.frames = some (X.env :: X.outer) := by rw [I.ok.frames, hs]
    refine Sky.land Zc.steady fr hf (show Sky B (X.env :: X.outer) a (Zc cls d) X.env.locals s'.heap by rw [← hs]; exact sky) fun h3 fl up3 => ?_
    obtain ⟨o3, v3, e3, _, d3⟩ := fl.there
    have nfr : a ∉ frs (X.env :: X.outer) := fun hm => by
      obtain ⟨_, o', q, nf⟩ := fl.2.2.1.mem hm
      rw [e3] at q; cases q
      exact nf _ d3
    refine cl_walk (s' := { s' with heap := h3 }) hs hf nd tk (J'.ofTry I.ok) nb (up.trans up3) na os ag fl (fun z => nfr (List.mem_filterMap.mpr ⟨X.env, List.mem_cons_self, by rw [hf, z]⟩)) (fun hm => ?_) cl w
    obtain ⟨e, he, q⟩ := List.mem_filterMap.mp hm
    exact nfr (List.mem_filterMap.mpr ⟨e, List.mem_cons_of_mem _ he, q⟩)
  · cases f with
    | next => exact let ⟨_, _, J, q⟩ := sp; wpAny_execs_nil ⟨_, _, J.ofTry I.ok, q⟩
    | ret u => exact let ⟨_, _, _, J, r, q⟩ := sp; ⟨_, _, _, J.ofTry I.ok, r, q⟩
    | brk => exact let ⟨_, _, J, q⟩ := sp; ⟨_, _, J.ofTry I.ok, q⟩
    | cont => exact let ⟨_, _, J, q⟩ := sp; ⟨_, _, J.ofTry I.ok, q⟩
end
end EV

set_option Elab.async false
set_option linter.all false
set_option maxRecDepth 100000
set_option maxHeartbeats 2000000
/-! EV, part Ke: own exception classes over a built-in one whose __new__ is its base's (KeyError). -/
namespace EV
open PySem PySem.Spec PyProof.Rows PySem.W PySem.Calls PySem.HandSPX
/-- what is wanted of a built-in base B whose __new__ is O's -/
structure OwnF (O B newId initId : String) (bm : List Value) : Prop where
  ends : newId.endsWith ".__new__" = true
  owner : newId.dropRight 8 = O
  entry : entryFor table newId = some Builtin.«BaseException.__new__»
  quiet : newId.startsWith "lifetime." = false
  init : Slot B "__init__" initId
  initEntry : entryFor table initId = some Builtin.«BaseException.__init__»
  initKind : builtinKind initId = some .slot
  initRow : Manifest.signature? initId = some ⟨.positional, "*", B, .self, [⟨"args", .varPos, false⟩]⟩
  noStar : (B != "*") = true
  newSplit : splitId newId = some (O, "__new__")
  newKind : builtinKind newId = some .builtinFn
  newRow : Manifest.signature? newId = some ⟨.any, O, O, .cls, [⟨"args", .varPos, false⟩, ⟨"kwargs", .varKw, false⟩]⟩
  noStarO : (O != "*") = true
  hasO : bm.contains (.type O) = true
  hasB : bm.contains (.type B) = true
  hasBase : bm.contains (.type "BaseException") = true
  noAttr : bm.contains (.type "AttributeError") = false
  noName : bm.contains (.type "NameError") = false
  canon : Manifest.canonical newId = Manifest.canonical "BaseException.__new__"
theorem OwnF.of {B newId initId : String} {bm : List Value} (F : ExcBaseFacts B newId initId bm) : OwnF B B newId initId bm :=
  ⟨F.ends, F.owner, F.entry, F.quiet, F.init, F.initEntry, F.initKind, F.initRow, F.noStar, F.newSplit, F.newKind, F.newRow, F.noStar, F.hasB, F.hasB, F.hasBase, F.noAttr, F.noName, F.canon⟩
theorem own_KeyError : OwnF "LookupError" "KeyError" "LookupError.__new__" "KeyError.__init__" [.type "KeyError", .type "LookupError", .type "Exception", .type "BaseException", .type "object"] where
  ends := PySem.F.excBase_LookupError.ends
  owner := PySem.F.excBase_LookupError.owner
  entry := PySem.F.excBase_LookupError.entry
  quiet := PySem.F.excBase_LookupError.quiet
  init := .of (owner := "KeyError") (n := "__init__") (by rw [typeLookup_type, builtinLookup_eq_fast]; kernel_rfl) (by decide +kernel) (by decide +kernel) (by decide +kernel)
    (by first | exact .inl (by decide +kernel) | exact .inr (by decide +kernel)) (by rw [isSubtype_type]; kernel_rfl)
  initEntry := entryFor_alias (id' := "BaseException.__init__") (by rw [fastTable_eq_tree]; kernel_rfl) (by first | rfl | decide +kernel) (by decide +kernel) (by rw [fastTable_eq_tree]; kernel_rfl)
  initKind := by kernel_rfl
  initRow := by kernel_rfl
  noStar := by decide +kernel
  newSplit := PySem.F.excBase_LookupError.newSplit
  newKind := PySem.F.excBase_LookupError.newKind
  newRow := PySem.F.excBase_LookupError.newRow
  noStarO := by decide +kernel
  hasO := by decide +kernel
  hasB := by decide +kernel
  hasBase := by decide +kernel
  noAttr := by decide +kernel
  noName := by decide +kernel
  canon := PySem.F.excBase_LookupError.canon
theorem ownstore_KeyError : StoreFacts "KeyError" [.type "KeyError", .type "LookupError", .type "Exception", .type "BaseException", .type "object"] "object.__setattr__" "object" where
  mro := by kernel_rfl
  slot := .of (owner := "object") (n := "__setattr__") (by rw [typeLookup_type, builtinLookup_eq_fast]; kernel_rfl) (by decide +kernel) (by decide +kernel) (by decide +kernel)
    (by first | exact .inl (by decide +kernel) | exact .inr (by decide +kernel)) (by rw [isSubtype_type]; kernel_rfl)
  entry := PySem.F.store_LookupError.entry
  kind := by decide +kernel
  split := by decide +kernel
  hasOwner := by decide +kernel
  args := fun a b c => by unfold argsOk; kernel_rfl
  passes := fun self => by kernel_rfl
theorem ownkxs_KeyError : KxsFacts "KeyError" "KeyError.__init__" := ⟨by show builtinType _ = _; rw [builtinType_eq_fast]; kernel_rfl, by first | kernel_rfl | rfl⟩
section
variable {M : Model} {A : Around} {E : Value → Shared → Prop} {h : Heap} {g : Array GenState} {d : Drawn} {t : Nat} {os : OsState}
variable {nm q : Str} {C N : Addr} {bs bm bmB : List Value} {hdct : Bool} {sn : List Str} {sub : List Value} {ab : Bool} {col : Option Bool} {dd : Option Addr} {k0 k1 k2 k3 k5 : Option Value} {O B newId initId : String}
theorem check_new_ownF (F : OwnF O B newId initId bmB) (hT : ∀ X : String, bm.contains (.type X) = bmB.contains (.type X)) {rest : List Value} {Q : Unit → Shared → Prop}
    (hC : h.get? C = some (excClassObj nm q C N bs bm hdct sn sub ab col dd k0 k1 k2 k3 k5 newId)) (hq : Q () ⟨h, g, d, t, os⟩) : wpAny M A (checkBuiltinCall newId ⟨.ref C :: rest, []⟩) Q E ⟨h, g, d, t, os⟩ := by
  have hcont : (Value.ref C :: bm).contains (.type O) = true := by rw [List.contains_cons, hT, F.hasO, Bool.or_true]
  have hstar := F.noStarO
  simp only [checkBuiltinCall, F.newKind, F.newSplit, F.newRow]
  repeat (first | refine wpAny_loadPart_at hC ?_ | (refine wpAny_isSubtype_exc hC ?_; rw [hcont]) | refine wpAny_staticBase_exc hC ?_ | refine wpAny_madeBy_exc hC ?_ | simp only [bne_self_eq_false, Bool.false_eq_true, if_false] | wp_step)
  exact hq
theorem check_bound_initF (F : OwnF O B newId initId bmB) {e : Addr} {oe : Obj} {rest : List Value} {Q : Unit → Shared → Prop}
    (hC : h.get? C = some (excClassObj nm q C N bs bm hdct sn sub ab col dd k0 k1 k2 k3 k5 newId)) (he : h.get? e = some oe) (hcls : oe.cls = .ref C) (hq : Q () ⟨h, g, d, t, os⟩) : wpAny M A (checkBoundCall initId ⟨.ref e :: rest, []⟩) Q E ⟨h, g, d, t, os⟩ := by
  have hshort := F.noStar
  simp only [checkBoundCall, F.initKind, F.initRow]
  repeat (first | (with_reducible refine wpAny_loadPart_at he ?_; rw [hcls]) | with_reducible refine wpAny_loadPart_at hC ?_ | wp_step)
  refine wpAny_onRaise ?_
  rw [show ∀ (a b : String) (n : Nat), Bind.check ⟨.positional, "*", B, .self, [⟨"args", .varPos, false⟩]⟩ a b n (List.map (fun x => x.fst) ({ pos := Value.ref e :: rest } : Args).kw) = pure () from
    fun a b n => check_star_args _ _ _ _ _ _]
  exact wpAny_pure hq
end
section
variable {prog : Program} {w : World} {A : Around} {E : Value → Shared → Prop} {R : Result → Shared → Prop} {h : Heap} {g : Array GenState} {d : Drawn} {t : Nat} {os : OsState}
variable {nm q : Str} {C N : Addr} {bs bm bmB : List Value} {hdct : Bool} {sn : List Str} {sub : List Value} {ab : Bool} {col : Option Bool} {dd : Option Addr} {k0 k1 k2 k3 k5 : Option Value} {O B newId initId : String}
theorem new_ownF (F : OwnF O B newId initId bmB) (hT : ∀ X : String, bm.contains (.type X) = bmB.contains (.type X)) {rest : List Value}
    (hC : h.get? C = some (excClassObj nm q C N bs bm hdct sn sub ab col dd k0 k1 k2 k3 k5 newId))
    (hq : R (.ok (.ret (.ref (h.objs.size + 1)))) ⟨(h.push { cls := .type "tuple", data := .seq rest.toArray }).push
      { cls := .ref C, data := .fields #[.ref h.objs.size, .none, .none, .none, .bool false, .none] }, g, d, t, os⟩) (hrest : rest.length ≤ sizeLine) :
    codeAny (model prog w) A (.builtin newId ⟨.ref C :: rest, []⟩) R ⟨h, g, d, t, os⟩ := by
  have hends := F.ends
  have hcB : (Value.ref C :: bm).contains (.type O) = true := by rw [List.contains_cons, hT, F.hasO, Bool.or_true]
  have hcA : (Value.ref C :: bm).contains (.type "AttributeError") = false := by rw [List.contains_cons, hT, F.noAttr]; rfl
  have hcN : (Value.ref C :: bm).contains (.type "NameError") = false := by rw [List.contains_cons, hT, F.noName]; rfl
  refine codeAny_builtinAt F.entry ?_
  unfold Builtin.«BaseException.__new__»
  refine _root_.PySem.wpAt_bind ?_
  show _root_.PySem.wpAt _ _ _ (stack >>= _) _ _ _
  refine _root_.PySem.wpAt_bind (_root_.PySem.wpAt_stack fun p below => _root_.PySem.wpAt_of_wpAny ?_)
  wp_walk
  refine _root_.PySem.wpAt_of_wpAny ?_
  rw [F.owner]
  repeat (first | with_reducible refine wpAny_madeHere_exc F.canon hC ?_ | with_reducible refine wpAny_loadPart_at hC ?_ | (with_reducible refine wpAny_isSubtype_exc hC ?_; first | rw [hcB] | rw [hcA] | rw [hcN]) | wp_step)
  show R _ _
  rw [Heap.size_push]
  exact hq
theorem type_call_ownF (F : OwnF O B newId initId bmB) (hT : ∀ X : String, bm.contains (.type X) = bmB.contains (.type X)) {rest : List Value} {fI : Addr} {Q : Fin → Shared → Prop}
    (hC : h.get? C = some (excClassObj nm q C N bs bm hdct sn sub ab col dd k0 k1 k2 k3 k5 newId))
    (hi : W.Looks (model prog w) h (typeLookup (.ref C) "__init__") (some (.ref fI))) (hb : ∀ self, W.Looks (model prog w) h (bindSpecial (.ref fI) self) (.ref fI, [self])) (hrest : rest.length ≤ sizeLine)
    (hq : codeAny (model prog w) A (.call (.ref fI) ⟨.ref (h.objs.size + 1) :: rest, []⟩)
      (fun r s' => match r with | .ok (.ret v) => v = .none ∧ Q (.done (.ret (.ref (h.objs.size + 1)))) s' | .ok _ => False | .error e => E e s')
      ⟨(h.push (W.kdv_tup rest)).push (excO C h.objs.size), g, d, t, os⟩) :
    wpAny (model prog w) A (Builtin.«type.__call__» ⟨.ref C :: rest, []⟩) Q E ⟨h, g, d, t, os⟩ := by
  repeat (first | with_reducible refine wpAny_loadPart_at hC ?_ | with_reducible refine wpAny_madeBy_exc hC ?_ | wp_step)
  refine codeAny_call_builtin_code (Code.quiet_builtin _ F.quiet) (check_new_ownF F hT hC ?_)
  refine new_ownF F hT hC ?_ hrest
  show wpAny _ _ _ _ _ _
  have k : ∀ b o, h.get? b = some o → ((h.push (W.kdv_tup rest)).push (excO C h.objs.size)).get? b = some o := fun b o e => Heap.get?_push_of_some _ (Heap.get?_push_of_some _ e)
  have hC₁ := k _ _ hC
  have hget : ((h.push (W.kdv_tup rest)).push (excO C h.objs.size)).get? (h.objs.size + 1) = some (excO C h.objs.size) := by heap_get
  have hcC : (Value.ref C :: bm).contains (.ref C) = true := by simp
  have i1 := hi.keeps k
  have b1 := (hb (.ref (h.objs.size + 1))).keeps k
  unfold isInstance
  repeat (first | with_reducible refine wpAny_loadPart_at hget ?_ | (with_reducible refine wpAny_isSubtype_exc hC₁ ?_; rw [hcC]) | wp_step)
  show wpAny _ _ (typeLookup (.ref C) _) _ _ _
  refine i1.at ?_
  refine wpAny_holding (wpAny_bind (b1.at ?_))
  refine wpAny_bind (wpAny_call (codeAny_mono hq fun r s' z => ?_))
  rcases r with e | (v | _ | _ | _) <;> first | exact z | exact z.elim | skip
  obtain ⟨rfl, z⟩ := z
  first
    | exact wpAny_pure (wpAny_pure z)
    | (wp_walk; exact z)
theorem call_ownF (F : OwnF O B newId initId bmB) (hT : ∀ X : String, bm.contains (.type X) = bmB.contains (.type X)) {rest : List Value} {fI : Addr}
    (hC : h.get? C = some (excClassObj nm q C N bs bm hdct sn sub ab col dd k0 k1 k2 k3 k5 newId))
    (hi : W.Looks (model prog w) h (typeLookup (.ref C) "__init__") (some (.ref fI))) (hb : ∀ self, W.Looks (model prog w) h (bindSpecial (.ref fI) self) (.ref fI, [self])) (hrest : rest.length ≤ sizeLine)
    (hq : codeAny (model prog w) (A.under (.builtin "type.__call__" ⟨.ref C :: rest, []⟩)) (.call (.ref fI) ⟨.ref (h.objs.size + 1) :: rest, []⟩) (W.InitBack (h.objs.size + 1) R)
      ⟨(h.push (W.kdv_tup rest)).push (excO C h.objs.size), g, d, t, os⟩) :
    codeAny (model prog w) A (.call (.ref C) ⟨rest, []⟩) R ⟨h, g, d, t, os⟩ := by
  have f1 := tc_lookup
  have f2 := tc_bind (.ref C)
  have hTy : (⟨h, g, d, t, os⟩ : Shared).TypeIs (.ref C) "type" := ⟨_, hC, rfl⟩
  refine codeAny_of_tree ?_
  show wpAny _ _ (callAny (.ref C) _) _ _ _
  repeat (any_goals (first | assumption | with_reducible refine wpAny_loadPart_at hC ?_ | wp_step))
  refine ⟨rfl, ?_⟩
  refine codeAny_call_builtin_at (Code.quiet_builtin _ (by decide +kernel)) entry_typeCall (wpAny_check_type_call_sub hC (type_call_ownF F hT hC hi hb hrest ?_))
  refine codeAny_mono hq fun r s' z => ?_
  rcases r with e | (v | _ | _ | _) <;> exact z
end
section
variable {prog : Program} {w : World} {A : Around} {E : Value → Shared → Prop} {s : Shared} {h₀ : Heap} {L : Addr} {m : Str → Option Value} {news : List (Addr × Obj)} {K : Frag} {x C D so u : Addr} {ox : Obj} {odx : Option Obj} {O B i newId : String} {bmB : List Value}
theorem kxs_callF {t : Addr} {dv : Option Addr} {c2 : Value} {rest : List Value} {nw : Obj → List (Addr × Obj)} {Q : Value → Shared → Prop} (F : Fr h₀ L s.heap m) (X₀ : K.In h₀) (N : News h₀ L s.heap news) (FB : OwnF O B newId i bmB) (q : excInitIn K C bmB newId = true) (hm : (u, kxs_mw i x) ∈ news)
    (U : UpdF x (excObj C t dv c2) news nw) (hz : rest.length ≤ sizeLine)
    (h : ∀ t' h', Fr h₀ L h' m → News h₀ L h' ((t', excTup rest) :: nw (excObj C t' dv c2)) → (∀ p ∈ news, p.1 < t') → Q .none { s with heap := h' }) :
    wpAny (model prog w) A (call (.ref u) rest) Q E s := by
  obtain ⟨nm, N', qn, bs, bm, hdct, sn, sub, ab, col, dd, k0, k1, k2, k3, k5, hC, hT⟩ := excInit_of (X₀.keeps F.keep) q
  have hu := (N _ hm).1
  obtain ⟨pre, post, rfl, hg, a, b⟩ := U.split
  have he := (N (x, excObj C t dv c2) (by simp)).1
  have lt : ∀ p ∈ pre ++ (x, excObj C t dv c2) :: post, p.1 < s.heap.objs.size := fun p hp => Heap.lt_size (N p hp).1
  have fin : ∀ h', (∀ b o, b ≠ x → s.heap.get? b = some o → h'.get? b = some o) → h'.get? x = some (excObj C s.heap.objs.size dv c2) → h'.get? s.heap.objs.size = some (excTup rest) → Q .none { s with heap := h' } := fun h' k e' t' => by
    obtain ⟨oL, es, ep, hL, r⟩ := F.ns
    have xL : L ≠ x := fun z => (N (x, excObj C t dv c2) (by simp)).2.1 z.symm
    have xn : h₀.get? x = none := (N (x, excObj C t dv c2) (by simp)).2.2
    refine h s.heap.objs.size h' ⟨⟨oL, es, ep, k _ _ xL hL, r⟩, fun b o z => k b o (fun y => by rw [y, xn] at z; cases z) (F.keep b o z), F.above⟩ ?_ lt
    rw [hg]
    intro p hp
    rcases List.mem_cons.mp hp with rfl | hp
    · refine ⟨t', fun z => ?_, ?_⟩
      · have y := Heap.lt_size (show s.heap.get? L = some oL from hL)
        rw [← z] at y
        exact absurd y (Nat.lt_irrefl _)
      · cases z : h₀.get? s.heap.objs.size with
        | none => rfl
        | some o => exact absurd (Heap.lt_size (F.keep _ _ z)) (Nat.lt_irrefl _)
    rcases List.mem_append.mp hp with hp | hp
    · have y := N p (List.mem_append_left _ hp)
      exact ⟨k _ _ (a p hp) y.1, y.2⟩
    rcases List.mem_cons.mp hp with rfl | hp
    · exact ⟨e', (N (x, excObj C t dv c2) (by simp)).2⟩
    · have y := N p (List.mem_append_right _ (.tail _ hp))
      exact ⟨k _ _ (b p hp) y.1, y.2⟩
  obtain ⟨hh, g, d, tk, os⟩ := s
  refine wpAny_call (codeAny_of_tree ?_)
  show wpAny _ A.in1 (callAny (.ref u) ⟨rest, []⟩) _ _ _
  simp only [callAny]
  refine wpAny_bind (wpAny_load hu ?_)
  simp only [kxs_mw, show (Value.type "method-wrapper" == Value.type "method" || Value.type "method-wrapper" == Value.type "builtin_function_or_method" || Value.type "method-wrapper" == Value.type "method-wrapper") = true by decide, if_true]
  refine KFB.if_so (by decide) ?_
  refine wpAny_bind (check_bound_initF FB hC he rfl ?_)
  refine wpAny_bind (wpAny_pure (wpAny_pure ?_))
  refine ⟨plainId_quiet FB.init.plain _, codeAny_builtin FB.initEntry ?_⟩
  exact exc_init_tree (cls := .ref C) (t0 := t) (dv := dv) (c2 := c2) (c3 := .none) (b4 := .bool false) he hz fin
end
end EV

set_option Elab.async false
set_option linter.all false
set_option maxRecDepth 100000
set_option maxHeartbeats 2000000
/-! EV, part V: an own exception class whose __init__ hands a text on and keeps its one argument. -/
namespace EV
open PySem PySem.Spec PyProof.Rows PySem.W
/-- the parts of the text: a written one, the argument's repr, the argument (an int) itself -/
inductive FP where
  | c (m : Str) | r | p
  deriving Inhabited
def partB (x1 : Str) : FP → Expr → Bool
  | .c m, .Constant (.str z) _ _ => decide (z = m)
  | .r, .FormattedValue (.Name x _) 114 none _ => decide (x = x1)
  | .p, .FormattedValue (.Name x _) (-1) none _ => decide (x = x1)
  | _, _ => false
def partsB (x1 : Str) : List FP → List Expr → Bool
  | [], [] => true
  | f :: fs, e :: es => partB x1 f e && partsB x1 fs es
  | _, _ => false
/-- the body of such an __init__ -/
def iniB (x0 x1 fld : Str) (fp : List FP) : List Stmt → Bool
  | [.Expr (.Call (.Attribute (.Call (.Name s _) [] [] _) i ap) [.JoinedStr (e1 :: e2 :: es) _] [] cp) _, .Assign [.Attribute (.Name a _) f _] (.Name b _) _] =>
    (ap.endLine == cp.line) && decide (s = "super") && decide (i = "__init__") && decide (a = x0) && decide (f = fld) && decide (b = x1) && partsB x1 fp (e1 :: e2 :: es)
  | _ => false
def iniSc (x0 x1 : Str) (sc : Scope) : Bool :=
  decide (sc.kind = .function) && !sc.isCoroutine && !sc.isGenerator && sc.names.all (fun x => !decide (x.2 = .cell)) && decide (sc.names.lookup ("super" : Str) = some .globalImplicit) &&
    decide (sc.names.lookup ("__class__" : Str) = some .free) && decide (sc.names.lookup x0 = some .local) && decide (sc.names.lookup x1 = some .local) && !(x1 == ("__debug__" : Str)) && !(x0 == ("__debug__" : Str)) && !(x0 == x1)
/-- what a text's part is worth -/
def fpS (ru : Option Str) (pu : Option Str) : FP → Option Str
  | .c m => some m
  | .r => ru
  | .p => pu
def fpsOk (ru pu : Option Str) (acc : Str) : List FP → Bool
  | [] => true
  | f :: fs => match fpS ru pu f with
    | some y => decide ((acc ++ y).length ≤ sizeLine) && fpsOk ru pu (acc ++ y) fs
    | none => false
section
variable {prog : Program} {w : World} {A : Around} {E : Value → Shared → Prop} {s : Shared} {u : Value} {env : Env} {ru pu : Option Str} {x1 : Str}
/-- the later states: all objects kept -/
abbrev Later (s : Shared) (h : Heap) (t : Nat) : Shared := { s with heap := h, toks := t }
def KeepH (h h' : Heap) : Prop := ∀ b o, h.get? b = some o → h'.get? b = some o
/-- what is known of the argument: its repr, its text -/
structure Shows (prog : Program) (w : World) (A : Around) (s : Shared) (u : Value) (ru pu : Option Str) : Prop where
  r : ∀ y, ru = some y → y.length ≤ sizeLine → ∀ (E : Value → Shared → Prop) (h : Heap) (t : Nat) (Q : Value → Shared → Prop), KeepH s.heap h → (∀ h' k tk, KeepH h h' → Q (.str y k) (Later s h' tk)) → wpAny (model prog w) A (pyReprObj u) Q E (Later s h t)
  p : ∀ y, pu = some y → y.length ≤ sizeLine → ∀ (E : Value → Shared → Prop) (h : Heap) (t : Nat) (Q : Value → Shared → Prop), KeepH s.heap h → (∀ h' k tk, KeepH h h' → Q (.str y k) (Later s h' tk)) → wpAny (model prog w) A (formatField u Str.empty) Q E (Later s h t)
theorem parts_run (hn : ∀ (h : Heap) (t : Nat) (Q : Value → Shared → Prop) (pos : Pos), KeepH s.heap h → Q u (Later s h t) → wpAny (model prog w) A (eval (.Name x1 pos) env) Q E (Later s h t)) (sh : Shows prog w A s u ru pu) :
    ∀ (fp : List FP) (es : List Expr) (acc : Str) (h : Heap) (t : Nat) (R : Str → Shared → Prop), partsB x1 fp es = true → acc.length ≤ sizeLine → fpsOk ru pu acc fp = true → KeepH s.heap h →
      (∀ out h' t', out.length ≤ sizeLine → KeepH h h' → R out (Later s h' t')) → Joins (model prog w) A E (evalEach es env) acc R (Later s h t) := by
  intro fp
  induction fp with
  | nil =>
    intro es acc h t R hb hz _ kh k
    cases es with
    | nil => exact k acc h t hz fun _ _ e => e
    | cons => cases hb
  | cons f fp ih =>
    intro es acc h t R hb hz hf kh k
    cases es with
    | nil => cases hb
    | cons e es =>
    simp only [partsB, Bool.and_eq_true] at hb
    obtain ⟨hb1, hb2⟩ := hb
    unfold fpsOk at hf
    split at hf
    case h_2 => cases hf
    case h_1 y hy =>
    simp only [Bool.and_eq_true, decide_eq_true_eq] at hf
    obtain ⟨hf1, hf2⟩ := hf
    have hyl : y.length ≤ sizeLine := by
      have : (acc ++ y).length = acc.length + y.length := Str.length_append acc y
      omega
    show wpAny (model prog w) A (eval e env) _ E (Later s h t)
    have fin : ∀ (h' : Heap) (k' : Tok) (tk : Nat), KeepH h h' → ∃ z v, Value.str y k' = .str z v ∧ (acc ++ z).length ≤ sizeLine ∧ Joins (model prog w) A E (evalEach es env) (acc ++ z) R (Later s h' tk) := fun h' k' tk k2 =>
      ⟨y, k', rfl, hf1, ih es (acc ++ y) h' tk R hb2 hf1 hf2 (fun b o e => k2 b o (kh b o e)) fun out h3 t3 z k3 => k out h3 t3 z fun b o e => k3 b o (k2 b o e)⟩
    unfold partB at hb1
    split at hb1
    · rename_i m z j p
      have q := of_decide_eq_true hb1
      subst q
      cases hy
      exact wpAny_Constant_str (fin h _ _ fun _ _ e => e)
    · rename_i x p1 p2
      have q := of_decide_eq_true hb1
      subst q
      refine wpAny_FormattedValue_repr (hn h t _ _ kh (sh.r y hy hyl E h t _ kh fun h' k' tk k2 => ?_))
      exact wpAny_formatField_str (fin h' _ _ k2) (fin h' _ _ k2) hyl
    · rename_i x p1 p2
      have q := of_decide_eq_true hb1
      subst q
      exact wpAny_FormattedValue_plain (hn h t _ _ kh (sh.p y hy hyl E h t _ kh fun h' k' tk k2 => fin h' _ _ k2))
    · cases hb1
end
end EV
namespace EV
open PySem PySem.Spec PyProof.Rows PySem.W PySem.Calls
theorem news_on {g h h' : Heap} {L : Addr} {news : List (Addr × Obj)} (N : News g L h news) (k : KeepH h h') : News g L h' news := fun p hp => ⟨k _ _ (N p hp).1, (N p hp).2⟩
theorem fr_on {g h h' : Heap} {L : Addr} {m : Str → Option Value} (F : Fr g L h m) (k : KeepH h h') : Fr g L h' m := ⟨F.ns.keeps k, fun b o e => k b o (F.keep b o e), F.above⟩
/-- a dict of one name -/
theorem ns1_one {h : Heap} {dx : Addr} {x : Str} {hsh : Int} {tk : Tok} {u : Value} {n : Nat} (e : h.get? dx = some (dictOf [⟨hsh, .str x tk, u⟩] n)) : h.Ns1 dx (fun y => if y = x then some u else none) := by
  refine ⟨_, _, _, e, rfl, fun en he => ?_, ?_, fun y => ?_⟩
  · simp at he
    subst he
    exact ⟨_, _, rfl⟩
  · simp [UniqKeys]
  · have ne : ∀ a b : Str, (a == b) = decide (a = b) := fun a b => by
      by_cases q : a = b <;> simp [q]
    by_cases q : y = x
    · subst q
      simp [nsFind, findBy, Value.isStr]
    · have q2 : ¬ x = y := fun z => q z.symm
      simp [nsFind, findBy, Value.isStr, q, q2, ne]
section
variable {prog : Program} {w : World} {A : Around} {E : Value → Shared → Prop} {hp : Heap} {g : Array GenState} {d : Drawn} {t : Nat} {os : OsState} {K : Frag} {C fI cc cda : Addr} {x0 x1 fld : Str} {fp : List FP} {O B newId initId : String} {bmB : List Value}
  {name qual : Str} {params : Arguments} {body : List Stmt} {scope : Scope} {dV kV doc pm ct oc ccl cl : Value} {an od cdd cld : Option Addr} {osl ccs csl : Array (Option Value)} {vs : Array Value} {file : Str} {tf : Tok} {cdD : ClassData} {ar : Arg} {mg mb : Str → Option Value} {u : Value} {ru pu : Option Str}
theorem rd_loc {env : Env} {s : Shared} {m : Str → Option Value} {x : Str} {pos : Pos} {v : Value} {Q : Value → Shared → Prop} (hn : s.heap.Ns env.locals m) (hv : m x = some v) (h : Q v s) (hk : env.scope.kind = .function) (hl : env.kindOf x = some .local)
    (hd : (x == ("__debug__" : Str)) = false) : wpAny (model prog w) A (eval (.Name x pos) env) Q E s := wpAny_Name (wpAny_loadName_local hk hl hn hv h) hd
/-- o.name(e), o read in a way of its own -/
theorem at_meth {c : Code} {env : Env} {s : Shared} {o e : Expr} {name : Str} {apos pos : Pos} {Q : Value → Shared → Prop} (hline : (apos.endLine == pos.line) = true) (hst : starEach [e] env = [(false, eval e env)])
    (h : _root_.PySem.wpAt (model prog w) A c (attributeBase o name env (eval o env)) (fun ov s₁ => wpAny (model prog w) A (calleeOf true o env ov name) (fun fx s₂ => wpAny (model prog w) A (callWith pos fx.1 fx.2 (backTo pos (starEach [e] env)) []) Q E s₂) E s₁) E s) :
    _root_.PySem.wpAt (model prog w) A c (eval (.Call (.Attribute o name apos) [e] [] pos) env) Q E s := by
  rw [arm_eval_Call]
  refine _root_.PySem.wpAt_bind (_root_.PySem.wpAt_mono h (fun ov s₁ h₁ => _root_.PySem.wpAt_of_wpAny (wpAny_bind (wpAny_standAt ?_))) fun _ _ z => z)
  have form : methodCallForm ([e].length + ([] : List Keyword).length) (backTo pos (starEach [e] env)) (backToKw pos (keywordEach [] env)) = true := by
    rw [hst]; rfl
  have at_ : methodCallPos true o env apos pos = pure pos := by unfold methodCallPos; simp [hline]
  unfold methodCall
  rw [form]
  exact wpAny_bind (wpAny_holding (wpAny_mono h₁ (fun fx s₂ h₂ => wpAny_bind (wpAny_of_eq at_ h₂)) fun _ _ z => z))
/-- what the written part tells of such a class -/
structure IniK (K : Frag) (C fI cc cda : Addr) (fld : Str) (B newId initId : String) (bmB : List Value) : Prop where
  hi : findIn K (.ref C) "__init__" = some (some (.ref fI))
  q : excInitIn K C bmB newId = true
  hf : isFn K (.ref fI) = true
  sub : mroIn K C (.ref C) = some true
  sup : nsIn K mainGlobals "super" = some none
  opq : nsIn K cStatics "thirdparty.any" = some none
  hm : ks_superIn K C C "__init__" = some (some (.builtin initId))
  hB : subIn K (.ref C) (.type B) = some true
  sa : findIn K (.ref C) "__setattr__" = some (some (.builtin "object.__setattr__"))
  ov : excOver K C bmB = true
  tk : takerIn K C fld = some none
  hh : hasDictIn K C = true
theorem ini_call (FB : OwnF O B newId initId bmB) (SF : StoreFacts B bmB "object.__setattr__" "object") (KF : KxsFacts B initId) (T : IniK K C fI cc cda fld B newId initId bmB) (X : K.In hp)
    (lk : K.lookup fI = some ⟨oc, od, .func (ksFn name qual params body scope dV kV doc pm an (.ref cda) ct cc), osl⟩) (hcd : codeIn K (.ref cda) qual = true) (hcode : K.lookup cda = some ⟨ccl, cdd, .fields vs, ccs⟩) (hvs : vs[2]? = some (.str file tf)) (hfile : ((prog.main.file : Str) == file) = true)
    (hcell : K.lookup cc = some ⟨cl, cld, .cell (some (.ref C)), csl⟩) (hcls : clsIn K C = some cdD) (hbody : iniB x0 x1 fld fp body = true) (hsc : iniSc x0 x1 scope = true) (har : (params.posonlyargs ++ params.args).head? = some ar) (har2 : ar.arg = x0)
    (hbind : ∀ a b : Value, bindArgs (ksFn name qual params body scope dV kV doc pm an (.ref cda) ct cc) ⟨[a, b], []⟩ = pure [(x0, a), (x1, b)]) (htop : (prog.main.scope.names.lookup ("super" : Str)).isSome = false)
    (hroom : A.depth + 1 < recursionLimit) (hmg : hp.Ns mainGlobals mg) (hmb : hp.Ns builtinsNs mb) (hbt : ∀ x : Str, x ≠ "__name__" → mb x = bootBuiltins x) (hlim : hp.NoLimit) {Q : Value → Shared → Prop}
    (hfp : fpsOk ru pu Str.empty fp = true) (sh : ∀ env : Env, Shows prog w ((A.under (.builtin "type.__call__" ⟨[.ref C, u], []⟩)).deeper env) ⟨hp, g, d, t, os⟩ u ru pu)
    (hq : ∀ (e t1 dx : Addr) (h' : Heap) (tk : Nat), KeepH hp h' → hp.objs.size ≤ e → hp.objs.size ≤ dx → dx ≠ e → h'.get? e = some (excObj C t1 (some dx) .none) → h'.Ns1 dx (fun y => if y = fld then some u else none) → Q (.ref e) ⟨h', g, d, tk, os⟩) :
    wpAny (model prog w) A (call (.ref C) [u]) Q E ⟨hp, g, d, t, os⟩ := by
  obtain ⟨nm, N', qn, bs, bm, hdct, sn, sub, ab, col, dd, k0, k1, k2, k3, k5, hC, hT⟩ := excInit_of X T.q
  have hoI : hp.get? fI = some ⟨oc, od, .func (ksFn name qual params body scope dV kV doc pm an (.ref cda) ct cc), osl⟩ := X _ _ lk
  have hcI : oc = .type "function" := by
    have z : ((K.lookup fI).map (·.cls) == some (Value.type "function")) = true := T.hf
    rw [lk] at z
    simpa using z
  have hi' : Looks (model prog w) hp (typeLookup (.ref C) "__init__") (some (.ref fI)) := looks_findIn X T.hi
  refine wpAny_call (call_ownF FB hT hC hi' (fun self => exc_bind hoI hcI self) (by rw [sizeLine_eq]; simp) ?_)
  simp only [iniSc, Bool.and_eq_true, Bool.not_eq_true', decide_eq_true_eq, List.all_eq_true, decide_eq_false_iff_not] at hsc
  obtain ⟨⟨⟨⟨⟨⟨⟨⟨⟨⟨c1, c2⟩, c3⟩, c4⟩, c5⟩, c6⟩, c7⟩, c8⟩, c9⟩, c10⟩, c11⟩ := hsc
  have kp : KeepH hp ((hp.push (kdv_tup [u])).push (PySem.HandSPX.excO C hp.objs.size)) := fun b o e => Heap.get?_push_of_some _ (Heap.get?_push_of_some _ e)
  have K2 := X.keeps kp
  have he : ((hp.push (kdv_tup [u])).push (PySem.HandSPX.excO C hp.objs.size)).get? (hp.objs.size + 1) = some (excObj C hp.objs.size none .none) := by heap_get
  have ht : ((hp.push (kdv_tup [u])).push (PySem.HandSPX.excO C hp.objs.size)).get? hp.objs.size = some (excTup [u]) := by heap_get
  refine ks_codeAny_call_defAt (fd := ksFn name qual params body scope dV kV doc pm an (.ref cda) ct cc) (body := body) (binds := [(x0, .ref (hp.objs.size + 1)), (x1, u)]) ?_ (kp _ _ hoI) rfl (hlim.keeps kp) (codeRec_of K2 hcd) rfl (BindsTo.of_eq (hbind _ _)) (fun x hx => c4 x hx) ?_ (fun h₁ hns hk => ?_) c2 c3 c1
  · rw [L2.make_depth]
    exact hroom
  · intro y hy
    simp only [List.mem_cons, List.not_mem_nil, or_false] at hy
    rcases hy with rfl | rfl
    · exact c7
    · exact c8
  obtain ⟨h2, hh2⟩ : ∃ h2, h2 = (hp.push (kdv_tup [u])).push (PySem.HandSPX.excO C hp.objs.size) := ⟨_, rfl⟩
  rw [← hh2] at kp K2 he ht hns hk ⊢
  obtain ⟨e, hee⟩ : ∃ e, e = hp.objs.size + 1 := ⟨_, rfl⟩
  obtain ⟨t0, ht0⟩ : ∃ t0, t0 = hp.objs.size := ⟨_, rfl⟩
  rw [← hee] at he hns ⊢
  rw [← ht0] at he ht
  have net : e ≠ t0 := by omega
  have old : ∀ b o, hp.get? b = some o → b ∉ [e, t0] := fun b o z q => by
    have lt : @LT.lt Nat _ b hp.objs.size := Heap.lt_size z
    simp only [List.mem_cons, List.not_mem_nil, or_false] at q
    rcases q with q | q
    · have q' : @Eq Nat b e := q
      omega
    · have q' : @Eq Nat b t0 := q
      omega
  have F1 : Fr (hideAll h2 [e, t0]) h2.objs.size h₁ (fun y => [(x0, Value.ref e), (x1, u)].reverse.lookup y) := ⟨hns, fun b o z => hk b o (of_hideAll _ z), Nat.le_of_eq (hideAll_size _ _)⟩
  have N1 : News (hideAll h2 [e, t0]) h2.objs.size h₁ [(e, excObj C t0 none .none), (t0, excTup [u])] := fun p hp' => by
    simp only [List.mem_cons, List.not_mem_nil, or_false] at hp'
    rcases hp' with rfl | rfl
    · exact ⟨hk _ _ he, Nat.ne_of_lt (Heap.lt_size he), hideAll_none _ (by simp)⟩
    · exact ⟨hk _ _ ht, Nat.ne_of_lt (Heap.lt_size ht), hideAll_none _ (by simp)⟩
  have gk : ∀ b o, hp.get? b = some o → (hideAll h2 [e, t0]).get? b = some o := fun b o z => hideAll_get _ (kp b o z) (old b o z)
  have Kg : K.In (hideAll h2 [e, t0]) := X.keeps gk
  have hmg' : (hideAll h2 [e, t0]).Ns mainGlobals mg := hmg.keeps gk
  have hmb' : (hideAll h2 [e, t0]).Ns builtinsNs mb := hmb.keeps gk
  have hsn : mg "super" = none := mg_none_of X hmg T.sup
  generalize hideAll h2 [e, t0] = gg at F1 N1 gk Kg hmg' hmb'
  generalize h2.objs.size = L at F1 N1 ⊢
  have fin : ∀ (t1 dx : Addr) (h' : Heap) (tk : Nat), KeepH gg h' → @LT.lt Nat _ e dx → dx ≠ e → h'.get? e = some (excObj C t1 (some dx) .none) → h'.Ns1 dx (fun y => if y = fld then some u else none) → Q (.ref e) ⟨h', g, d, tk, os⟩ := fun t1 dx h' tk k n ne q1 q2 =>
    hq e t1 dx h' tk (fun b o z => k b o (gk b o z)) (show @LE.le Nat _ _ _ by omega) (show @LE.le Nat _ _ _ by omega) ne q1 q2
  clear hq hk hns he ht K2 kp old
  obtain ⟨m, hm⟩ : ∃ m : Str → Option Value, m = fun y => [(x0, Value.ref e), (x1, u)].reverse.lookup y := ⟨_, rfl⟩
  have mx0 : m x0 = some (.ref e) := by
    have q : (x0 == x1) = false := c11
    simp [hm, List.lookup, q]
  have mx1 : m x1 = some u := by simp [hm, List.lookup]
  rw [← hm] at F1
  clear hm
  unfold iniB at hbody
  split at hbody
  case h_2 => cases hbody
  case h_1 s' p0 p1 i' p2 e1 e2 es p3 p4 p5 a' p6 f' p7 b' p8 p9 =>
  simp only [Bool.and_eq_true, decide_eq_true_eq] at hbody
  obtain ⟨⟨⟨⟨⟨⟨hline, rfl⟩, rfl⟩, rfl⟩, rfl⟩, rfl⟩, hparts⟩ := hbody
  have b1 : bootBuiltins "super" = some (.type "super") := by decide +kernel
  have fk : ∀ {h : Heap}, KeepH gg h → K.In h := fun k b o z => k b o (Kg b o z)
  have ne0 : ("__init__" == ("__class__" : Str)) = false := by decide
  refine ks_wpAt_execs_cons (ks_wpAt_Expr_any (at_meth hline rfl ?_) (by show (scope.kind == .module && _) = false; rw [c1]; rfl))
  refine ks_wpAt_super_base (f := fI) (cc := cda) c5 c6 ne0 rfl (fk F1.keep _ _ lk) rfl har rfl (fk F1.keep _ _ hcode) rfl hvs hfile htop ?_
  refine ks_loadName_global c1 c5 (loadGlobal_builtin (hmg'.keeps F1.keep) hsn (hmb'.keeps F1.keep) ((hbt _ (by decide +kernel)).trans b1) ⟨rfl, ?_⟩)
  refine wpAny_loadName_free c1 c6 rfl ⟨_, fk F1.keep _ _ hcell, rfl⟩ ?_
  rw [har2]
  refine wpAny_loadName_local c1 c7 F1.ns mx0 ?_
  obtain ⟨oD, hD1, hD2⟩ : ∃ oD, h₁.get? C = some oD ∧ oD.data = .cls cdD := by
    unfold clsIn at hcls
    split at hcls
    · rename_i q1 q2 q3 q4 ho
      cases hcls
      exact ⟨_, fk F1.keep _ _ ho, rfl⟩
    · cases hcls
  refine ks_wpAny_isType_cls hD1 hD2 ⟨rfl, ?_⟩
  have I1 : InstAt h₁ e (excObj C t0 none .none) C none := InstAt.of_exc0 N1 (by simp)
  refine ks_wpAny_call_super hD1 hD2 I1.at_ I1.cls (fun c z => by cases z) (looks_mroIn (fk F1.keep) T.sub) (fun h2 so2 k2 => ?_)
  obtain ⟨F2, N2, l2⟩ := ks_newsPush (s := ⟨h₁, g, d, t + 2, os⟩) F1 N1 rfl so2 k2
  generalize h₁.objs.size = so at F2 N2 l2 ⊢
  have I2 : InstAt h2 e (excObj C t0 none .none) C none := InstAt.of_exc0 N2 (by simp)
  have nso : so ≠ e := fun z => by
    have := l2 (e, excObj C t0 none .none) (by simp)
    rw [z] at this
    exact absurd this (Nat.lt_irrefl _)
  refine kxs_method KF F2 Kg N2 (List.mem_cons_self ..) I2 T.opq T.hm T.hB ne0 fun q h3 F3 N3 l3 => ?_
  have nq : q ≠ e := fun z => by
    have := l3 (e, excObj C t0 none .none) (by simp)
    rw [z] at this
    exact absurd this (Nat.lt_irrefl _)
  refine kxs_callWith1 N3 (List.mem_cons_self ..) ?_
  show wpAny _ _ (spliced ((false, eval (.JoinedStr (e1 :: e2 :: es) p3) _) :: backTo p4 (starEach [] _))) _ _ _
  refine spliced_cons ?_
  have k03 : KeepH hp h3 := fun b o z => F3.keep b o (gk b o z)
  refine wpAny_JoinedStr (parts_run (s := ⟨h3, g, d, t + 2 + 1, os⟩) (x1 := b') (fun h tk Q pos k q => by exact rd_loc (m := m) (F3.ns.keeps k) mx1 q c1 c8 c9) ⟨fun y e1 e2 E h tk Q k q => ?_, fun y e1 e2 E h tk Q k q => ?_⟩ fp (e1 :: e2 :: es) Str.empty h3 _ _ hparts (Nat.zero_le _) hfp (fun _ _ z => z) fun out h4 tk4 hz k4 => ?_)
  · exact (sh _).r y e1 e2 E h tk Q (fun b o z => k b o (k03 b o z)) q
  · exact (sh _).p y e1 e2 E h tk Q (fun b o z => k b o (k03 b o z)) q
  refine ⟨hz, spliced_nil ?_⟩
  have F4 := fr_on F3 k4
  have N4 := news_on N3 k4
  refine ⟨kxs_at N4 (List.mem_cons_self ..), ?_⟩
  refine kxs_callF (t := t0) (dv := none) (c2 := .none) F4 Kg N4 FB T.q (List.mem_cons_self ..) (UpdF.tail nq (UpdF.tail nso (UpdF.head (by intro p hp'; simp at hp'; rw [hp']; exact Ne.symm net)))) (by rw [sizeLine_eq]; simp) fun t1 h5 F5 N5 l5 => ?_
  refine ks_wpAt_execs_cons (ks_wpAt_Assign_Attr ?_)
  refine _root_.PySem.wpAt_of_wpAny (rd_loc F5.ns mx1 (rd_loc F5.ns mx0 ?_ c1 c7 c10) c1 c8 c9)
  have nt1 : t1 ≠ e := fun z => by
    have := l5 (e, excObj C t0 none .none) (by simp)
    rw [z] at this
    exact absurd this (Nat.lt_irrefl _)
  refine set_exc0 (t := t1) (c2 := .none) (es' := [⟨PyData.keyHash w.params f', .str f' _, u⟩]) (n' := 1) SF F5 Kg N5 (by simp) T.sa T.ov T.tk T.hh rfl (UpdF.tail nt1 (UpdF.tail nq (UpdF.tail nso (UpdF.head (by intro p hp'; simp at hp'; rw [hp']; exact Ne.symm net))))) (by simp) fun dx h6 F6 N6 l6 => ?_
  refine _root_.PySem.wpAt_of_wpAny (wpAny_execs_nil ⟨rfl, ?_⟩)
  have nde : dx ≠ e := fun z => by
    have := l6 (e, excObj C t1 none .none) (by simp)
    rw [z] at this
    exact absurd this (Nat.lt_irrefl _)
  exact fin t1 dx h6 _ F6.keep (l6 (e, excObj C t1 none .none) (by simp)) nde (N6.get (by simp)) (ns1_one (N6.get (List.mem_cons_self ..)))
end
end EV

set_option Elab.async false
set_option linter.all false
set_option maxRecDepth 100000
set_option maxHeartbeats 2000000
/-! EV, part W: a def that is handed a lambda, calls it and tells its end in a word. -/
namespace EV
open PySem PySem.Spec PyProof.Rows L2 LamX
/-- the frame of the def that was handed the lambda -/
abbrev hEnv (qg : Str) (sg : Scope) (s : Shared) (g : Addr) (cdg : Value) : Env := envOfC qg sg s.heap.objs.size g cdg
section
variable {X : Cx} {pins : List (Addr × Obj)} {σ : L2.St} {H : Hp} {s : Shared}
/-- its call of what it was handed -/
theorem pe_hand {Ng : List Str} {qg : Str} {sg : Scope} {g f c' : Addr} {cdg pm ctv : Value} {params : Arguments} {body : Expr} {scope : Scope} {j i : Nat} {a : Str} {pn : List (Addr × Obj)} {xe : Value → Shared → Prop} {W : WX} {E : XK} {tb : TE} {p1 p2 : Pos}
    (I : Inv X pins σ H s) (L : LamS X.env.scope scope) (lf : s.heap.get? f = some (PySem.W.kla_obj "<lambda>" (X.env.qual ++ "<lambda>") params body scope (cloFrom X.env.cells scope.names []) pm c' ctv)) (nf : H f = none) (nfr : f ∉ frs X.stack)
    (bind : bindArgs (PySem.W.kla_fn "<lambda>" (X.env.qual ++ "<lambda>") params body scope (cloFrom X.env.cells scope.names []) pm (.ref c') ctv) ⟨[], []⟩ = pure [])
    (tk : Takes ((cxOf C8.CX0 X.prog X.w X.K X.mg X.base Ng qg sg g cdg X.A X.stack s H C8.E0).tr pn xe) W) (room : Room j (X.A.deeper (hEnv qg sg s g cdg)))
    (run : ∀ (s1 : Shared) (H1 : Hp), PE (lamCx X (X.A.deeper (hEnv qg sg s g cdg)) (hEnv qg sg s g cdg :: X.stack) s1 H1 E scope f c') body tb)
    (hN : Ng[i]? = some a) (hv : Vis sg a) (h1 : (a == ("__debug__" : Str)) = false) (h2 : (a == ("__classdict__" : Str)) = false) :
    PE ((cxOf C8.CX0 X.prog X.w X.K X.mg X.base Ng qg sg g cdg X.A X.stack s H C8.E0).tr pn xe) (.Call (.Name a p1) [] [] p2) (fun τ HZ Q => τ[i]? = some (some (.ref f)) ∧ HZ c' = some (CodeO c' (X.env.qual ++ "<lambda>")) ∧ (∀ cls d H', E cls d H' → W cls d τ H') ∧ tb σ HZ Q) := by
  refine ⟨fun pins2 s2 τ H2 Q I2 ⟨slot, hco, hW, ht⟩ => wpAny_Call_Name_kw (thn ((pe_var (pos := p1) (i := i) hN hv h1 h2).run pins2 s2 τ H2 (fun v H3 => v = .ref f ∧ H3 = H2) I2 ⟨.ref f, slot, rfl, rfl⟩) fun u s1 got => ?_)⟩
  obtain ⟨_, H3, I1, ru, rfl, eH⟩ := got
  rw [eH] at I1
  obtain rfl : u = Value.ref f := ru
  have un : Un (frs X.stack) [] H H2 s.heap s1.heap := I1.base
  have lf1 : s1.heap.get? f = some (PySem.W.kla_obj "<lambda>" (X.env.qual ++ "<lambda>") params body scope (cloFrom X.env.cells scope.names []) pm c' ctv) := un.keep f _ lf nf nfr (fun z => nomatch (show f ∈ ([] : List Addr) from z))
  obtain ⟨⟨oc, vs, tk0, hoc, hdc, hvc⟩, _, _⟩ := I1.hok c' _ hco
  refine PySem.W.callWith_F0 ⟨_, _, _, _, lf1⟩ (wpAny_call (codeAny_mono (R := CR (L2.CX X.prog X.w) (hEnv qg sg s g cdg :: X.stack) X.prog X.w H2 s1 Q E) ?_ fun r s3 hr => ?_))
  · show codeAny (model X.prog X.w) (X.A.deeper (hEnv qg sg s g cdg)) (.call (.ref f) ⟨[], []⟩) _ s1
    refine PySem.W.kla_callFunE room.depth lf1 rfl L.co L.gen rfl ⟨c', oc, vs, tk0, rfl, hoc, hdc, hvc⟩ ?_
    rw [bind]
    refine wpAny_pure (wpAny_newFunctionEnv (fun y hy => (L.own y hy).2) (fun y hy => absurd hy (by simp)) (fun h₁ hns hsb => ⟨I1.nolimit.fresh _ hsb, ?_⟩) L.kind)
    show codeAny _ _ (.expr body (lamEnv X scope s1.heap.objs.size f c')) _ _
    have J := lam_start2 (f := f) (c' := c') (E := E) (tk := s1.toks + ([] : List (Str × Value)).length) I L I1.env0 room.hd un hns fun b o e => hsb.extBut b o (Nat.ne_of_lt (Heap.lt_size e)) (Heap.get?_push_of_some _ e)
    refine PySem.W.kla_codeExpr (wpAny_mono ((run s1 H2).run [] _ _ H2 Q J ht) (fun v s4 hq => ?_) fun _ _ hq => hq)
    exact let ⟨_, _, J4, rv, q⟩ := hq; ⟨_, _, J4.os, J4.bare, J4.base, J4.hok, rv, q⟩
  · cases r with
    | error e => exact tk _ _ (XE.of_call I1 hW hr)
    | ok fl =>
      cases fl with
      | ret u => exact I1.after hr
      | next => exact hr.elim
      | brk => exact hr.elim
      | cont => exact hr.elim
/-- what the def's call wishes: te: the lambda's reading, by what is wished at an exception -/
def tTold (T : List (Addr × Str)) (K : PySem.W.Frag) (N : List Str) (ls : List Cl) (fine : Str) (te : XK → TE) : TE := fun σ H Q => Tabs T H ∧ ∀ H1, ExtN H H1 → Tabs T H1 →
  ∃ E : XK, te E σ H1 (fun _ H2 => Q (.str fine) H2) ∧ ∀ cls d H2 (f : Addr) (D : Ends), D.rt = Q → E cls d H2 → wCl K (fun _ _ _ _ => False) D ls cls d (L2.start N [.ref f]) H2
/-- x(lambda: body), x: try: return-less call of it / clauses / return fine -/
theorem pe_told {T : List (Addr × Str)} {x a fine : Str} {g c P : Addr} {j kc : Nat} {pg : Arguments} {sg : Scope} {dV kV doc pm cdv ct oc : Value} {an od : Option Addr} {osl : Array (Option Value)} {Ng : List Str} {h0 : ExceptHandler} {hds : List ExceptHandler} {ls : List Cl}
    {params : Arguments} {body : Expr} {scope : Scope} {te : XK → TE} {p lpos pos q1 q2 q3 q4 q5 q6 : Pos} (hg : Gl X x) (hm : X.mg x = some (.ref g)) (hk : PySem.W.keepIn X.K (.ref g) = true)
    (lk : X.K.lookup g = some ⟨oc, od, .func (PySem.W.fnOf x x pg [.Try [.Expr (.Call (.Name a q1) [] [] q2) q3] (h0 :: hds) [] [] q4, .Return (some (.Constant (.str fine) kc q5)) q6] sg dV kV doc pm an cdv ct), osl⟩)
    (hcg : PySem.W.codeIn X.K cdv x = true) (hb : L2.Binds X.K (PySem.W.fnOf x x pg [.Try [.Expr (.Call (.Name a q1) [] [] q2) q3] (h0 :: hds) [] [] q4, .Return (some (.Constant (.str fine) kc q5)) q6] sg dV kV doc pm an cdv ct) [a] []) (Sg : FnScope Ng [a] sg) (hNg : Ng[0]? = some a) (hva : Vis sg a)
    (cl : ∀ (s : Shared) (H : Hp), CLs (cxOf C8.CX0 X.prog X.w X.K X.mg X.base Ng x sg g cdv X.A X.stack s H C8.E0) (h0 :: hds) ls)
    (TB : TabB X.base X.mg c P) (hcode : X.env.code = .ref c) (hmT : (P, X.env.qual ++ "<lambda>") ∈ T) (hu : ∀ p ∈ T, p.1 = P → p.2 = X.env.qual ++ "<lambda>") (room : Room (j + 1) X.A) (L : LamS X.env.scope scope) (hdef : defaultsOf params X.env = ([], []))
    (hbind : ∀ (q : Str) (cl : List (Str × Addr)) (pm cv ctv : Value), bindArgs (PySem.W.kla_fn "<lambda>" q params body scope cl pm cv ctv) ⟨[], []⟩ = pure [])
    (run : ∀ (s : Shared) (f c' : Addr) (s1 : Shared) (H1 : Hp) (E : XK), PE (lamCx X (X.A.deeper (hEnv x sg s g cdv)) (hEnv x sg s g cdv :: X.stack) s1 H1 E scope f c') body (te E))
    (d1 : (x == ("__debug__" : Str)) = false) (d2 : (a == ("__debug__" : Str)) = false) (d3 : (a == ("__classdict__" : Str)) = false) :
    PE X (.Call (.Name x p) [.Lambda params body scope lpos] [] pos) (tTold T X.K Ng ls fine te) := by
  refine ⟨fun pins s σ H Q I ⟨hT, h⟩ => wpAny_Call_Name_kw (ld_glob I hg hm (PySem.W.callWith_K (h₀ := X.base) I.ok.mod.kin hk ?_ (by rfl) (by rfl)) d1)⟩
  show wpAny _ _ (spliced ((false, eval (.Lambda params body scope lpos) X.env) :: backTo pos (starEach [] X.env))) _ _ s
  refine Calls.spliced_cons (lam_make2 I TB hcode hmT hu hT hdef (L.has I.ok) fun f c' pm' ctv H1 s' I1 eN T1 lf nf nfr hco => Calls.spliced_nil ⟨I1.kIn, ?_⟩)
  obtain ⟨E, ht, hx⟩ := h H1 eN T1
  refine wpAny_call (codeAny_mono (R := CR C8.CX0 X.stack X.prog X.w H1 s' Q C8.E0) ?_ fun r s2 hq => ?_)
  · refine run_ofS (N := Ng) (ps := [a]) (us := [.ref f]) (vs := [.ref f]) lk hcg Sg room I1.env0 (hb s' [.ref f] I1.kIn rfl) (.cons rfl .nil) rfl fun room2 => ?_
    have s0 : (L2.start Ng [V.ref f])[0]? = some (some (V.ref f)) := by
      simp [L2.start]
    refine ⟨_, (pss_cons (ps_try_cl (Wo := fun _ _ _ _ => False) (tb := fun W D τ H2 => τ[0]? = some (some (.ref f)) ∧ H2 c' = some (CodeO c' (X.env.qual ++ "<lambda>")) ∧ (∀ cls d H', E cls d H' → W cls d τ H') ∧ te E σ H2 fun _ H3 => D.nx τ H3) rfl rfl Sg.nd takes0 (fun W pn xe tk _ => ?_) (cl s' H1))
      (pss_one (ps_ret (pos := q6) pe_str))), ?_⟩
    · have pe := pe_hand (i := 0) (E := E) (tb := te E) I1 L lf nf nfr (hbind _ _ _ _ _) tk room2 (fun s1 H1 => run s' f c' s1 H1 E) hNg hva d2 d3 (p1 := q1) (p2 := q2)
      exact pss_one (ps_expr (pos := q3) pe)
    · exact ⟨s0, hco, fun cls d H' q => hx cls d H' f _ rfl q, ht⟩
  · cases r with
    | error e => exact (show False from hq).elim
    | ok fl =>
      cases fl with
      | ret u => exact I1.after hq
      | next => exact hq.elim
      | brk => exact hq.elim
      | cont => exact hq.elim
end
end EV

set_option Elab.async false
set_option linter.all false
set_option maxRecDepth 100000
/-! EV, part A: data, the small language, its evaluator. Plain functions, no program in sight. -/
namespace EV
open PySem L2
/-- data: what a Python value is, without addresses -/
inductive D where
  | non | bl (b : Bool) | int (i : Int) | str (x : Str) | obj (k : Nat)
  | tup (xs : List D) | lst (xs : List D) | scr (xs : List D) | dct (kvs : List (Int × Int))
  | dK (ks : List Key) (ds : List D) | dT (ks : List (List Key)) (ds : List D) | ktp (k : List Key)
  | er0 (k : Nat) | er1 (k : Nat) (f : Str) (d : D)
  deriving Inhabited
def keyPy : Key → PyData
  | .inl i => .int i
  | .inr x => .str x
mutual
def toPy : D → Option PyData
  | .non => some .none
  | .bl b => some (.bool b)
  | .int i => some (.int i)
  | .str x => some (.str x)
  | .obj _ => none
  | .tup xs => (toPys xs).map .tuple
  | .lst xs => (toPys xs).map .list
  | .scr _ => none
  | .dct _ => none
  | .dK _ _ => none
  | .dT _ _ => none
  | .ktp k => some (.tuple (k.map keyPy))
  | .er0 _ => none
  | .er1 _ _ _ => none
def toPys : List D → Option (List PyData)
  | [] => some []
  | x :: xs => (toPy x).bind fun p => (toPys xs).map (p :: ·)
end
/-- what a slot may hold: data, a changing object of the store, or a list of the def's lambdas (by number) -/
inductive Vl where
  | dat (d : D) | loc (n : Nat) | fns (ks : List Nat)
  deriving Inhabited
/-- a cell of the store: empty, a list, or a dict -/
inductive MO where
  | nil | lst (xs : List D) | dK (ks : List Key) (ds : List D) | dT (ks : List (List Key)) (ds : List D)
  deriving Inhabited
abbrev Sto := List MO
abbrev Slots := List (Option Vl)
/-- an exception in flight: its class by number, what it keeps -/
structure Xc where
  cls : Nat
  arg : Option D
inductive R (α : Type) where
  | ok (a : α) (m : Sto) | exc (x : Xc) (m : Sto) | bad
def R.bind {α β : Type} : R α → (α → Sto → R β) → R β
  | .ok a m, f => f a m
  | .exc x m, _ => .exc x m
  | .bad, _ => .bad
theorem R.bind_ok {α β : Type} (a : α) (m : Sto) (f : α → Sto → R β) : (R.ok a m).bind f = f a m := rfl
def R.ofO {α : Type} (o : Option α) (m : Sto) : R α := match o with | some a => .ok a m | none => .bad
/-- what a def hands back: a value, or a list that nobody else holds -/
inductive RV where
  | vl (v : Vl) | new (xs : List D)
abbrev Cal := Nat → List Vl → Sto → R RV

/-! ### the language -/
inductive Tg where
  | nm (i : Nat) | tp (ts : List Tg)
inductive IK where
  | seq | rng1 | rng2 | enum | zip | items
  deriving DecidableEq
inductive SK where
  | both | lo | hi | no
  deriving DecidableEq
inductive Bt where
  | len | abs | int | bool | max2 | min2 | tuple | list | all | any | repr | sum | max1 | min1 | sorted | ktuple
  deriving DecidableEq
mutual
inductive Ex where
  | var (i : Nat) | cst (d : D) | glo (g : Nat)
  | tup (es : List Ex) | lst (es : List Ex)
  | bin (op : Operator) (a b : Ex) | neg (a : Ex) | nt (a : Ex)
  | cmp (op : CmpOp) (a b : Ex) | chain (op op' : CmpOp) (a b c : Ex)
  | andl (es : List Ex) | orl (es : List Ex)
  | ite (c : Tx) (a b : Ex)
  | sub (a i : Ex) | slc (k : SK) (a : Ex) (es : List Ex) | rev (a : Ex)
  | call (k : Nat) (es : List Ex) | blt (b : Bt) (es : List Ex) | isi (a : Ex) (t : String)
  | comp (tg : Tg) (ik : IK) (src : List Ex) (ifs : List Tx) (elt : Ex)
  | lsts (fl : List Bool) (es : List Ex)
  | dct (kvs : List (Int × Int))
  | told (t : Nat) (e : Ex)
  | tolds (t i : Nat)
  | dget (a k e : Ex) | pop (i : Nat) | tups (fl : List Bool) (es : List Ex) | ktr (e : Ex)
  | mk0 (k : Nat) (e : Ex) | mk1 (k : Nat) (e : Ex) | att (e : Ex) (f : Str) | isx (e : Ex) (c : Nat) | isb (e : Ex) (t : String) | spl (e : Ex) (y : Str)
/-- a test -/
inductive Tx where
  | val (e : Ex) | cmp (op : CmpOp) (a b : Ex) | chain (op op' : CmpOp) (a b c : Ex) | nt (t : Tx) | andl (ts : List Tx) | orl (ts : List Tx)
end
/-- a step that makes a list of lambdas: a new one, with more behind, one more -/
inductive FG where
  | new (ks : List Nat) | add (ks : List Nat) | app (k : Nat)
/-- a new dict: empty with plain keys, empty with tuples as keys, one entry with a tuple as its key -/
inductive DX where
  | k0 | t0 | t1 (k v : Ex) | lit (ks : List Str) (es : List Ex)
/-- a part of a parallel store: a value, a new list, a new dict -/
inductive PX where
  | vl (e : Ex) | nl (c : Nat) (e : Ex) | nd (c : Nat) (t : Bool)
inductive St where
  | set (tg : Tg) (e : Ex)
  | par (ts : List Nat) (es : List Ex)
  | newl (i c : Nat) (e : Ex)
  | sset (i : Nat) (ix e : Ex)
  | app (i : Nat) (e : Ex)
  | frz (i : Nat)
  | aug (i : Nat) (op : Operator) (e : Ex)
  | ife (c : Tx) (a b : List St) | whl (c : Tx) (b : List St)
  | fort (tg : Tg) (ik : IK) (src : List Ex) (b : List St)
  | ret (e : Ex) | retn | retf (e : Ex)
  | brk | ctn | pas | exp (e : Ex) | never
  | rse (k : Nat) | rsk (k : Nat) (e : Ex)
  | grp (i : Nat) (gs : List FG)
  | newd (i c : Nat) (q : DX) | pnw (ts : List Nat) (ps : List PX)
  | upd (i : Nat) (ks : List Str) (es : List Ex) | trx (e : Ex) (cs : List (Nat × Str))

/-! ### operations on data -/
/-- a value as data, a changing list by what it holds now -/
def look (m : Sto) : Vl → Option D
  | .dat d => some d
  | .loc n => match m[n]? with
    | some (.lst xs) => some (.lst xs)
    | some (.dK ks ds) => some (.dK ks ds)
    | some (.dT ks ds) => some (.dT ks ds)
    | _ => none
  | .fns _ => none
/-! dicts -/
def dKey : Key → D
  | .inl i => .int i
  | .inr x => .str x
def keyD : D → Option Key
  | .int i => some (.inl i)
  | .str x => some (.inr x)
  | _ => none
def valD {κ α : Type} [DecidableEq κ] : List κ → List α → κ → Option α
  | k :: ks, d :: ds, j => if k = j then some d else valD ks ds j
  | _, _, _ => none
def putKs {κ : Type} [DecidableEq κ] (ks : List κ) (j : κ) : List κ := if (ks.any fun k => decide (k = j)) = true then ks else ks ++ [j]
def putA {κ α : Type} [DecidableEq κ] (ks : List κ) (as : List α) (j : κ) (a : α) : List α :=
  if (ks.any fun k => decide (k = j)) = true then List.zipWith (fun k b => if k = j then a else b) ks as else as ++ [a]
def isDic : Option D → Bool
  | some (.dK _ _) => true
  | some (.dT _ _) => true
  | _ => false
/-- what a dict holds at a key; none: not covered -/
def dgetD : D → D → Option (Option D)
  | .dK ks ds, k => (keyD k).map fun k => valD ks ds k
  | .dT ks ds, .ktp k => some (valD ks ds k)
  | _, _ => none
def insI (i : Int) : List Int → List Int
  | [] => [i]
  | j :: r => if i ≤ j then i :: j :: r else j :: insI i r
def sortI : List Int → List Int
  | [] => []
  | i :: r => insI i (sortI r)
/-- texts put in order -/
def insT (x : Str) : List Str → List Str
  | [] => [x]
  | y :: r => if PySem.Spec.ltCps y.cps.toList x.cps.toList = true then y :: insT x r else x :: y :: r
def sortT : List Str → List Str
  | [] => []
  | x :: r => insT x (sortT r)
def keyI : List Key → Option (List Int)
  | [] => some []
  | .inl i :: r => (keyI r).map (i :: ·)
  | .inr _ :: _ => none
def keysD : List D → Option (List Key)
  | [] => some []
  | d :: r => (keyD d).bind fun k => (keysD r).map (k :: ·)
def mulOk (i j : Int) : Bool := decide (i.natAbs.log2 + j.natAbs.log2 < 100000000)
def szOk (n : Nat) : Bool := decide (n ≤ sizeLine)
/-- many times a list -/
def times {α : Type} (n : Nat) (xs : List α) : List α := (List.replicate n xs).flatten
theorem times_nil {α : Type} (n : Nat) : times n ([] : List α) = [] := by
  unfold times
  induction n with
  | zero => rfl
  | succ n ih => rw [List.replicate_succ, List.flatten_cons, ih]; rfl
theorem times_one {α : Type} (xs : List α) : times 1 xs = xs := by
  simp [times]
def binD : Operator → D → D → Option D
  | .Add, .int i, .int j => some (.int (i + j))
  | .Add, .str x, .str y => if szOk (x.length + y.length) then some (.str (x ++ y)) else none
  | .Add, .tup xs, .tup ys => if szOk (xs.length + ys.length) then some (.tup (xs ++ ys)) else none
  | .Add, .lst xs, .lst ys => if szOk (xs.length + ys.length) then some (.lst (xs ++ ys)) else none
  | .Sub, .int i, .int j => some (.int (i - j))
  | .Mult, .int i, .int j => if mulOk i j then some (.int (i * j)) else none
  | .Mult, .tup xs, .int j => if -1000 ≤ j && j ≤ 1000 && decide (xs.length ≤ 1000) then some (.tup (times j.toNat xs)) else none
  | .Mult, .lst xs, .int j => if -16777216 < j && j < 16777216 && szOk (xs.length * j.toNat) then some (.lst (times j.toNat xs)) else none
  | .FloorDiv, .int i, .int j => if j = 0 then none else if Builtin.divisionGoesByPylong i j then none else some (.int (i.fdiv j))
  | .Mod, .int i, .int j => if j = 0 then none else some (.int (i.fmod j))
  | .Pow, .int i, .int j => if 0 ≤ j && decide ((Builtin.Int.intBits i : Int) * j ≤ 100000) then some (.int (i ^ j.toNat)) else none
  | _, _, _ => none
def dep64 (p : PyData) : Bool := SeqAt.shaped p
def eqD (d e : D) : Option Bool := (toPy d).bind fun p => (toPy e).bind fun q => if SeqAt.shaped p && SeqAt.shaped q then some (PyData.eqv p q) else none
/-- whether a datum is among some, nested ones too -/
def inD (d : D) (ds : List D) : Option Bool := (toPy d).bind fun p => (toPys ds).bind fun ps => if SeqAt.shaped p && SeqAt.shaped (.tuple ps) && SeqAt.shaped (.list ps) && decide (p.depth ≤ 40) then some (ps.any fun z => PyData.eqv z p) else none
def isNon : D → Bool
  | .non => true
  | _ => false
def strLe (a b : List Nat) : Bool := decide (¬ b < a)
def strsD : List D → Option (List Str)
  | [] => some []
  | .str x :: r => (strsD r).map (x :: ·)
  | _ => none
def intsD : List D → Option (List Int)
  | [] => some []
  | .int i :: r => (intsD r).map (i :: ·)
  | _ => none
def cmpD : CmpOp → D → D → Option Bool
  | .Eq, .str x, .str y => some (decide (x = y))
  | .NotEq, .str x, .str y => some (!decide (x = y))
  | .Eq, d, e => eqD d e
  | .NotEq, d, e => (eqD d e).map (!·)
  | .LtE, .str x, .str y => some (!decide (y.cps.toList < x.cps.toList))
  | .In, .str x, .str y => match x.cps.toList with
    | [c] => some (decide (c ∈ y.cps.toList))
    | _ => none
  | .NotIn, .str x, .str y => match x.cps.toList with
    | [c] => some (!decide (c ∈ y.cps.toList))
    | _ => none
  | .In, .int i, .tup ds => (intsD ds).map fun is => is.any fun j => j == i
  | .NotIn, .int i, .tup ds => (intsD ds).map fun is => !is.any fun j => j == i
  | .In, .int i, .ktp k => (keyI k).map fun is => is.any fun j => j == i
  | .NotIn, .int i, .ktp k => (keyI k).map fun is => !is.any fun j => j == i
  | .In, .str x, .tup ds => (strsD ds).map fun ys => ys.any fun y => y == x
  | .NotIn, .str x, .tup ds => (strsD ds).map fun ys => !ys.any fun y => y == x
  | .In, d, .tup ds => inD d ds
  | .NotIn, d, .tup ds => (inD d ds).map (!·)
  | .In, d, .lst ds => inD d ds
  | .NotIn, d, .lst ds => (inD d ds).map (!·)
  | .Lt, .int i, .int j => some (decide (i < j))
  | .LtE, .int i, .int j => some (decide (i ≤ j))
  | .Gt, .int i, .int j => some (decide (j < i))
  | .GtE, .int i, .int j => some (decide (j ≤ i))
  | .Is, d, .non => some (isNon d)
  | .IsNot, d, .non => some (!isNon d)
  | .Is, .bl a, .bl b => some (decide (a = b))
  | .IsNot, .bl a, .bl b => some (!decide (a = b))
  | _, _, _ => none
/-- truth -/
def truD : D → Option Bool
  | .non => some false
  | .bl b => some b
  | .int i => some (i != 0)
  | .str x => if szOk x.length then some ((x.length : Int) != 0) else none
  | .tup xs => some (!xs.isEmpty)
  | .lst xs => some (!xs.isEmpty)
  | _ => none
def ixD (n : Nat) (i : Int) : Option Nat := if 0 ≤ i then (if i < n then some i.toNat else none) else if -(n : Int) ≤ i then some (i + n).toNat else none
/-- the signs of a text, one by one -/
def signs (x : Str) : List D := x.cps.toList.map fun c => .str ⟨#[c]⟩
def subD : D → D → Option D
  | .str x, .int i => if szOk x.length then (ixD x.cps.toList.length i).bind fun j => (x.cps.toList[j]?).map fun c => .str ⟨#[c]⟩ else none
  | .tup xs, .int i => (ixD xs.length i).bind fun j => xs[j]?
  | .lst xs, .int i => (ixD xs.length i).bind fun j => xs[j]?
  | .scr xs, .int i => (ixD xs.length i).bind fun j => xs[j]?
  | .dK ks ds, k => (keyD k).bind fun k => valD ks ds k
  | .dT ks ds, .ktp k => valD ks ds k
  | _, _ => none
/-- a slice's end as a place among n -/
def endIx (n d : Nat) : Option Int → Nat
  | none => d
  | some v => if v < 0 then (v + (n : Int)).toNat else min v.toNat n
def cutD {α : Type} (xs : List α) (lo hi : Option Int) : List α := (xs.drop (endIx xs.length 0 lo)).take (endIx xs.length xs.length hi - endIx xs.length 0 lo)
def slcD (d : D) (lo hi : Option Int) : Option D := match d with
  | .tup xs => some (.tup (cutD xs lo hi))
  | .lst xs => some (.lst (cutD xs lo hi))
  | _ => none
def revD : D → Option D
  | .lst xs => some (.lst xs.reverse)
  | .tup xs => some (.tup xs.reverse)
  | _ => none
def allD : List D → Option Bool
  | [] => some true
  | .bl b :: r => (allD r).map (b && ·)
  | _ => none
def anyD : List D → Option Bool
  | [] => some false
  | .bl b :: r => (anyD r).map (b || ·)
  | _ => none
def reprD : D → Option Str
  | .dct kvs => let p := PyData.dict (kvs.map fun q => (PyData.int q.1, PyData.int q.2)); if p.showable && decide (p.depth ≤ 40) && szOk p.shown.length then some p.shown else none
  | d => (toPy d).bind fun p => if p.showable && decide (p.depth ≤ 40) && szOk p.shown.length && SeqAt.shaped p then some p.shown else none
def bltD : Bt → List D → Option D
  | .len, [.tup xs] => some (.int xs.length)
  | .len, [.lst xs] => some (.int xs.length)
  | .len, [.scr xs] => some (.int xs.length)
  | .len, [.str x] => if szOk x.length then some (.int x.length) else none
  | .abs, [.int i] => some (.int (if i < 0 then -i else i))
  | .int, [.int i] => some (.int i)
  | .int, [.bl b] => some (.int (if b then 1 else 0))
  | .bool, [.int i] => some (.bl (i != 0))
  | .bool, [.bl b] => some (.bl b)
  | .max2, [.int i, .int j] => some (.int (if j > i then j else i))
  | .min2, [.int i, .int j] => some (.int (if j < i then j else i))
  | .tuple, [.tup xs] => some (.tup xs)
  | .tuple, [.lst xs] => some (.tup xs)
  | .list, [.tup xs] => some (.lst xs)
  | .list, [.lst xs] => some (.lst xs)
  | .all, [.lst xs] => (allD xs).map .bl
  | .any, [.lst xs] => (anyD xs).map .bl
  | .repr, [d] => (reprD d).map .str
  | .sum, [.lst xs] => (intsD xs).map fun is => .int is.sum
  | .max1, [.lst xs] => (intsD xs).bind fun is => is.max?.map .int
  | .min1, [.lst xs] => (intsD xs).bind fun is => is.min?.map .int
  | .sorted, [.lst xs] => match intsD xs with
    | some is => some (.lst ((sortI is).map .int))
    | none => (strsD xs).bind fun ys => if decide (ys.length < 64) then some (.lst ((sortT ys).map .str)) else none
  | .sorted, [.dK ks _] => (keyI ks).bind fun is => if decide (is.length < 64) then some (.lst ((sortI is).map .int)) else none
  | .ktuple, [.lst xs] => (keysD xs).map .ktp
  | _, _ => none
def tyName : D → Option String
  | .non => some "NoneType"
  | .bl _ => some "bool"
  | .int _ => some "int"
  | .str _ => some "str"
  | .tup _ => some "tuple"
  | .lst _ => some "list"
  | .dct _ => some "dict"
  | .dK _ _ => some "dict"
  | _ => none
/-- isinstance(d, t), t a built-in type among these -/
def isiD (d : D) (t : String) : Option Bool := if ["int", "bool", "str", "tuple", "list", "dict"].contains t then (tyName d).map fun n => n == t || (n == "bool" && t == "int") else none
/-- what is walked: the items -/
def itemsD : D → Option (List D)
  | .tup xs => some xs
  | .lst xs => some xs
  | .ktp k => some (k.map dKey)
  | _ => none
def rngD (lo : Int) (n : Nat) : List D := (List.range n).map fun i => .int (lo + (i : Nat))
def inRg (i : Int) : Bool := -16777216 ≤ i && i ≤ 16777216
def isLst : D → Bool
  | .lst _ => true
  | _ => false
def walkD : IK → List D → Option (List D)
  | .seq, [.str x] => some (signs x)
  | .seq, [d] => itemsD d
  | .rng1, [.int j] => if inRg j then some (rngD 0 j.toNat) else none
  | .rng2, [.int i, .int j] => if inRg i && inRg j then some (rngD i (j - i).toNat) else none
  | .enum, [d] => (itemsD d).map fun xs => (xs.zipIdx).map fun p => .tup [.int (p.2 : Nat), p.1]
  | .zip, [d, e] => if isLst d == isLst e then (itemsD d).bind fun xs => (itemsD e).map fun ys => (xs.zip ys).map fun p => .tup [p.1, p.2] else none
  | .items, [.dK ks ds] => some ((ks.zip ds).map fun p => .tup [dKey p.1, p.2])
  | .items, [.dT ks ds] => some ((ks.zip ds).map fun p => .tup [.ktp p.1, p.2])
  | _, _ => none
def datsOf : List Vl → Option (List D)
  | [] => some []
  | .dat d :: r => (datsOf r).map (d :: ·)
  | .loc _ :: _ => none
  | .fns _ :: _ => none
def looks (m : Sto) : List Vl → Option (List D)
  | [] => some []
  | v :: r => (look m v).bind fun d => (looks m r).map (d :: ·)
mutual
/-- data stored at a target -/
def tgD : Tg → D → Slots → Option Slots
  | .nm i, d, s => if i < s.length then some (s.set i (some (.dat d))) else none
  | .tp ts, d, s => match d with
    | .tup xs => tgDs ts xs s
    | .lst xs => tgDs ts xs s
    | _ => none
def tgDs : List Tg → List D → Slots → Option Slots
  | [], [], s => some s
  | t :: ts, x :: xs, s => (tgD t x s).bind fun s' => tgDs ts xs s'
  | _, _, _ => none
end
mutual
def slotsOf : Tg → List Nat
  | .nm i => [i]
  | .tp ts => slotsOfs ts
def slotsOfs : List Tg → List Nat
  | [] => []
  | t :: ts => slotsOf t ++ slotsOfs ts
end
def wipeS (s : Slots) : List Nat → Slots
  | [] => s
  | i :: r => (wipeS s r).set i none

/-- the turns of a comprehension: f at each item; what it gives is kept, or dropped -/
def loopC (f : D → Sto → R (Option D)) : List D → List D → Sto → R (List D)
  | [], acc, m => .ok acc m
  | x :: xs, acc, m => (f x m).bind fun o m => match o with
    | some y => loopC f xs (acc ++ [y]) m
    | none => loopC f xs acc m

/-- the world: constants of the module by name and datum, defs -/
structure Fn where
  np : Nat
  ns : Nat
  nc : Nat
  dfl : List D
  body : List St
  lm : Bool
  lms : List Ex
/-- an exception class: its name; the field that it keeps its argument in, and its text, if it has an __init__ -/
structure Xk where
  g : Str
  fld : Str
  fp : Option (List FP)
  up : List Nat
  bs : List (String × Bool)
/-- a clause of a def that tells how a call ends -/
structure Tc where
  cls : Nat
  pre : Str
  keeps : Bool
structure Tl where
  fine : Str
  cs : List Tc
structure Wd where
  con : List (Str × D)
  fn : List Fn
  xk : List Xk
  tl : List Tl
  ap : Nat → Slots → Sto → R Vl
/-- a datum as a text without quotes: an int's -/
def plainD : D → Option Str
  | .int i => if i.natAbs.log2 < 1920 then some (Str.ofString (toString i)) else none
  | .non => some "None"
  | .bl b => some (if b then "True" else "False")
  | .str x => if szOk x.length then some x else none
  | .tup xs => reprD (.tup xs)
  | .lst xs => reprD (.lst xs)
  | _ => none
/-- may the class keep the datum -/
def keepB (W : Wd) (k : Nat) (d : D) : Bool := match W.xk[k]? with
  | some x => match x.fp with
    | some fp => fpsOk (reprD d) (plainD d) Str.empty fp
    | none => false
  | none => false
def plainB (W : Wd) (k : Nat) : Bool := match W.xk[k]? with
  | some x => x.fp.isNone
  | none => false
/-- is the class i the class j, or under it -/
def supX (xs : List Xk) (i j : Nat) : Bool := match xs[i]? with
  | some x => x.up.contains j
  | none => false
/-- an error that is held, asked for its class -/
def isK (v : Vl) (f : Nat → Option Bool) (m : Sto) : R Vl := match v with
  | .dat (.er0 k) => match f k with
    | some b => .ok (.dat (.bl b)) m
    | none => .bad
  | .dat (.er1 k _ _) => match f k with
    | some b => .ok (.dat (.bl b)) m
    | none => .bad
  | _ => .bad
def clsB (W : Wd) (c : Nat) (k : Nat) : Option Bool := if decide (k < W.xk.length) && decide (c < W.xk.length) then some (supX W.xk k c) else none
def bltB (W : Wd) (t : String) (k : Nat) : Option Bool := (W.xk[k]?).bind fun x => x.bs.lookup t
/-- a text's parts between a sign -/
def splS (x y : Str) : List Str := (TL.spl y.cps.toList 0 [] x.cps.toList).map fun l => ⟨l.toArray⟩
def sepOk (y : Str) : Bool := decide (y.length = 1) && y.cps.all (· < 128)
/-- the first clause that meets an exception: its text -/
def tryC (xs : List Xk) : List (Nat × Str) → Xc → Option Str
  | [], _ => none
  | c :: r, x => if supX xs x.cls c.1 = true then some c.2 else tryC xs r x
/-- what the clauses make of an exception -/
def tellC : List Tc → Xc → Option Str
  | [], _ => none
  | c :: r, x => if x.cls = c.cls then (if c.keeps then x.arg.bind fun d => (reprD d).bind fun y => if szOk (c.pre.length + y.length) then some (c.pre ++ y) else none else some c.pre) else tellC r x

/-- how a call ends, told -/
def tellR (T : Tl) : R Vl → R D
  | .ok _ m => .ok (.str T.fine) m
  | .exc x m => match tellC T.cs x with
    | some y => .ok (.str y) m
    | none => .bad
  | .bad => .bad
/-- how the calls of some lambdas end -/
def tellAll (T : Tl) (ap : Nat → Slots → Sto → R Vl) (s : Slots) : List Nat → Sto → R (List D)
  | [], m => .ok [] m
  | k :: ks, m => (tellR T (ap k s m)).bind fun y m => (tellAll T ap s ks m).bind fun ys m => .ok (y :: ys) m
def noX {α : Type} : R α → R α
  | .exc _ _ => .bad
  | r => r

mutual
def ev (W : Wd) (C : Cal) : Ex → Slots → Sto → R Vl
  | .var i, s, m => match s[i]? with
    | some (some (.dat d)) => .ok (.dat d) m
    | some (some (.loc n)) => .ok (.loc n) m
    | _ => .bad
  | .cst d, _, m => .ok (.dat d) m
  | .glo g, _, m => match W.con[g]? with
    | some p => .ok (.dat p.2) m
    | none => .bad
  | .tup es, s, m => (evs W C es s m).bind fun vs m => match datsOf vs with
    | some ds => if szOk ds.length then .ok (.dat (.tup ds)) m else .bad
    | none => .bad
  | .lst es, s, m => (evs W C es s m).bind fun vs m => match datsOf vs with
    | some ds => if szOk ds.length then .ok (.dat (.lst ds)) m else .bad
    | none => .bad
  | .bin op a b, s, m => (ev W C a s m).bind fun x m => (ev W C b s m).bind fun y m => match look m x, look m y with
    | some d, some e => (R.ofO (binD op d e) m).bind fun r m => .ok (.dat r) m
    | _, _ => .bad
  | .neg a, s, m => (ev W C a s m).bind fun x m => match x with
    | .dat (.int i) => .ok (.dat (.int (-i))) m
    | _ => .bad
  | .nt a, s, m => (ev W C a s m).bind fun x m => match x with
    | .dat (.bl b) => .ok (.dat (.bl (!b))) m
    | _ => .bad
  | .cmp op a b, s, m => (ev W C a s m).bind fun x m => (ev W C b s m).bind fun y m => match look m x, look m y with
    | some d, some e => (R.ofO (cmpD op d e) m).bind fun r m => .ok (.dat (.bl r)) m
    | _, _ => .bad
  | .chain op op' a b c, s, m => (ev W C a s m).bind fun x m => (ev W C b s m).bind fun y m => match x, y with
    | .dat d, .dat e => (R.ofO (cmpD op d e) m).bind fun r m => if r = true then (ev W C c s m).bind fun z m => match z with
        | .dat g => (R.ofO (cmpD op' e g) m).bind fun r m => .ok (.dat (.bl r)) m
        | _ => .bad
      else .ok (.dat (.bl false)) m
    | _, _ => .bad
  | .andl es, s, m => evAnd W C es s m
  | .orl es, s, m => evOr W C es s m
  | .ite c a b, s, m => (evT W C c s m).bind fun x m => if x = true then ev W C a s m else ev W C b s m
  | .sub a i, s, m => (ev W C a s m).bind fun x m => (ev W C i s m).bind fun y m => match look m x, y with
    | some d, .dat e => (R.ofO (subD d e) m).bind fun r m => .ok (.dat r) m
    | _, _ => .bad
  | .slc .both a [lo, hi], s, m => (ev W C a s m).bind fun x m => (ev W C lo s m).bind fun u m => match u with
    | .dat (.int i) => (ev W C hi s m).bind fun v m => match v with
      | .dat (.int j) => match look m x with
        | some d => (R.ofO (slcD d (some i) (some j)) m).bind fun r m => .ok (.dat r) m
        | none => .bad
      | _ => .bad
    | _ => .bad
  | .slc .lo a [lo], s, m => (ev W C a s m).bind fun x m => (ev W C lo s m).bind fun u m => match u with
    | .dat (.int i) => match look m x with
      | some d => (R.ofO (slcD d (some i) none) m).bind fun r m => .ok (.dat r) m
      | none => .bad
    | _ => .bad
  | .slc .hi a [hi], s, m => (ev W C a s m).bind fun x m => (ev W C hi s m).bind fun v m => match v with
    | .dat (.int j) => match look m x with
      | some d => (R.ofO (slcD d none (some j)) m).bind fun r m => .ok (.dat r) m
      | none => .bad
    | _ => .bad
  | .slc .no a [], s, m => (ev W C a s m).bind fun x m => match look m x with
    | some d => (R.ofO (slcD d none none) m).bind fun r m => .ok (.dat r) m
    | none => .bad
  | .slc _ _ _, _, _ => .bad
  | .rev a, s, m => (ev W C a s m).bind fun x m => match look m x with
    | some d => (R.ofO (revD d) m).bind fun r m => .ok (.dat r) m
    | none => .bad
  | .call k es, s, m => (evs W C es s m).bind fun vs m => (C k vs m).bind fun r m => match r with
    | .vl v => .ok v m
    | .new xs => .ok (.dat (.lst xs)) m
  | .blt b es, s, m => (evs W C es s m).bind fun vs m => match looks m vs with
    | some ds => (R.ofO (bltD b ds) m).bind fun r m => .ok (.dat r) m
    | none => .bad
  | .isi a t, s, m => (ev W C a s m).bind fun x m => match look m x with
    | some d => (R.ofO (isiD d t) m).bind fun r m => .ok (.dat (.bl r)) m
    | none => .bad
  | .lsts fl es, s, m => (evd W C fl es s m).bind fun ds m => if szOk ds.length then .ok (.dat (.lst ds)) m else .bad
  | .dct kvs, _, m => .ok (.dat (.dct kvs)) m
  | .told t e, s, m => match W.tl[t]? with
    | some T => match ev W C e s m with
      | .ok _ m => .ok (.dat (.str T.fine)) m
      | .exc x m => match tellC T.cs x with
        | some y => .ok (.dat (.str y)) m
        | none => .bad
      | .bad => .bad
    | none => .bad
  | .tolds t i, s, m => match W.tl[t]?, s[i]? with
    | some T, some (some (.fns ks)) => (tellAll T W.ap s ks m).bind fun ys m => .ok (.dat (.lst ys)) m
    | _, _ => .bad
  | .dget a k e, s, m => (ev W C a s m).bind fun x m => if isDic (look m x) = true then (ev W C k s m).bind fun y m => (ev W C e s m).bind fun z m => match look m x, y, z with
      | some d, .dat g, .dat f => match dgetD d g with
        | some (some r) => .ok (.dat r) m
        | some none => .ok (.dat f) m
        | none => .bad
      | _, _, _ => .bad
    else .bad
  | .pop i, s, m => match s[i]? with
    | some (some (.loc n)) => match m[n]? with
      | some (.lst xs) => match xs[xs.length - 1]? with
        | some d => .ok (.dat d) (m.set n (.lst xs.dropLast))
        | none => .bad
      | _ => .bad
    | _ => .bad
  | .tups fl es, s, m => (evd W C fl es s m).bind fun ds m => if szOk ds.length then .ok (.dat (.tup ds)) m else .bad
  | .ktr e, s, m => (ev W C e s m).bind fun x m => match x with
    | .dat (.int j) => if 0 ≤ j && j ≤ 1000 then .ok (.dat (.ktp ((List.range j.toNat).map fun (i : Nat) => (Sum.inl (i : Int) : Key)))) m else .bad
    | _ => .bad
  | .mk0 k e, s, m => (ev W C e s m).bind fun _ m => if plainB W k then .ok (.dat (.er0 k)) m else .bad
  | .mk1 k e, s, m => (ev W C e s m).bind fun v m => match v, W.xk[k]? with
    | .dat d, some x => if keepB W k d then .ok (.dat (.er1 k x.fld d)) m else .bad
    | _, _ => .bad
  | .att e f, s, m => (ev W C e s m).bind fun v m => match v with
    | .dat (.er1 k g d) => match W.xk[k]? with
      | some x => if decide (f = g) && decide (x.fld = g) && x.fp.isSome then .ok (.dat d) m else .bad
      | none => .bad
    | _ => .bad
  | .isx e c, s, m => (ev W C e s m).bind fun v m => isK v (clsB W c) m
  | .isb e t, s, m => (ev W C e s m).bind fun v m => isK v (bltB W t) m
  | .spl e y, s, m => (ev W C e s m).bind fun v m => match v with
    | .dat (.str x) => if sepOk y && decide (x.length ≤ 100000) then .ok (.dat (.lst ((splS x y).map .str))) m else .bad
    | _ => .bad
  | .comp tg ik src ifs elt, s, m => (evs W C src s m).bind fun vs m => match datsOf vs with
    | some ds => match walkD ik ds with
      | some xs => if szOk xs.length then (loopC (fun x m => match tgD tg x (wipeS s (slotsOf tg)) with
          | some s' => (noX (evIfs W C ifs s' m)).bind fun b m => if b = true then (noX (ev W C elt s' m)).bind fun v m => match v with
              | .dat d => .ok (some d) m
              | _ => .bad
            else .ok none m
          | none => .bad) xs [] m).bind fun ds m => .ok (.dat (.lst ds)) m else .bad
      | none => .bad
    | none => .bad
/-- the items of a display with stars: the flag tells a starred one -/
def evd (W : Wd) (C : Cal) : List Bool → List Ex → Slots → Sto → R (List D)
  | [], [], _, m => .ok [] m
  | true :: fl, e :: es, s, m => (ev W C e s m).bind fun x m => match (look m x).bind itemsD with
    | some xs => (evd W C fl es s m).bind fun ds m => .ok (xs ++ ds) m
    | none => .bad
  | false :: fl, e :: es, s, m => (ev W C e s m).bind fun x m => match x with
    | .dat d => (evd W C fl es s m).bind fun ds m => .ok (d :: ds) m
    | _ => .bad
  | _, _, _, _ => .bad
def evs (W : Wd) (C : Cal) : List Ex → Slots → Sto → R (List Vl)
  | [], _, m => .ok [] m
  | e :: es, s, m => (ev W C e s m).bind fun v m => (evs W C es s m).bind fun vs m => .ok (v :: vs) m
def evAnd (W : Wd) (C : Cal) : List Ex → Slots → Sto → R Vl
  | [], _, _ => .bad
  | [e], s, m => ev W C e s m
  | e :: e' :: es, s, m => (ev W C e s m).bind fun x m => match x with
    | .dat (.bl true) => evAnd W C (e' :: es) s m
    | .dat (.bl false) => .ok (.dat (.bl false)) m
    | _ => .bad
def evOr (W : Wd) (C : Cal) : List Ex → Slots → Sto → R Vl
  | [], _, _ => .bad
  | [e], s, m => ev W C e s m
  | e :: e' :: es, s, m => (ev W C e s m).bind fun x m => match x with
    | .dat (.bl false) => evOr W C (e' :: es) s m
    | .dat (.bl true) => .ok (.dat (.bl true)) m
    | _ => .bad
/-- the tests of a comprehension: none or one -/
def evIfs (W : Wd) (C : Cal) : List Tx → Slots → Sto → R Bool
  | [], _, m => .ok true m
  | [c], s, m => evT W C c s m
  | _, _, _ => .bad
/-- a test -/
def evT (W : Wd) (C : Cal) : Tx → Slots → Sto → R Bool
  | .val e, s, m => (ev W C e s m).bind fun x m => match (look m x).bind truD with
    | some b => .ok b m
    | none => .bad
  | .cmp op a b, s, m => (ev W C a s m).bind fun x m => (ev W C b s m).bind fun y m => match look m x, look m y with
    | some d, some e => R.ofO (cmpD op d e) m
    | _, _ => .bad
  | .chain op op' a b c, s, m => (ev W C a s m).bind fun x m => (ev W C b s m).bind fun y m => match x, y with
    | .dat d, .dat e => (R.ofO (cmpD op d e) m).bind fun r m => if r = true then (ev W C c s m).bind fun z m => match z with
        | .dat g => R.ofO (cmpD op' e g) m
        | _ => .bad
      else .ok false m
    | _, _ => .bad
  | .nt a, s, m => (evT W C a s m).bind fun x m => .ok (!x) m
  | .andl ts, s, m => evTAnd W C ts s m
  | .orl ts, s, m => evTOr W C ts s m
def evTAnd (W : Wd) (C : Cal) : List Tx → Slots → Sto → R Bool
  | [], _, _ => .bad
  | [t], s, m => evT W C t s m
  | t :: t' :: ts, s, m => (evT W C t s m).bind fun x m => if x = true then evTAnd W C (t' :: ts) s m else .ok false m
def evTOr (W : Wd) (C : Cal) : List Tx → Slots → Sto → R Bool
  | [], _, _ => .bad
  | [t], s, m => evT W C t s m
  | t :: t' :: ts, s, m => (evT W C t s m).bind fun x m => if x = true then .ok true m else evTOr W C (t' :: ts) s m
end

/-! ### statements -/
/-- how a statement ends -/
inductive Out where
  | nx (s : Slots) | ret (v : RV) | brk (s : Slots) | ctn (s : Slots)
/-- one turn of a comprehension -/
def turnC (W : Wd) (C : Cal) (tg : Tg) (ifs : List Tx) (elt : Ex) (s : Slots) (x : D) (m : Sto) : R (Option D) :=
  match tgD tg x (wipeS s (slotsOf tg)) with
  | some s' => (noX (evIfs W C ifs s' m)).bind fun b m => if b = true then (noX (ev W C elt s' m)).bind fun v m => match v with
      | .dat d => .ok (some d) m
      | _ => .bad
    else .ok none m
  | none => .bad
/-- a comprehension's list -/
def evC (W : Wd) (C : Cal) (tg : Tg) (ik : IK) (src : List Ex) (ifs : List Tx) (elt : Ex) (s : Slots) (m : Sto) : R (List D) :=
  (evs W C src s m).bind fun vs m => match datsOf vs with
    | some ds => match walkD ik ds with
      | some xs => if szOk xs.length then loopC (turnC W C tg ifs elt s) xs [] m else .bad
      | none => .bad
    | none => .bad
/-- a list made by an expression that makes a new one -/
def evN (W : Wd) (C : Cal) (e : Ex) (s : Slots) (m : Sto) : R (List D) :=
  match e with
  | .lst es => (evs W C es s m).bind fun vs m => match datsOf vs with
    | some ds => if szOk ds.length then .ok ds m else .bad
    | none => .bad
  | .comp tg ik src ifs elt => evC W C tg ik src ifs elt s m
  | .bin .Mult a b => (ev W C a s m).bind fun x m => (ev W C b s m).bind fun y m => match look m x, y with
    | some (.lst xs), .dat (.int j) => if -16777216 < j && j < 16777216 && szOk (xs.length * j.toNat) then .ok (times j.toNat xs) m else .bad
    | _, _ => .bad
  | .bin .Add a b => (ev W C a s m).bind fun x m => (ev W C b s m).bind fun y m => match look m x, look m y with
    | some (.lst xs), some (.lst ys) => if szOk (xs.length + ys.length) then .ok (xs ++ ys) m else .bad
    | _, _ => .bad
  | .blt .list [a] => (ev W C a s m).bind fun x m => match look m x with
    | some (.lst xs) => .ok xs m
    | some (.tup xs) => .ok xs m
    | _ => .bad
  | .call k es => (evs W C es s m).bind fun vs m => (C k vs m).bind fun r m => match r with
    | .new xs => .ok xs m
    | _ => .bad
  | _ => .bad
theorem ev_comp (W : Wd) (C : Cal) (tg : Tg) (ik : IK) (src : List Ex) (ifs : List Tx) (elt : Ex) (s : Slots) (m : Sto) :
    ev W C (.comp tg ik src ifs elt) s m = (evC W C tg ik src ifs elt s m).bind fun ds m => .ok (.dat (.lst ds)) m := by
  simp only [ev, evC]
  cases evs W C src s m with
  | ok vs m1 =>
    simp only [R.bind]
    cases datsOf vs with
    | none => rfl
    | some ds =>
      dsimp only
      cases walkD ik ds with
      | none => rfl
      | some xs =>
        dsimp only
        split
        · rfl
        · rfl
  | exc => rfl
  | bad => rfl
/-- no slot but i holds the object n -/
def freeOf (n i : Nat) : Nat → Slots → Bool
  | _, [] => true
  | j, some (.loc k) :: r => (k != n || j == i) && freeOf n i (j + 1) r
  | j, _ :: r => freeOf n i (j + 1) r
def locAt (s : Slots) (i : Nat) : Option Nat := match s[i]? with
  | some (some (.loc n)) => some n
  | _ => none
/-- every slot that holds the object n holds the datum -/
def frzS (n : Nat) (xs : D) : Slots → Slots
  | [] => []
  | some (.loc k) :: r => (if k = n then some (.dat xs) else some (.loc k)) :: frzS n xs r
  | x :: r => x :: frzS n xs r
/-- the store holds a list at n -/
def isLs (m : Sto) (n : Nat) : Bool := match m[n]? with
  | some (.lst _) => true
  | _ => false
/-- the store holds a dict at n -/
def isDk (m : Sto) (n : Nat) : Bool := match m[n]? with
  | some (.dK _ _) => true
  | _ => false
/-- a cell as data -/
def moD : MO → Option D
  | .nil => none
  | .lst xs => some (.lst xs)
  | .dK ks ds => some (.dK ks ds)
  | .dT ks ds => some (.dT ks ds)
/-- a cell written at a key -/
def ssetO : MO → D → D → Option MO
  | .lst xs, .int j, d => (ixD xs.length j).map fun p => .lst (xs.set p d)
  | .dK ks ds, k, d => (keyD k).bind fun k => if decide (ks.length < sizeLine) then some (.dK (putKs ks k) (putA ks ds k d)) else none
  | .dT ks ds, .ktp k, d => if decide (ks.length < sizeLine) then some (.dT (putKs ks k) (putA ks ds k d)) else none
  | _, _, _ => none
/-- parts of a parallel store, made -/
inductive PV where
  | vl (d : D) | nw (c : Nat) (o : MO)
def evP (W : Wd) (C : Cal) : List PX → Slots → Sto → R (List PV)
  | [], _, m => .ok [] m
  | .vl e :: r, s, m => (ev W C e s m).bind fun v m => match v with
    | .dat d => (evP W C r s m).bind fun ps m => .ok (.vl d :: ps) m
    | _ => .bad
  | .nl c e :: r, s, m => (evN W C e s m).bind fun xs m => (evP W C r s m).bind fun ps m => .ok (.nw c (.lst xs) :: ps) m
  | .nd c t :: r, s, m => (evP W C r s m).bind fun ps m => .ok (.nw c (if t = true then .dT [] [] else .dK [] []) :: ps) m
/-- .. and stored -/
def parP (b : Nat) : List Nat → List PV → Slots → Sto → Option (Slots × Sto)
  | [], [], s, m => some (s, m)
  | i :: is, .vl d :: ps, s, m => if i < s.length then parP b is ps (s.set i (some (.dat d))) m else none
  | i :: is, .nw c o :: ps, s, m => if i < s.length && b + c < m.length && freeOf (b + c) i 0 s then parP b is ps (s.set i (some (.loc (b + c)))) (m.set (b + c) o) else none
  | _, _, _, _ => none
def litOk (ks : List Str) (ds : List D) : Bool := decide (ks.length = ds.length)
/-- a dict with another one's entries -/
def updM {α : Type} : List Key → List α → List Key → List α → List Key × List α
  | ks, ds, k :: kr, d :: dr => updM (putKs ks k) (putA ks ds k d) kr dr
  | ks, ds, _, _ => (ks, ds)
/-- the entries of a display -/
def litM {α : Type} (ks : List Str) (ds : List α) : List Key × List α := updM [] [] (ks.map .inr) ds
/-- a new dict -/
def evD (W : Wd) (C : Cal) : DX → Slots → Sto → R MO
  | .lit ks es, s, m => (evs W C es s m).bind fun vs m => match datsOf vs with
    | some ds => if litOk ks ds then .ok (.dK (litM ks ds).1 (litM ks ds).2) m else .bad
    | none => .bad
  | .k0, _, m => .ok (.dK [] []) m
  | .t0, _, m => .ok (.dT [] []) m
  | .t1 k v, s, m => (ev W C k s m).bind fun x m => (ev W C v s m).bind fun y m => match x, y with
    | .dat (.ktp k), .dat d => .ok (.dT [k] [d]) m
    | _, _ => .bad
def parS : List Nat → List Vl → Slots → Option Slots
  | [], [], s => some s
  | i :: is, v :: vs, s => if i < s.length then parS is vs (s.set i (some v)) else none
  | _, _, _ => none
/-- the lambdas behind such steps -/
def capK (l : List Nat) : Option (List Nat) := if decide (l.length ≤ 1000) then some l else none
def stepK : Option (List Nat) → FG → Option (List Nat)
  | _, .new ks => capK ks
  | some l, .add ks => capK (l ++ ks)
  | some l, .app k => capK (l ++ [k])
  | none, _ => none
def grpK : Option (List Nat) → List FG → Option (List Nat)
  | o, [] => o
  | o, g :: r => match stepK o g with
    | some l => grpK (some l) r
    | none => none
def fnsAt : Option (Option Vl) → Option (List Nat)
  | some (some (.fns ks)) => some ks
  | _ => none
def grpF (o : Option (Option Vl)) (gs : List FG) : Option (List Nat) := match gs with
  | .app _ :: _ => none
  | gs => grpK (fnsAt o) gs
/-- a while, by its turn: some s: go on there; none: it is done at s -/
def whlF : Nat → (Slots → Sto → R (Out × Bool)) → Slots → Sto → R Out
  | 0, _, _, _ => .bad
  | n + 1, f, s, m => (f s m).bind fun o m => match o with
    | (.nx s', true) => whlF n f s' m
    | (.nx s', false) => .ok (.nx s') m
    | (o, _) => .ok o m
/-- a for, over its items -/
def forF (f : D → Slots → Sto → R Out) : List D → Slots → Sto → R Out
  | [], s, m => .ok (.nx s) m
  | x :: xs, s, m => (f x s m).bind fun o m => match o with
    | .nx s' => forF f xs s' m
    | .ctn s' => forF f xs s' m
    | .brk s' => .ok (.nx s') m
    | .ret v => .ok (.ret v) m
def whlMost : Nat := 2 ^ 40
mutual
def exs (W : Wd) (C : Cal) (b : Nat) : List St → Slots → Sto → R Out
  | [], s, m => .ok (.nx s) m
  | x :: r, s, m => (exS W C b x s m).bind fun o m => match o with
    | .nx s' => exs W C b r s' m
    | o => .ok o m
def exS (W : Wd) (C : Cal) (b : Nat) : St → Slots → Sto → R Out
  | .set (.nm i) e, s, m => (ev W C e s m).bind fun v m => if i < s.length then .ok (.nx (s.set i (some v))) m else .bad
  | .set (.tp ts) e, s, m => (ev W C e s m).bind fun v m => match v with
    | .dat d => (R.ofO (tgD (.tp ts) d s) m).bind fun s' m => .ok (.nx s') m
    | _ => .bad
  | .par ts es, s, m => (evs W C es s m).bind fun vs m => (R.ofO (parS ts vs s) m).bind fun s' m => .ok (.nx s') m
  | .newl i c e, s, m => (evN W C e s m).bind fun xs m => if i < s.length && b + c < m.length && freeOf (b + c) i 0 s then .ok (.nx (s.set i (some (.loc (b + c))))) (m.set (b + c) (.lst xs)) else .bad
  | .sset i ix e, s, m => match locAt s i with
    | none => .bad
    | some n => (ev W C e s m).bind fun v m => (ev W C ix s m).bind fun k m => match v, k with
      | .dat d, .dat j => match m[n]? with
        | some o => match ssetO o j d with
          | some o' => .ok (.nx s) (m.set n o')
          | none => .bad
        | none => .bad
      | _, _ => .bad
  | .app i e, s, m => match locAt s i with
    | none => .bad
    | some n => if isLs m n then (ev W C e s m).bind fun v m => match v with
      | .dat d => match m[n]? with
        | some (.lst xs) => if szOk (xs.length + 1) then .ok (.nx s) (m.set n (.lst (xs ++ [d]))) else .bad
        | _ => .bad
      | _ => .bad else .bad
  | .frz i, s, m => match locAt s i with
    | some n => if b ≤ n then (match (m[n]?).bind moD with
      | some d => .ok (.nx (frzS n d s)) (m.set n .nil)
      | none => .bad) else .bad
    | none => .ok (.nx s) m
  | .aug i op e, s, m => match s[i]? with
    | some (some (.dat d)) => (ev W C e s m).bind fun v m => match d, op, v with
      | .int x, .Add, .dat (.int y) => .ok (.nx (s.set i (some (.dat (.int (x + y)))))) m
      | .int x, .Sub, .dat (.int y) => .ok (.nx (s.set i (some (.dat (.int (x - y)))))) m
      | _, _, _ => .bad
    | _ => .bad
  | .ife c x y, s, m => (evT W C c s m).bind fun t m => if t = true then exs W C b x s m else exs W C b y s m
  | .whl c x, s, m => whlF whlMost (fun s m => (evT W C c s m).bind fun t m => if t = true then (exs W C b x s m).bind fun o m => match o with
      | .nx s' => .ok (.nx s', true) m
      | .ctn s' => .ok (.nx s', true) m
      | .brk s' => .ok (.nx s', false) m
      | .ret v => .ok (.ret v, false) m
    else .ok (.nx s, false) m) s m
  | .fort tg ik src x, s, m => (evs W C src s m).bind fun vs m => match datsOf vs with
    | some ds => match walkD ik ds with
      | some xs => if szOk xs.length then forF (fun d s m => match tgD tg d s with
          | some s' => exs W C b x s' m
          | none => .bad) xs s m else .bad
      | none => .bad
    | none => .bad
  | .ret e, s, m => (ev W C e s m).bind fun v m => .ok (.ret (.vl v)) m
  | .retn, _, m => .ok (.ret (.vl (.dat .non))) m
  | .retf e, s, m => (evN W C e s m).bind fun xs m => .ok (.ret (.new xs)) m
  | .brk, s, m => .ok (.brk s) m
  | .ctn, s, m => .ok (.ctn s) m
  | .pas, s, m => .ok (.nx s) m
  | .exp e, s, m => (ev W C e s m).bind fun _ m => .ok (.nx s) m
  | .grp i gs, s, m => match grpF (s[i]?) gs with
    | some ks => if i < s.length then .ok (.nx (s.set i (some (.fns ks)))) m else .bad
    | none => .bad
  | .newd i c q, s, m => (evD W C q s m).bind fun o m => if i < s.length && b + c < m.length && freeOf (b + c) i 0 s then .ok (.nx (s.set i (some (.loc (b + c))))) (m.set (b + c) o) else .bad
  | .pnw ts ps, s, m => (evP W C ps s m).bind fun vs m => match parP b ts vs s m with
    | some (s, m) => .ok (.nx s) m
    | none => .bad
  | .upd i ks es, s, m => match locAt s i with
    | none => .bad
    | some n => if isDk m n then (evs W C es s m).bind fun vs m => match datsOf vs, m[n]? with
      | some ds, some (.dK KS DS) => if litOk ks ds && decide (KS.length < 1000) then .ok (.nx s) (m.set n (.dK (updM KS DS (litM ks ds).1 (litM ks ds).2).1 (updM KS DS (litM ks ds).1 (litM ks ds).2).2)) else .bad
      | _, _ => .bad else .bad
  | .trx e cs, s, m => match ev W C e s m with
    | .ok _ m => .ok (.nx s) m
    | .exc x m => match tryC W.xk cs x with
      | some y => .ok (.ret (.vl (.dat (.str y)))) m
      | none => .bad
    | .bad => .bad
  | .never, _, _ => .bad
  | .rse k, _, m => if plainB W k then .exc ⟨k, none⟩ m else .bad
  | .rsk k e, s, m => (ev W C e s m).bind fun v m => match v with
    | .dat d => if keepB W k d then .exc ⟨k, some d⟩ m else .bad
    | _ => .bad
end
/-! ### calls -/
/-- a value may leave the def: data, or an object of the callers -/
def outOk (n : Nat) : RV → Bool
  | .vl (.dat _) => true
  | .vl (.loc k) => decide (k < n)
  | .vl (.fns _) => false
  | .new _ => true
/-- a def's lambdas, evaluated -/
def apOf (W : Wd) (C : Cal) (l : List Ex) : Nat → Slots → Sto → R Vl := fun k s m => match l[k]? with
  | some e => ev W C e s m
  | none => .bad
def wdOf (W : Wd) (C : Cal) (f : Fn) : Wd := match f.lms with
  | [] => W
  | l => { W with ap := apOf W C l }
def runF (W : Wd) (C : Cal) (f : Fn) (vs : List Vl) (m : Sto) : R RV :=
  let as := vs ++ (f.dfl.drop (vs.length + f.dfl.length - f.np)).map Vl.dat
  if as.length = f.np then
    match exs (wdOf W C f) C m.length f.body (as.map some ++ List.replicate (f.ns - f.np) none) (m ++ List.replicate f.nc .nil) with
    | .ok (.ret v) m' => if outOk m.length v = true then .ok v (m'.take m.length) else .bad
    | .ok (.nx _) m' => .ok (.vl (.dat .non)) (m'.take m.length)
    | .ok _ _ => .bad
    | .exc x m' => .exc x (m'.take m.length)
    | .bad => .bad
  else .bad
def callF (W : Wd) : Nat → Cal
  | 0, _, _, _ => .bad
  | n + 1, k, vs, m => match W.fn[k]? with
    | some f => runF W (callF W n) f vs m
    | none => .bad
end EV

set_option Elab.async false
set_option linter.all false
set_option maxRecDepth 100000
/-! EV, part B: how data lies in the abstract heap. -/
namespace EV
open PySem PySem.Spec PyProof.Rows L2
def Sub (F H : Hp) : Prop := ∀ a o, F a = some o → H a = some o
theorem Sub.refl (F : Hp) : Sub F F := fun _ _ h => h
theorem Sub.trans {F G H : Hp} (h : Sub F G) (k : Sub G H) : Sub F H := fun a o e => k a o (h a o e)
theorem sub_upd {F : Hp} {p : Addr} {o : HO} (h : F p = none) : Sub F (upd F p o) := fun a u e => by rw [upd_ne (ne_of_none e h)]; exact e
theorem upd_sub {F H : Hp} {p : Addr} {o : HO} (h : Sub F H) : Sub (upd F p o) (upd H p o) := fun a u e => by
  by_cases q : a = p
  · subst q; rw [upd_same] at e ⊢; exact e
  · rw [upd_ne q] at e ⊢; exact h _ _ e
theorem Rd.mono {F H : Hp} {a : Addr} {u : HO} (s : Sub F H) (h : Rd F a u) : Rd H a u := by
  rcases h with h | ⟨o, h⟩
  · exact .inl (s _ _ h)
  · exact .inr ⟨o, s _ _ h⟩
theorem SqL.mono {K : PySem.W.Frag} {F H : Hp} {a : Addr} {xs : List V} (s : Sub F H) (h : SqL K F a xs) : SqL K H a xs := h.imp (Rd.mono s) id
theorem SqT.mono {K : PySem.W.Frag} {F H : Hp} {a : Addr} {xs : List V} (s : Sub F H) (h : SqT K F a xs) : SqT K H a xs := h.imp (Rd.mono s) id
/-- where things lie: defs by number, tables of code objects with the name of what is made there, exception classes by number -/
structure Adr where
  at_ : Nat → Addr
  tb : List (Addr × Str)
  ex : Nat → Addr
instance : CoeFun Adr (fun _ => Nat → Addr) := ⟨Adr.at_⟩
/-- nothing lies at a, or a table -/
def Nt (H : Hp) (a : Addr) : Prop := ∀ o, H a = some o → ∃ ps, o = .tbl ps
theorem nt_of {H : Hp} {a : Addr} (h : H a = none) : Nt H a := fun o e => by rw [h] at e; cases e
/-- what a cell of the store is in the heap -/
inductive IsCell : HO → Prop
  | lst (xs : List V) : IsCell (.lst xs)
  | dK (kvs : List (Key × V)) : IsCell (.dK kvs)
  | dT (kvs : List (List Key × V)) : IsCell (.dT kvs)
theorem IsCell.ntb {u : HO} (h : IsCell u) : ∀ ps, u ≠ .tbl ps := by
  cases h <;> (intro ps z; cases z)
theorem IsCell.ncd {u : HO} (h : IsCell u) {a : Addr} {q : Str} (e : u = LamX.CodeO a q) : False := by
  unfold LamX.CodeO at e
  cases h <;> cases e
theorem IsCell.mut {u : HO} (h : IsCell u) : Mut (some u) := by
  cases h <;> exact True.intro
theorem IsCell.nf {u : HO} (h : IsCell u) : ∀ o v, u ≠ .frz o v := by
  cases h <;> (intro o v z; cases z)
theorem Nt.cell {H : Hp} {a : Addr} {u : HO} (h : Nt H a) (e : H a = some u) (c : IsCell u) : False := by
  obtain ⟨ps, z⟩ := h _ e
  exact c.ntb ps z
theorem Nt.lst {H : Hp} {a : Addr} {xs : List V} (h : Nt H a) (e : H a = some (.lst xs)) : False := h.cell e (.lst xs)
/-- the frozen part holds no table -/
def NoT (F : Hp) : Prop := ∀ a ps, F a ≠ some (.tbl ps)
theorem NoT.upd {F : Hp} {p : Addr} {o : HO} (h : NoT F) (ho : ∀ ps, o ≠ .tbl ps) : NoT (upd F p o) := fun a ps e => by
  by_cases q : a = p
  · subst q; rw [upd_same] at e; exact ho ps (Option.some.inj e)
  · rw [upd_ne q] at e; exact h a ps e
theorem tabs_wr {T : List (Addr × Str)} {H : Hp} {p : Addr} {u o : HO} (h : LamX.Tabs T H) (hp : H p = some u) (hc : IsCell u) : LamX.Tabs T (upd H p o) := fun q hq => by
  obtain ⟨ps, h1, h2, h3⟩ := h q hq
  have ne : q.1 ≠ p := fun z => by rw [z, hp] at h1; exact hc.ntb _ (Option.some.inj h1)
  refine ⟨ps, by rw [upd_ne ne]; exact h1, h2, fun pos cv e => ?_⟩
  obtain ⟨c, e1, e2⟩ := h3 pos cv e
  have nc : c ≠ p := fun z => by
    rw [z, hp] at e2
    exact hc.ncd (Option.some.inj e2)
  exact ⟨c, e1, by rw [upd_ne nc]; exact e2⟩
/-- an exception object held as a value: its class, its dict at dx -/
def ErO (C dx a : Addr) : HO := .ext fun h => ∃ oe, h.get? a = some oe ∧ oe.cls = .ref C ∧ oe.dict = some dx ∧ ∃ vs, oe.data = .fields vs
section
variable (K : PySem.W.Frag) (ad : Adr)
mutual
/-- v is the datum, read off the frozen part F -/
inductive Rp (F : Hp) : V → D → Prop
  | non : Rp F .non .non
  | bl (b : Bool) : Rp F (.bl b) (.bl b)
  | int (i : Int) : Rp F (.int i) (.int i)
  | str (x : Str) : Rp F (.str x) (.str x)
  | obj (k : Nat) : Rp F (.ref (ad k)) (.obj k)
  | tup {a : Addr} {vs : List V} {ds : List D} : SqT K F a vs → RpA F vs ds → Rp F (.ref a) (.tup ds)
  | lst {a : Addr} {vs : List V} {ds : List D} : F a = some (.lst vs) → RpA F vs ds → Rp F (.ref a) (.lst ds)
  | scr {a : Addr} {vs : List V} {ds : List D} : SqL K F a vs → RpA F vs ds → Rp F (.ref a) (.scr ds)
  | dct {a : Addr} {kvs : List (Int × Int)} : F a = some (.dK (kvs.map fun p => ((Sum.inl p.1 : Key), V.int p.2))) → Rp F (.ref a) (.dct kvs)
  | dK {a : Addr} {o : Obj} {ks : List Key} {vs : List V} {ds : List D} : F a = some (.frz o (.dK (ks.zip vs))) → ks.length = vs.length → RpA F vs ds → Rp F (.ref a) (.dK ks ds)
  | dT {a : Addr} {o : Obj} {ks : List (List Key)} {vs : List V} {ds : List D} : F a = some (.frz o (.dT (ks.zip vs))) → ks.length = vs.length → RpA F vs ds → Rp F (.ref a) (.dT ks ds)
  | ktp {a : Addr} {k : List Key} : F a = some (.tup (k.map kV)) → Rp F (.ref a) (.ktp k)
  | er0 {a : Addr} {k : Nat} : F a = some (ExO (.ref (ad.ex k)) a) → Rp F (.ref a) (.er0 k)
  | er1 {a dx : Addr} {k : Nat} {f : Str} {v : V} {d : D} : F a = some (ErO (ad.ex k) dx a) → F dx = some (.xd [(f, v)]) → Rp F v d → Rp F (.ref a) (.er1 k f d)
inductive RpA (F : Hp) : List V → List D → Prop
  | nil : RpA F [] []
  | cons {v : V} {vs : List V} {d : D} {ds : List D} : Rp F v d → RpA F vs ds → RpA F (v :: vs) (d :: ds)
end
end
section
variable {K : PySem.W.Frag} {ad : Adr} {F G H : Hp}
mutual
theorem Rp.mono (s : Sub F G) : ∀ {d : D} {v : V}, Rp K ad F v d → Rp K ad G v d
  | .non, _, h => by cases h; exact .non
  | .bl b, _, h => by cases h; exact .bl b
  | .int i, _, h => by cases h; exact .int i
  | .str x, _, h => by cases h; exact .str x
  | .obj k, _, h => by cases h; exact .obj k
  | .tup ds, _, h => by
    cases h with
    | tup a b => exact .tup (SqT.mono s a) (RpA.mono s b)
  | .lst ds, _, h => by
    cases h with
    | lst a b => exact .lst (s _ _ a) (RpA.mono s b)
  | .scr ds, _, h => by
    cases h with
    | scr a b => exact .scr (SqL.mono s a) (RpA.mono s b)
  | .dct kvs, _, h => by
    cases h with
    | dct a => exact .dct (s _ _ a)
  | .dK ks ds, _, h => by
    cases h with
    | dK a l b => exact .dK (s _ _ a) l (RpA.mono s b)
  | .dT ks ds, _, h => by
    cases h with
    | dT a l b => exact .dT (s _ _ a) l (RpA.mono s b)
  | .ktp k, _, h => by
    cases h with
    | ktp a => exact .ktp (s _ _ a)
  | .er0 k, _, h => by
    cases h with
    | er0 a => exact .er0 (s _ _ a)
  | .er1 k f d, _, h => by
    cases h with
    | er1 a b c => exact .er1 (s _ _ a) (s _ _ b) (Rp.mono s c)
theorem RpA.mono (s : Sub F G) : ∀ {ds : List D} {vs : List V}, RpA K ad F vs ds → RpA K ad G vs ds
  | [], _, h => by cases h; exact .nil
  | d :: ds, _, h => by
    cases h with
    | cons a b => exact .cons (Rp.mono s a) (RpA.mono s b)
end
theorem key_dp (H : Hp) : ∀ k : List Key, DpAll K H (k.map kV) (k.map keyPy)
  | [] => .nil
  | .inl i :: r => .cons (.int i) (key_dp H r)
  | .inr x :: r => .cons (.str x) (key_dp H r)
mutual
theorem Rp.dp (s : Sub F H) : ∀ {d : D} {v : V} {p : PyData}, Rp K ad F v d → toPy d = some p → Dp K H v p
  | .non, _, _, h, e => by cases h; cases e; exact .non
  | .bl b, _, _, h, e => by cases h; cases e; exact .bl b
  | .int i, _, _, h, e => by cases h; cases e; exact .int i
  | .str x, _, _, h, e => by cases h; cases e; exact .str x
  | .obj k, _, _, h, e => by cases e
  | .scr ds, _, _, h, e => by cases e
  | .dct ds, _, _, h, e => by cases e
  | .dK ks ds, _, _, h, e => by cases e
  | .dT ks ds, _, _, h, e => by cases e
  | .er0 _, _, _, h, e => by cases e
  | .er1 _ _ _, _, _, h, e => by cases e
  | .ktp k, _, _, h, e => by
    cases e
    cases h with
    | ktp a => exact .tup (SqT.mono s (.inl (.inl a))) (key_dp H k)
  | .tup ds, _, p, h, e => by
    cases h with
    | tup a b =>
      simp only [toPy] at e
      cases q : toPys ds with
      | none => rw [q] at e; cases e
      | some ps =>
        rw [q] at e; cases e
        exact .tup (SqT.mono s a) (RpA.dp s b q)
  | .lst ds, _, p, h, e => by
    cases h with
    | lst a b =>
      simp only [toPy] at e
      cases q : toPys ds with
      | none => rw [q] at e; cases e
      | some ps =>
        rw [q] at e; cases e
        exact .lst (SqL.of (s _ _ a)) (RpA.dp s b q)
theorem RpA.dp (s : Sub F H) : ∀ {ds : List D} {vs : List V} {ps : List PyData}, RpA K ad F vs ds → toPys ds = some ps → DpAll K H vs ps
  | [], _, _, h, e => by cases h; cases e; exact .nil
  | d :: ds, _, _, h, e => by
    cases h with
    | cons a b =>
      simp only [toPys] at e
      cases q1 : toPy d with
      | none => rw [q1] at e; cases e
      | some p1 =>
        rw [q1] at e
        cases q2 : toPys ds with
        | none => rw [q2] at e; cases e
        | some ps =>
          rw [q2] at e; cases e
          exact .cons (Rp.dp s a q1) (RpA.dp s b q2)
end
theorem RpA.len : ∀ {vs : List V} {ds : List D}, RpA K ad F vs ds → vs.length = ds.length
  | _, _, .nil => rfl
  | _, _, .cons _ b => congrArg Nat.succ (RpA.len b)
theorem RpA.get : ∀ {vs : List V} {ds : List D} {i : Nat} {d : D}, RpA K ad F vs ds → ds[i]? = some d → ∃ v, vs[i]? = some v ∧ Rp K ad F v d
  | _, _, _, _, .nil, e => by simp at e
  | _, _, 0, _, .cons a _, e => by simp at e; subst e; exact ⟨_, rfl, a⟩
  | _, _, i + 1, _, .cons _ b, e => by
    obtain ⟨v, h1, h2⟩ := RpA.get (i := i) b (by simpa using e)
    exact ⟨v, by simpa using h1, h2⟩
theorem RpA.app : ∀ {vs ws : List V} {ds es : List D}, RpA K ad F vs ds → RpA K ad F ws es → RpA K ad F (vs ++ ws) (ds ++ es)
  | _, _, _, _, .nil, h => h
  | _, _, _, _, .cons a b, h => .cons a (RpA.app b h)
theorem RpA.take : ∀ {vs : List V} {ds : List D} (n : Nat), RpA K ad F vs ds → RpA K ad F (vs.take n) (ds.take n)
  | _, _, 0, _ => .nil
  | _, _, _ + 1, .nil => .nil
  | _, _, n + 1, .cons a b => .cons a (RpA.take n b)
theorem RpA.drop : ∀ {vs : List V} {ds : List D} (n : Nat), RpA K ad F vs ds → RpA K ad F (vs.drop n) (ds.drop n)
  | _, _, 0, h => h
  | _, _, _ + 1, .nil => .nil
  | _, _, n + 1, .cons _ b => RpA.drop n b
theorem RpA.set {v : V} {d : D} (r : Rp K ad F v d) : ∀ {vs : List V} {ds : List D} (i : Nat), RpA K ad F vs ds → RpA K ad F (vs.set i v) (ds.set i d)
  | _, _, _, .nil => .nil
  | _, _, 0, .cons _ b => .cons r b
  | _, _, i + 1, .cons a b => .cons a (RpA.set r i b)
theorem RpA.rev : ∀ {vs : List V} {ds : List D}, RpA K ad F vs ds → RpA K ad F vs.reverse ds.reverse
  | _, _, .nil => .nil
  | _, _, .cons a b => by
    rw [List.reverse_cons, List.reverse_cons]
    exact RpA.app (RpA.rev b) (.cons a .nil)
theorem RpA.rep {vs : List V} {ds : List D} (h : RpA K ad F vs ds) : ∀ n : Nat, RpA K ad F (List.replicate n vs).flatten (List.replicate n ds).flatten
  | 0 => .nil
  | n + 1 => by
    rw [List.replicate_succ, List.replicate_succ, List.flatten_cons, List.flatten_cons]
    exact RpA.app h (RpA.rep h n)
theorem RpA.nil_iff {vs : List V} {ds : List D} (h : RpA K ad F vs ds) : vs = [] ↔ ds = [] := by
  have := h.len
  constructor
  · rintro rfl
    exact List.eq_nil_of_length_eq_zero (by simpa using this.symm)
  · rintro rfl
    exact List.eq_nil_of_length_eq_zero (by simpa using this)
end

/-! ### the store -/
/-- the wish at an exception, and what a list of lambdas is -/
structure Zt where
  r : Hp → V → List Nat → Prop
  mono : ∀ (F G : Hp) (v : V) (ks : List Nat), Sub F G → r F v ks → r G v ks
structure Wz where
  x : XK
  z : Zt
instance : Coe Wz XK := ⟨Wz.x⟩
instance : CoeFun Wz (fun _ => XK) := ⟨Wz.x⟩
abbrev Wz.to (w : Wz) (E : XK) : Wz := ⟨E, w.z⟩
abbrev Wz.no (w : Wz) : Wz := w.to fun _ _ _ => False
def live (m : Sto) (i : Nat) : Prop := ∃ o, m[i]? = some o ∧ o ≠ MO.nil
theorem live_lst {m : Sto} {i : Nat} {xs : List D} (e : m[i]? = some (.lst xs)) : live m i := ⟨_, e, by intro z; cases z⟩
theorem live_lt {m : Sto} {i : Nat} (h : live m i) : i < m.length := let ⟨_, e, _⟩ := h; (List.getElem?_eq_some_iff.mp e).1
def Own (L : List Addr) (m : Sto) (a : Addr) : Prop := ∃ i, live m i ∧ L[i]? = some a
section
variable (K : PySem.W.Frag) (ad : Adr)
/-- a cell, in the heap -/
inductive CellR (F : Hp) : MO → HO → Prop
  | lst {xs : List D} {vs : List V} : RpA K ad F vs xs → CellR F (.lst xs) (.lst vs)
  | dK {ks : List Key} {ds : List D} {vs : List V} : ks.length = vs.length → RpA K ad F vs ds → CellR F (.dK ks ds) (.dK (ks.zip vs))
  | dT {ks : List (List Key)} {ds : List D} {vs : List V} : ks.length = vs.length → RpA K ad F vs ds → CellR F (.dT ks ds) (.dT (ks.zip vs))
/-- the store lies in H at L; F is what stays -/
structure StoR (L : List Addr) (m : Sto) (F H : Hp) : Prop where
  sub : Sub F H
  obj : ∀ (i : Nat) (o : MO), m[i]? = some o → o ≠ MO.nil → ∃ (a : Addr) (u : HO), L[i]? = some a ∧ F a = none ∧ H a = some u ∧ CellR K ad F o u
  inj : ∀ (i j : Nat) (a : Addr), live m i → live m j → L[i]? = some a → L[j]? = some a → i = j
  len : L.length = m.length
  tabs : LamX.Tabs ad.tb H
  nt : NoT F
/-- a slot's value -/
def VlR (L : List Addr) (F : Hp) (v : Vl) (x : V) : Prop := match v with
  | .dat d => Rp K ad F x d
  | .loc n => ∃ a, L[n]? = some a ∧ x = .ref a
  | .fns _ => False
inductive VlRs (L : List Addr) (F : Hp) : List Vl → List V → Prop
  | nil : VlRs L F [] []
  | cons {v : Vl} {vs : List Vl} {x : V} {xs : List V} : VlR K ad L F v x → VlRs L F vs xs → VlRs L F (v :: vs) (x :: xs)
/-- a slot's value, a list of lambdas too: z tells what such a list is in this frame -/
def VzR (w : Zt) (L : List Addr) (F : Hp) (v : Vl) (x : V) : Prop := match v with
  | .dat d => Rp K ad F x d
  | .loc n => ∃ a, L[n]? = some a ∧ x = .ref a
  | .fns ks => w.r F x ks
structure SltR (w : Zt) (L : List Addr) (F : Hp) (s : Slots) (σ : L2.St) : Prop where
  len : σ.length = s.length
  at_ : ∀ (i : Nat) (v : Vl), s[i]? = some (some v) → ∃ x : V, σ[i]? = some (some x) ∧ VzR K ad w L F v x
end
/-- a code object of a lambda, or a tuple -/
def IsCd (F : Hp) (a : Addr) : Prop := (∃ q, F a = some (LamX.CodeO a q)) ∨ ∃ xs, F a = some (.tup xs)
theorem IsCd.of {F G : Hp} {a : Addr} (h : IsCd F a) (e : G a = F a) : IsCd G a := by
  unfold IsCd at h ⊢
  rw [e]; exact h
theorem IsCd.cell {F H : Hp} {a : Addr} {u : HO} (h : IsCd F a) (s : Sub F H) (e : H a = some u) (c : IsCell u) : False := by
  rcases h with ⟨q, z⟩ | ⟨xs, z⟩
  · rw [s _ _ z] at e
    exact c.ncd (Option.some.inj e).symm
  · rw [s _ _ z] at e
    cases e
    cases c
theorem IsCd.lst {F H : Hp} {a : Addr} {xs : List V} (h : IsCd F a) (s : Sub F H) (e : H a = some (.lst xs)) : False := h.cell s e (.lst xs)
/-- from one state to a later one, the store's objects at the same places -/
structure Ext (L : List Addr) (m : Sto) (F H : Hp) (m' : Sto) (F' H' : Hp) : Prop where
  sub : Sub F F'
  keep : ∀ a o, H a = some o → ¬ Own L m a → (∀ ps, o ≠ .tbl ps) → H' a = some o
  own : ∀ i, live m' i ↔ live m i
  len : m'.length = m.length
  fresh : ∀ a, F' a = F a ∨ Nt H a ∨ IsCd F' a
  there : ∀ a o, H a = some o → (∀ ps, o ≠ .tbl ps) → ∃ o', H' a = some o' ∧ ∀ ps, o' ≠ .tbl ps
/-- new objects, some of them frozen -/
structure Grow (F H F' H' : Hp) : Prop where
  sub : Sub F F'
  grow : Sub H H'
  low : Sub F' H'
  fresh : ∀ a, F' a = F a ∨ H a = none ∨ IsCd F' a
  nt : NoT F → NoT F'
section
variable {K : PySem.W.Frag} {ad : Adr} {L : List Addr} {m m1 m2 : Sto} {F F1 F2 H H1 H2 : Hp}
theorem CellR.isCell {o : MO} {u : HO} (h : CellR K ad F o u) : IsCell u := by
  cases h with
  | lst => exact .lst _
  | dK => exact .dK _
  | dT => exact .dT _
theorem CellR.ne {o : MO} {u : HO} (h : CellR K ad F o u) : o ≠ MO.nil := by
  cases h <;> (intro z; cases z)
theorem CellR.mono {o : MO} {u : HO} (s : Sub F F1) (h : CellR K ad F o u) : CellR K ad F1 o u := by
  cases h with
  | lst a => exact .lst (a.mono s)
  | dK l a => exact .dK l (a.mono s)
  | dT l a => exact .dT l (a.mono s)
/-- a list of the store -/
theorem StoR.lstAt (s : StoR K ad L m F H) (i : Nat) (xs : List D) (e : m[i]? = some (MO.lst xs)) : ∃ (a : Addr) (vs : List V), L[i]? = some a ∧ F a = none ∧ H a = some (HO.lst vs) ∧ RpA K ad F vs xs := by
  obtain ⟨a, u, e1, e2, e3, e4⟩ := s.obj i _ e (by intro z; cases z)
  cases e4 with
  | lst r => exact ⟨a, _, e1, e2, e3, r⟩
theorem VlR.mono {v : Vl} {x : V} (s : Sub F F1) (h : VlR K ad L F v x) : VlR K ad L F1 v x := by
  cases v with
  | dat d => exact Rp.mono s h
  | loc n => exact h
  | fns ks => exact h
theorem VlR.vz {w : Zt} {v : Vl} {x : V} (h : VlR K ad L F v x) : VzR K ad w L F v x := by
  cases v with
  | dat d => exact h
  | loc n => exact h
  | fns ks => exact h.elim
theorem VzR.mono {w : Zt} {v : Vl} {x : V} (s : Sub F F1) (h : VzR K ad w L F v x) : VzR K ad w L F1 v x := by
  cases v with
  | dat d => exact Rp.mono s h
  | loc n => exact h
  | fns ks => exact w.mono _ _ _ _ s h
theorem VlRs.mono (s : Sub F F1) : ∀ {vs : List Vl} {xs : List V}, VlRs K ad L F vs xs → VlRs K ad L F1 vs xs
  | _, _, .nil => .nil
  | _, _, .cons a b => .cons (a.mono s) (VlRs.mono s b)
theorem VlRs.len : ∀ {vs : List Vl} {xs : List V}, VlRs K ad L F vs xs → vs.length = xs.length
  | _, _, .nil => rfl
  | _, _, .cons _ b => congrArg Nat.succ (VlRs.len b)
theorem SltR.mono {w : Zt} {s : Slots} {σ : L2.St} (h : SltR K ad w L F s σ) (q : Sub F F1) : SltR K ad w L F1 s σ :=
  ⟨h.len, fun i v e => let ⟨x, e1, r⟩ := h.at_ i v e; ⟨x, e1, r.mono q⟩⟩
theorem Ext.refl : Ext L m F H m F H := ⟨Sub.refl _, fun _ _ e _ _ => e, fun _ => Iff.rfl, rfl, fun _ => .inl rfl, fun _ o e t => ⟨o, e, t⟩⟩
theorem Ext.nt (e : Ext L m F H m1 F1 H1) {p : Addr} (h : Nt H1 p) : Nt H p := fun o q => by
  by_cases t : ∃ ps, o = .tbl ps
  · exact t
  · obtain ⟨o', z, t'⟩ := e.there p o q fun ps z => t ⟨ps, z⟩
    obtain ⟨ps, w⟩ := h o' z
    exact absurd w (t' ps)
theorem Ext.ownA (e : Ext L m F H m1 F1 H1) (a : Addr) : Own L m1 a ↔ Own L m a :=
  ⟨fun ⟨i, h1, h2⟩ => ⟨i, (e.own i).mp h1, h2⟩, fun ⟨i, h1, h2⟩ => ⟨i, (e.own i).mpr h1, h2⟩⟩
theorem Ext.trans (e : Ext L m F H m1 F1 H1) (f : Ext L m1 F1 H1 m2 F2 H2) : Ext L m F H m2 F2 H2 :=
  ⟨e.sub.trans f.sub, fun a o h n t => f.keep a o (e.keep a o h n t) (fun q => n ((e.ownA a).mp q)) t, fun i => (f.own i).trans (e.own i), f.len.trans e.len, fun a => (by
    rcases f.fresh a with q | q | q
    · rcases e.fresh a with p | p | z
      · exact .inl (q.trans p)
      · exact .inr (.inl p)
      · exact .inr (.inr (z.of q))
    · exact .inr (.inl (e.nt q))
    · exact .inr (.inr q)), fun a o h t => (by
    obtain ⟨o', z, t'⟩ := e.there a o h t
    exact f.there a o' z t')⟩
theorem StoR.owned (s : StoR K ad L m F H) {a : Addr} (h : Own L m a) : ∃ u, H a = some u ∧ IsCell u ∧ F a = none := by
  obtain ⟨i, ⟨o, e, ne⟩, l⟩ := h
  obtain ⟨b, u, e1, e2, e3, e4⟩ := s.obj i o e ne
  rw [l] at e1; cases e1
  exact ⟨u, e3, e4.isCell, e2⟩
theorem Grow.refl (s : Sub F H) : Grow F H F H := ⟨Sub.refl _, Sub.refl _, s, fun _ => .inl rfl, id⟩
theorem Grow.trans (g : Grow F H F1 H1) (k : Grow F1 H1 F2 H2) : Grow F H F2 H2 :=
  ⟨g.sub.trans k.sub, g.grow.trans k.grow, k.low, fun a => (by
    rcases k.fresh a with e | e | e
    · rcases g.fresh a with e' | e' | z
      · exact .inl (e.trans e')
      · exact .inr (.inl e')
      · exact .inr (.inr (z.of e))
    · cases q : H a with
      | none => exact .inr (.inl rfl)
      | some o => rw [g.grow a o q] at e; cases e
    · exact .inr (.inr e)), fun z => k.nt (g.nt z)⟩
theorem Grow.ext (g : Grow F H F1 H1) : Ext L m F H m F1 H1 := ⟨g.sub, fun a o e _ _ => g.grow a o e, fun _ => Iff.rfl, rfl, fun a => (g.fresh a).imp id fun z => z.imp nt_of id, fun a o e t => ⟨o, g.grow a o e, t⟩⟩
theorem Grow.sto (g : Grow F H F1 H1) (s : StoR K ad L m F H) : StoR K ad L m F1 H1 :=
  ⟨g.low, fun i o e ne => (by
    obtain ⟨a, vs, e1, e2, e3, e4⟩ := s.obj i o e ne
    refine ⟨a, vs, e1, ?_, g.grow _ _ e3, e4.mono g.sub⟩
    rcases g.fresh a with q | q | q
    · rw [q]; exact e2
    · rw [e3] at q; cases q
    · exact (q.cell g.low (g.grow _ _ e3) e4.isCell).elim), s.inj, s.len, s.tabs.ext g.grow, g.nt s.nt⟩
/-- a new object, frozen -/
theorem Grow.new {p : Addr} {o : HO} (s : Sub F H) (h : H p = none) (ho : ∀ ps, o ≠ .tbl ps := by intro _ z; cases z) : Grow F H (upd F p o) (upd H p o) := by
  have hf : F p = none := by
    cases q : F p with
    | none => rfl
    | some u => rw [s _ _ q] at h; cases h
  refine ⟨sub_upd hf, sub_upd h, upd_sub s, fun a => ?_, fun z => z.upd ho⟩
  by_cases q : a = p
  · subst q; exact .inr (.inl h)
  · exact .inl (upd_ne q)
/-- a new object that isn't frozen (yet) -/
theorem Grow.bare {p : Addr} {o : HO} (s : Sub F H) (h : H p = none) : Grow F H F (upd H p o) :=
  ⟨Sub.refl _, sub_upd h, s.trans (sub_upd h), fun _ => .inl rfl, id⟩
/-- a tuple that lies there already -/
theorem Grow.know {q : Addr} {xs : List V} (s : Sub F H) (h : H q = some (.tup xs)) : ∃ F', Grow F H F' H ∧ F' q = some (.tup xs) := by
  cases hf : F q with
  | some u =>
    have := s _ _ hf
    rw [h] at this; cases this
    exact ⟨F, .refl s, hf⟩
  | none =>
    refine ⟨upd F q (.tup xs), ⟨sub_upd hf, Sub.refl _, fun a u e => ?_, fun a => ?_, fun z => z.upd (by intro _ w; cases w)⟩, upd_same⟩
    · by_cases z : a = q
      · subst z; rw [upd_same] at e; cases e; exact h
      · rw [upd_ne z] at e; exact s _ _ e
    · by_cases z : a = q
      · subst z; exact .inr (.inr (.inr ⟨xs, upd_same⟩))
      · exact .inl (upd_ne z)
/-- freeze a new object -/
theorem Grow.frz {p : Addr} {o : HO} (g : Grow F H F1 H1) (h : H p = none) (h1 : F1 p = none) (e : H1 p = some o) (ho : ∀ ps, o ≠ .tbl ps := by intro _ z; cases z) : Grow F H (upd F1 p o) H1 := by
  refine ⟨g.sub.trans (sub_upd h1), g.grow, fun a u q => ?_, fun a => ?_, fun z => (g.nt z).upd ho⟩
  · by_cases z : a = p
    · subst z; rw [upd_same] at q; cases q; exact e
    · rw [upd_ne z] at q; exact g.low _ _ q
  · by_cases z : a = p
    · subst z; exact .inr (.inl h)
    · rcases g.fresh a with q | q | y
      · exact .inl ((upd_ne z).trans q)
      · exact .inr (.inl q)
      · exact .inr (.inr (y.of (upd_ne z)))
/-- a new list, frozen behind the work -/
theorem Ext.frz {p : Addr} {o : HO} (e : Ext L m F H m1 F1 H1) (h : Nt H p) (h1 : F1 p = none) (h2 : H1 p = some o) : Ext L m F H m1 (upd F1 p o) H1 :=
  ⟨e.sub.trans (sub_upd h1), e.keep, e.own, e.len, fun a => (by
    by_cases q : a = p
    · subst q; exact .inr (.inl h)
    · rcases e.fresh a with r | r | y
      · exact .inl ((upd_ne q).trans r)
      · exact .inr (.inl r)
      · exact .inr (.inr (y.of (upd_ne q)))), e.there⟩
theorem Ext.notOwn {p : Addr} (e : Ext L m F H m1 F1 H1) (s : StoR K ad L m F H) (h : Nt H p) : ¬ Own L m1 p := fun q => by
  obtain ⟨u, z, c, _⟩ := s.owned ((e.ownA p).mp q)
  exact h.cell z c
theorem StoR.frz {p : Addr} {o : HO} (s : StoR K ad L m F H) (n : ¬ Own L m p) (h1 : F p = none) (h2 : H p = some o) (ho : ∀ ps, o ≠ .tbl ps := by intro _ z; cases z) : StoR K ad L m (upd F p o) H :=
  ⟨fun a u e => (by
    by_cases q : a = p
    · subst q; rw [upd_same] at e; cases e; exact h2
    · rw [upd_ne q] at e; exact s.sub _ _ e), fun i xs e nn => (by
    obtain ⟨a, vs, e1, e2, e3, e4⟩ := s.obj i xs e nn
    have ne : a ≠ p := fun z => n ⟨i, ⟨xs, e, nn⟩, z ▸ e1⟩
    exact ⟨a, vs, e1, by rw [upd_ne ne]; exact e2, e3, e4.mono (sub_upd h1)⟩), s.inj, s.len, s.tabs, s.nt.upd ho⟩
/-! ### a value looked at -/
variable (K ad) in
/-- what an operation sees: the datum's outermost object in H, its items in F -/
inductive Lk (F H : Hp) : V → D → Prop
  | non : Lk F H .non .non
  | bl (b : Bool) : Lk F H (.bl b) (.bl b)
  | int (i : Int) : Lk F H (.int i) (.int i)
  | str (x : Str) : Lk F H (.str x) (.str x)
  | obj (k : Nat) : Lk F H (.ref (ad k)) (.obj k)
  | tup {a : Addr} {vs : List V} {ds : List D} : SqT K F a vs → RpA K ad F vs ds → Lk F H (.ref a) (.tup ds)
  | lst {a : Addr} {vs : List V} {ds : List D} : H a = some (.lst vs) → RpA K ad F vs ds → Lk F H (.ref a) (.lst ds)
  | scr {a : Addr} {vs : List V} {ds : List D} : SqL K F a vs → RpA K ad F vs ds → Lk F H (.ref a) (.scr ds)
  | dct {a : Addr} {kvs : List (Int × Int)} : H a = some (.dK (kvs.map fun p => ((Sum.inl p.1 : Key), V.int p.2))) → Lk F H (.ref a) (.dct kvs)
  | dK {a : Addr} {ks : List Key} {vs : List V} {ds : List D} : Rd H a (.dK (ks.zip vs)) → ks.length = vs.length → RpA K ad F vs ds → Lk F H (.ref a) (.dK ks ds)
  | dT {a : Addr} {ks : List (List Key)} {vs : List V} {ds : List D} : Rd H a (.dT (ks.zip vs)) → ks.length = vs.length → RpA K ad F vs ds → Lk F H (.ref a) (.dT ks ds)
  | ktp {a : Addr} {k : List Key} : F a = some (.tup (k.map kV)) → Lk F H (.ref a) (.ktp k)
  | er0 {a : Addr} {k : Nat} : F a = some (ExO (.ref (ad.ex k)) a) → Lk F H (.ref a) (.er0 k)
  | er1 {a dx : Addr} {k : Nat} {f : Str} {v : V} {d : D} : F a = some (ErO (ad.ex k) dx a) → F dx = some (.xd [(f, v)]) → Rp K ad F v d → Lk F H (.ref a) (.er1 k f d)
theorem Rp.lk {v : V} {d : D} (s : Sub F H) (h : Rp K ad F v d) : Lk K ad F H v d := by
  cases h with
  | non => exact .non
  | bl b => exact .bl b
  | int i => exact .int i
  | str x => exact .str x
  | obj k => exact .obj k
  | tup a b => exact .tup a b
  | lst a b => exact .lst (s _ _ a) b
  | scr a b => exact .scr a b
  | dct a => exact .dct (s _ _ a)
  | dK a l b => exact .dK (.inr ⟨_, s _ _ a⟩) l b
  | dT a l b => exact .dT (.inr ⟨_, s _ _ a⟩) l b
  | ktp a => exact .ktp a
  | er0 a => exact .er0 a
  | er1 a b c => exact .er1 a b c
theorem VlR.lk {v : Vl} {x : V} {d : D} (s : StoR K ad L m F H) (h : VlR K ad L F v x) (e : look m v = some d) : Lk K ad F H x d := by
  cases v with
  | dat d' =>
    cases e
    exact Rp.lk s.sub h
  | loc n =>
    obtain ⟨a, e1, rfl⟩ := h
    simp only [look] at e
    split at e
    · rename_i xs q
      cases e
      obtain ⟨b, vs, e2, _, e3, e4⟩ := s.lstAt n xs q
      rw [e1] at e2; cases e2
      exact .lst e3 e4
    · rename_i ks ds q
      cases e
      obtain ⟨b, u, e2, _, e3, e4⟩ := s.obj n _ q (by intro z; cases z)
      rw [e1] at e2; cases e2
      cases e4 with
      | dK l r => exact .dK (.inl e3) l r
    · rename_i ks ds q
      cases e
      obtain ⟨b, u, e2, _, e3, e4⟩ := s.obj n _ q (by intro z; cases z)
      rw [e1] at e2; cases e2
      cases e4 with
      | dT l r => exact .dT (.inl e3) l r
    · cases e
  | fns ks => exact h.elim
theorem Lk.dp {v : V} {d : D} {p : PyData} (s : Sub F H) (h : Lk K ad F H v d) (e : toPy d = some p) : Dp K H v p := by
  cases h with
  | non => cases e; exact .non
  | bl b => cases e; exact .bl b
  | int i => cases e; exact .int i
  | str x => cases e; exact .str x
  | obj k => cases e
  | scr a b => cases e
  | dct a => cases e
  | dK a => cases e
  | dT a => cases e
  | er0 a => cases e
  | er1 a => cases e
  | ktp a => cases e; exact .tup (SqT.mono s (.inl (.inl a))) (key_dp H _)
  | tup a b =>
    simp only [toPy] at e
    obtain ⟨ps, q, rfl⟩ := Option.map_eq_some_iff.mp e
    exact .tup (SqT.mono s a) (b.dp s q)
  | lst a b =>
    simp only [toPy] at e
    obtain ⟨ps, q, rfl⟩ := Option.map_eq_some_iff.mp e
    exact .lst (SqL.of a) (b.dp s q)
end

/-! ### the store changed -/
section
variable {K : PySem.W.Frag} {ad : Adr} {L : List Addr} {m : Sto} {F H : Hp}
theorem live_set {m : Sto} {i j : Nat} {x : MO} : live (m.set i x) j ↔ if i = j then (i < m.length ∧ x ≠ .nil) else live m j := by
  unfold live
  by_cases h : i = j
  · subst h
    rw [if_pos rfl]
    by_cases hi : i < m.length
    · rw [List.getElem?_set_self hi]
      constructor
      · rintro ⟨xs, e, n⟩; cases e; exact ⟨hi, n⟩
      · rintro ⟨_, n⟩; exact ⟨x, rfl, n⟩
    · constructor
      · rintro ⟨xs, e, _⟩
        rw [List.getElem?_eq_none (by rw [List.length_set]; omega)] at e; cases e
      · rintro ⟨h, _⟩; exact absurd h hi
  · rw [if_neg h, List.getElem?_set_ne h]
/-- a cell of the store written -/
theorem upd_sto {k : Nat} {p : Addr} {u : HO} {o : MO} (st : StoR K ad L m F H) (lk : live m k) (el : L[k]? = some p) (r : CellR K ad F o u) : StoR K ad L (m.set k o) F (upd H p u) where
  sub := fun a v e => by
    obtain ⟨o', q, n⟩ := lk
    obtain ⟨a', ws, q1, q2, _⟩ := st.obj k o' q n
    rw [el] at q1; cases q1
    rw [upd_ne (ne_of_none e q2)]
    exact st.sub _ _ e
  obj := fun i ys e nn => by
    by_cases h : k = i
    · subst h
      obtain ⟨zs, q, n⟩ := lk
      have hk : k < m.length := (List.getElem?_eq_some_iff.mp q).1
      rw [List.getElem?_set_self hk] at e
      cases e
      obtain ⟨a', ws, q1, q2, _⟩ := st.obj k zs q n
      rw [el] at q1; cases q1
      exact ⟨_, u, el, q2, upd_same, r⟩
    · rw [List.getElem?_set_ne h] at e
      obtain ⟨a, ws, e1, e2, e3, e4⟩ := st.obj i ys e nn
      have ne : a ≠ p := fun z => by
        subst z
        exact h (st.inj k i a lk ⟨ys, e, nn⟩ el e1)
      exact ⟨a, ws, e1, e2, by rw [upd_ne ne]; exact e3, e4⟩
  inj := fun i j a li lj => by
    have f : ∀ i, live (m.set k o) i → live m i := fun i l => by
      rw [live_set] at l
      split at l
      · rename_i z; subst z; exact lk
      · exact l
    exact st.inj i j a (f i li) (f j lj)
  len := by rw [List.length_set]; exact st.len
  tabs := by
    obtain ⟨ys, q, n⟩ := lk
    obtain ⟨a', ws, q1, q2, q3, q4⟩ := st.obj k ys q n
    rw [el] at q1; cases q1
    exact tabs_wr st.tabs q3 q4.isCell
  nt := st.nt
theorem upd_extE {k : Nat} {p : Addr} {u : HO} {o : MO} (lk : live m k) (el : L[k]? = some p) (r : CellR K ad F o u) : Ext L m F H (m.set k o) F (upd H p u) where
  sub := Sub.refl _
  keep := fun a v e n _ => by
    have ne : a ≠ p := fun z => n (z ▸ ⟨k, lk, el⟩)
    rw [upd_ne ne]; exact e
  own := fun i => by
    rw [live_set]
    split
    · rename_i z
      subst z
      exact ⟨fun _ => lk, fun _ => ⟨live_lt lk, r.ne⟩⟩
    · exact Iff.rfl
  len := List.length_set
  fresh := fun _ => .inl rfl
  there := fun a v e t => by
    by_cases h : a = p
    · subst h; exact ⟨u, upd_same, r.isCell.ntb⟩
    · exact ⟨v, by rw [upd_ne h]; exact e, t⟩
end
/-! ### results -/
section
variable (K : PySem.W.Frag) (ad : Adr) (XR : Xc → Value → Option Addr → Hp → Hp → Prop) (Wi : XK)
/-- the result r of what begins at (L, m, F, H) fulfils the wish Q (an exception: Wi) -/
def Hold {α β : Type} (rel : Hp → Hp → α → β → Prop) (r : R α) (L : List Addr) (m : Sto) (F H : Hp) (Q : β → Hp → Prop) : Prop :=
  match r with
  | .ok a m' => ∀ F' H' x, Ext L m F H m' F' H' → StoR K ad L m' F' H' → rel F' H' a x → Q x H'
  | .exc xc m' => ∀ F' H' cls d, Ext L m F H m' F' H' → StoR K ad L m' F' H' → XR xc cls d F' H' → Wi cls d H'
  | .bad => False
end
section
variable {K : PySem.W.Frag} {ad : Adr} {XR : Xc → Value → Option Addr → Hp → Hp → Prop} {Wi : XK} {L : List Addr} {m m1 : Sto} {F F1 H H1 : Hp}
theorem Hold.step {α β : Type} {rel : Hp → Hp → α → β → Prop} {r : R α} {Q : β → Hp → Prop} (e : Ext L m F H m1 F1 H1) (h : Hold K ad XR Wi rel r L m F H Q) : Hold K ad XR Wi rel r L m1 F1 H1 Q := by
  cases r with
  | ok a m' => exact fun F' H' x e' => h F' H' x (e.trans e')
  | exc x m' => exact fun F' H' c d e' => h F' H' c d (e.trans e')
  | bad => exact h
theorem Hold.mono {α β : Type} {rel : Hp → Hp → α → β → Prop} {r : R α} {Q Q' : β → Hp → Prop} (h : Hold K ad XR Wi rel r L m F H Q) (q : ∀ x H, Q x H → Q' x H) : Hold K ad XR Wi rel r L m F H Q' := by
  cases r with
  | ok a m' => exact fun F' H' x e s r => q _ _ (h F' H' x e s r)
  | exc x m' => exact h
  | bad => exact h
/-- the parts of a bind -/
theorem Hold.bind {α β γ δ : Type} {rel : Hp → Hp → β → γ → Prop} (rel1 : Hp → Hp → α → δ → Prop) {r : R α} {f : α → Sto → R β} {Q : γ → Hp → Prop} (h : Hold K ad XR Wi rel (r.bind f) L m F H Q) :
    Hold K ad XR Wi rel1 r L m F H fun x H1 => ∃ a m1 F1, r = .ok a m1 ∧ Ext L m F H m1 F1 H1 ∧ StoR K ad L m1 F1 H1 ∧ rel1 F1 H1 a x ∧ Hold K ad XR Wi rel (f a m1) L m1 F1 H1 Q := by
  cases r with
  | ok a m' => exact fun F' H' x e s r => ⟨a, m', F', rfl, e, s, r, Hold.step e h⟩
  | exc x m' => exact h
  | bad => exact h
/-- where the result is there at once -/
theorem Hold.now {α β : Type} {rel : Hp → Hp → α → β → Prop} {a : α} {Q : β → Hp → Prop} {F' H' : Hp} {x : β} (h : Hold K ad XR Wi rel (.ok a m) L m F H Q) (s : StoR K ad L m F H) (g : Grow F H F' H') (r : rel F' H' a x) : Q x H' :=
  h F' H' x g.ext (g.sto s) r
theorem ofO_ok {α : Type} {o : Option α} {m : Sto} {β : Type} {f : α → Sto → R β} : (R.ofO o m).bind f = match o with | some a => f a m | none => .bad := by
  cases o <;> rfl
end
end EV

set_option Elab.async false
set_option linter.all false
set_option maxRecDepth 100000
/-! EV, part C: operations by values. -/
namespace EV
open PySem PySem.Spec PyProof.Rows L2
section
variable (K : PySem.W.Frag) (ad : Adr)
/-- an operation's end: the wish holds of whatever is the datum r behind new objects -/
def Fin (F H : Hp) (r : D) (Q : VK) : Prop := ∀ F' H' z, Grow F H F' H' → Rp K ad F' z r → Q z H'
def rBin (op : Operator) : R2 := fun x y H Q => ∃ F d e r, Sub F H ∧ Lk K ad F H x d ∧ Lk K ad F H y e ∧ binD op d e = some r ∧ Fin K ad F H r Q
def rCmp (op : CmpOp) : R2 := fun x y H Q => ∃ F d e b, Sub F H ∧ Lk K ad F H x d ∧ Lk K ad F H y e ∧ cmpD op d e = some b ∧ Q (.bl b) H
end
section
variable {K : PySem.W.Frag} {ad : Adr} {F H : Hp} {Q : VK}
theorem Fin.int {i : Int} (s : Sub F H) (h : Fin K ad F H (.int i) Q) : Q (.int i) H := h F H _ (.refl s) (.int i)
theorem Fin.bl {b : Bool} (s : Sub F H) (h : Fin K ad F H (.bl b) Q) : Q (.bl b) H := h F H _ (.refl s) (.bl b)
theorem Fin.str {x : Str} (s : Sub F H) (h : Fin K ad F H (.str x) Q) : Q (.str x) H := h F H _ (.refl s) (.str x)
theorem Fin.same {r : D} {v : V} (s : Sub F H) (h : Fin K ad F H r Q) (g : Rp K ad F v r) : Q v H := h F H _ (.refl s) g
theorem Fin.tup {ds : List D} {vs : List V} (s : Sub F H) (h : Fin K ad F H (.tup ds) Q) (r : RpA K ad F vs ds) : ∀ p, H p = none → Q (.ref p) (upd H p (.tup vs)) := fun p hp =>
  have g := Grow.new (o := .tup vs) s hp
  h _ _ _ g (.tup (SqT.of upd_same) (r.mono g.sub))
theorem Fin.lst {ds : List D} {vs : List V} (s : Sub F H) (h : Fin K ad F H (.lst ds) Q) (r : RpA K ad F vs ds) : ∀ p, H p = none → Q (.ref p) (upd H p (.lst vs)) := fun p hp =>
  have g := Grow.new (o := .lst vs) s hp
  h _ _ _ g (.lst upd_same (r.mono g.sub))

theorem le_of_sz {n : Nat} (h : szOk n = true) : n ≤ sizeLine := of_decide_eq_true h
variable {X : Cx}
/-! tuple * int, any count -/
theorem tuple_mulS (l : Addr) (items : Array Value) (n : Nat) (dd : Option Addr) (sl : Array (Option Value)) (x : Int) (u : Tok) (c0 : (decide (x < -(2 ^ 63)) || decide (x ≥ 2 ^ 63)) = false) (c1 : (items.isEmpty || x == 1) = true) :
    Meets (Builtin.«tuple.__mul__» ⟨[.ref l, .int x u], []⟩) (fun _ R s => s.heap.get? l = some { cls := .type "tuple", dict := dd, data := .seq items n, slots := sl } ∧
      R (.ok (.ret (Value.ref l))) s) :=
  .of_wp fun prog w A R s h => by
    obtain ⟨hp, g, d, tk, os⟩ := s
    obtain ⟨hl, h⟩ := h
    have f1 := AutoSeq1.idx_int
    wp_walk using wpAny_loadPart' hl
    repeat (first
      | (refine wpAny_ite_false (decide_eq_false (by rw [c0]; exact Bool.false_ne_true)) ?_; wp_walk using wpAny_loadPart' hl)
      | (refine wpAny_ite_true (decide_eq_true (by rw [c1])) ?_; wp_walk using wpAny_loadPart' hl))
    exact ⟨_, rfl, h⟩
theorem tuple_mul0 (l : Addr) (items : Array Value) (n : Nat) (dd : Option Addr) (sl : Array (Option Value)) (x : Int) (u : Tok) (c0 : (decide (x < -(2 ^ 63)) || decide (x ≥ 2 ^ 63)) = false) (c1 : (items.isEmpty || x == 1) = false) (c2 : (decide (x ≤ 0) || items.isEmpty) = true) :
    Meets (Builtin.«tuple.__mul__» ⟨[.ref l, .int x u], []⟩) (fun _ R s => s.heap.get? l = some { cls := .type "tuple", dict := dd, data := .seq items n, slots := sl } ∧
      R (.ok (.ret (Value.ref s.heap.objs.size))) { s with heap := s.heap.push { cls := Value.type "tuple", data := Data.seq #[] }, toks := s.toks }) :=
  .of_wp fun prog w A R s h => by
    obtain ⟨hp, g, d, tk, os⟩ := s
    obtain ⟨hl, h⟩ := h
    have f1 := AutoSeq1.idx_int
    wp_walk using wpAny_loadPart' hl
    repeat (first
      | (refine wpAny_ite_false (decide_eq_false (by rw [c0]; exact Bool.false_ne_true)) ?_; wp_walk using wpAny_loadPart' hl)
      | (refine wpAny_ite_false (decide_eq_false (by rw [c1]; exact Bool.false_ne_true)) ?_; wp_walk using wpAny_loadPart' hl)
      | (refine wpAny_ite_true (decide_eq_true (by rw [c2])) ?_; wp_walk using wpAny_loadPart' hl))
    exact ⟨_, rfl, h⟩
def rRepS (K : PySem.W.Frag) : R2 := fun x y H Q => ∃ l k xs, x = .ref l ∧ y = .int k ∧ SqT K H l xs ∧ (xs = [] ∨ k = 1) ∧ -1000 ≤ k ∧ k ≤ 1000 ∧ Q (.ref l) H
theorem op_repS : OpR X (binaryOp .Mult) (rRepS X.K) := by
  intro pins s σ H x y v u Q I rx ry h
  obtain ⟨l, k, xs, rfl, rfl, hT, hne, h1, h2, q⟩ := h
  cases rx
  obtain ⟨t, rfl⟩ := ry
  obtain ⟨its, r, ⟨⟨cls, dd, data, sl⟩, ho, hc, n, hd⟩, hs⟩ := I.tuple hT
  simp only at hc hd
  subst hc hd
  have c0 : (decide (k < -(2 ^ 63)) || decide (k ≥ 2 ^ 63)) = false := by
    rw [decide_eq_false (by omega), decide_eq_false (by omega)] <;> rfl
  have c1 : (its.toArray.isEmpty || k == 1) = true := by
    rcases hne with e | e
    · subst e
      cases r
      rfl
    · subst e
      simp
  exact wpAny_binaryOp_repeat_ref (T := "tuple") (U := "int") (by decide) ⟨_, ho, rfl⟩ (fun s' => typeIs_int s' k t) noFill_tuple_mul F.fills_int_mul F.slot_int_rmul repeat_tuple F.slot_int_index.lookup
    (call_meets F.slot_int_rmul (typeIs_int s k t) F.entry_int_rmul (F.args_int_rmul_2 _ _) (int_rmul_tuple k t l its.toArray n dd sl)
      ⟨ho, rfl, ⟨_, ho, rfl⟩, call_meets F.slot_tuple_mul ⟨_, ho, rfl⟩ F.entry_tuple_mul (F.args_tuple_mul_2 _ _) (tuple_mulS l its.toArray n dd sl k t c0 c1) ⟨ho, .ref l, H, I, rfl, q⟩⟩)
def rRep0 (K : PySem.W.Frag) : R2 := fun x y H Q => ∃ l k xs, x = .ref l ∧ y = .int k ∧ SqT K H l xs ∧ xs ≠ [] ∧ -1000 ≤ k ∧ k ≤ 0 ∧ ∀ p, H p = none → Q (.ref p) (upd H p (.tup []))
theorem op_rep0 : OpR X (binaryOp .Mult) (rRep0 X.K) := by
  intro pins s σ H x y v u Q I rx ry h
  obtain ⟨l, k, xs, rfl, rfl, hT, hne, h1, h2, q⟩ := h
  cases rx
  obtain ⟨t, rfl⟩ := ry
  obtain ⟨its, r, ⟨⟨cls, dd, data, sl⟩, ho, hc, n, hd⟩, hs⟩ := I.tuple hT
  simp only at hc hd
  subst hc hd
  have hle : its.length = xs.length := r.length.symm
  have hn : its ≠ [] := fun e => hne (by
    rw [e] at hle
    exact List.eq_nil_of_length_eq_zero hle.symm)
  have hi : its.toArray.isEmpty = false := by
    cases its with
    | nil => exact absurd rfl hn
    | cons a b => rfl
  have c0 : (decide (k < -(2 ^ 63)) || decide (k ≥ 2 ^ 63)) = false := by
    rw [decide_eq_false (by omega), decide_eq_false (by omega)] <;> rfl
  have c1 : (its.toArray.isEmpty || k == 1) = false := by
    rw [hi, Bool.false_or]
    exact beq_eq_false_iff_ne.mpr (by omega)
  have c2 : (decide (k ≤ 0) || its.toArray.isEmpty) = true := by
    rw [decide_eq_true h2]
    rfl
  refine wpAny_binaryOp_repeat_ref (T := "tuple") (U := "int") (by decide) ⟨_, ho, rfl⟩ (fun s' => typeIs_int s' k t) noFill_tuple_mul F.fills_int_mul F.slot_int_rmul repeat_tuple F.slot_int_index.lookup
    (call_meets F.slot_int_rmul (typeIs_int s k t) F.entry_int_rmul (F.args_int_rmul_2 _ _) (int_rmul_tuple k t l its.toArray n dd sl)
      ⟨ho, rfl, ⟨_, ho, rfl⟩, call_meets F.slot_tuple_mul ⟨_, ho, rfl⟩ F.entry_tuple_mul (F.args_tuple_mul_2 _ _) (tuple_mul0 l its.toArray n dd sl k t c0 c1 c2) ⟨ho, ?_⟩⟩)
  refine ⟨.ref s.heap.objs.size, _, I.laid (t' := s.toks) (o := .tup []) (fun b ob q => Heap.get?_push_of_some _ q) (Nat.le_refl _) ?_, rfl, q _ (I.hok.fresh (Nat.le_refl _))⟩
  exact ⟨by rw [sizeLine_eq]; decide, [], .nil, IsTup.new _ _⟩
theorem mulOk_ok {i j : Int} (h : mulOk i j = true) : IntMulOk i j := by
  have b : ∀ x : Int, Builtin.Int.intBits x ≤ x.natAbs.log2 + 1 := fun x => by
    unfold Builtin.Int.intBits
    split <;> omega
  have h3 : i.natAbs.log2 + j.natAbs.log2 < 100000000 := of_decide_eq_true h
  have h1 := b i
  have h2 := b j
  refine CMulX.ok ?_
  show (Builtin.Int.intBits i : Int) + (Builtin.Int.intBits j : Int) ≤ 134217728
  omega
theorem op_bin (op : Operator) : OpR X (binaryOp op) (rBin X.K ad op) := by
  intro pins s σ H x y v u Q I rx ry h
  obtain ⟨F, d, e, r, sub, lx, ly, hr, q⟩ := h
  unfold binD at hr
  split at hr
  -- int + int
  · cases hr; cases lx; cases ly
    exact op_add pins s σ H _ _ v u Q I rx ry ⟨_, _, rfl, rfl, q.int sub⟩
  -- str + str
  · split at hr
    · rename_i hz
      cases hr; cases lx; cases ly
      exact op_add_str pins s σ H _ _ v u Q I rx ry ⟨_, _, rfl, rfl, le_of_sz hz, q.str sub⟩
    · cases hr
  -- tup + tup
  · split at hr
    · rename_i hz
      cases hr
      cases lx with
      | tup a1 b1 =>
        cases ly with
        | tup a2 b2 =>
          have hz' := le_of_sz hz
          rw [← b1.len, ← b2.len] at hz'
          refine op_catA pins s σ H _ _ v u Q I rx ry ⟨_, _, _, _, rfl, rfl, SqT.mono sub a1, SqT.mono sub a2, hz', fun e => ?_, fun _ e => ?_, fun _ _ => ?_⟩
          · have e' := b1.nil_iff.mp e
            subst e e'
            exact q.same sub (.tup a2 b2)
          · have e' := b2.nil_iff.mp e
            subst e e'
            exact q.same sub (by rw [List.append_nil]; exact .tup a1 b1)
          · exact q.tup sub (b1.app b2)
    · cases hr
  -- lst + lst
  · split at hr
    · rename_i hz
      cases hr
      cases lx with
      | lst a1 b1 =>
        cases ly with
        | lst a2 b2 =>
          have hz' := le_of_sz hz
          rw [← b1.len, ← b2.len] at hz'
          exact op_cat pins s σ H _ _ v u Q I rx ry ⟨_, _, _, _, rfl, rfl, a1, a2, hz', q.lst sub (b1.app b2)⟩
    · cases hr
  -- int - int
  · cases hr; cases lx; cases ly
    exact op_sub pins s σ H _ _ v u Q I rx ry ⟨_, _, rfl, rfl, q.int sub⟩
  -- int * int
  · split at hr
    · rename_i hm
      cases hr; cases lx; cases ly
      obtain ⟨t, rfl⟩ := rx
      obtain ⟨t', rfl⟩ := ry
      exact mul_int ⟨.int _, H, I.tok _, ⟨_, rfl⟩, q.int sub⟩ (mulOk_ok hm)
    · cases hr
  -- tup * int
  · split at hr
    · rename_i hz
      cases hr
      cases lx with
      | tup a1 b1 =>
        cases ly
        simp only [Bool.and_eq_true, decide_eq_true_eq] at hz
        obtain ⟨⟨h1, h2⟩, h3⟩ := hz
        rename_i ys j _ _
        by_cases e1 : ys = [] ∨ j = 1
        · refine op_repS pins s σ H _ _ v u Q I rx ry ⟨_, _, _, rfl, rfl, SqT.mono sub a1, e1.imp b1.nil_iff.mpr id, h1, h2, ?_⟩
          have e2 : times (Int.toNat j) ys = ys := by
            rcases e1 with e | e
            · subst e; exact times_nil _
            · subst e; exact times_one _
          rw [e2] at q
          exact q.same sub (.tup a1 b1)
        · have e3 : ys ≠ [] := fun e => e1 (.inl e)
          by_cases e2 : j ≤ 0
          · refine op_rep0 pins s σ H _ _ v u Q I rx ry ⟨_, _, _, rfl, rfl, SqT.mono sub a1, fun e => e3 (b1.nil_iff.mp e), h1, e2, ?_⟩
            have e4 : times (Int.toNat j) ys = [] := by
              rw [Int.toNat_of_nonpos e2]
              rfl
            rw [e4] at q
            exact q.tup sub .nil
          · exact op_repT pins s σ H _ _ v u Q I rx ry ⟨_, _, _, rfl, rfl, SqT.mono sub a1, fun e => e3 (b1.nil_iff.mp e), by have : j ≠ 1 := fun e => e1 (.inr e); omega, h2, by rw [b1.len]; exact h3, q.tup sub (b1.rep _)⟩
    · cases hr
  -- lst * int
  · split at hr
    · rename_i hz
      cases hr
      cases lx with
      | lst a1 b1 =>
        cases ly
        simp only [Bool.and_eq_true, decide_eq_true_eq] at hz
        obtain ⟨⟨h1, h2⟩, h3⟩ := hz
        have h3' := le_of_sz h3
        rw [← b1.len] at h3'
        exact op_rep pins s σ H _ _ v u Q I rx ry ⟨_, _, _, rfl, rfl, a1, by omega, by omega, h3', q.lst sub (b1.rep _)⟩
    · cases hr
  -- //
  · split at hr
    · cases hr
    · rename_i h0
      split at hr
      · cases hr
      · rename_i hp
        cases hr; cases lx; cases ly
        obtain ⟨t, rfl⟩ := rx
        obtain ⟨t', rfl⟩ := ry
        exact floordiv_int h0 ⟨.int _, H, I.tok _, ⟨_, rfl⟩, q.int sub⟩ (.inl (by simpa using hp))
  -- %
  · split at hr
    · cases hr
    · rename_i h0
      cases hr; cases lx; cases ly
      exact op_modN pins s σ H _ _ v u Q I rx ry ⟨_, _, rfl, rfl, h0, q.int sub⟩
  -- **
  · split at hr
    · rename_i hz
      cases hr; cases lx; cases ly
      simp only [Bool.and_eq_true, decide_eq_true_eq] at hz
      obtain ⟨t, rfl⟩ := rx
      obtain ⟨t', rfl⟩ := ry
      exact pow_int hz.1 (by omega) ⟨.int _, H, I.tok _, ⟨_, rfl⟩, q.int sub⟩
    · cases hr
  · cases hr
theorem isNon_of {v : V} {d : D} (h : Lk K ad F H v d) : decide (v = .non) = isNon d := by
  cases h <;> rfl
theorem eqD_of {d e : D} {b : Bool} (h : eqD d e = some b) : ∃ p q, toPy d = some p ∧ toPy e = some q ∧ SeqAt.shaped p = true ∧ SeqAt.shaped q = true ∧ b = PyData.eqv p q := by
  unfold eqD at h
  obtain ⟨p, e1, h⟩ := Option.bind_eq_some_iff.mp h
  obtain ⟨q, e2, h⟩ := Option.bind_eq_some_iff.mp h
  split at h
  · rename_i hs
    rw [Bool.and_eq_true] at hs
    cases h
    exact ⟨p, q, e1, e2, hs.1, hs.2, rfl⟩
  · cases h
theorem one_sign {x : Str} {c : Nat} (h : x.cps.toList = [c]) : x = ⟨#[c]⟩ := by
  obtain ⟨⟨l⟩⟩ := x
  have h' : l = [c] := h
  subst h'
  rfl
theorem strs_of {F : Hp} {xs : List V} {ds : List D} {ys : List Str} (r : RpA K ad F xs ds) (h : strsD ds = some ys) : xs.all flatV = true ∧ ∀ x : Str, inV (.str x) xs = ys.any fun y => y == x := by
  induction ds generalizing xs ys with
  | nil =>
    cases r
    cases h
    exact ⟨rfl, fun x => rfl⟩
  | cons d ds ih =>
    cases r with
    | cons r1 r2 =>
      cases d with
      | str z =>
        cases r1
        obtain ⟨zs, hz, rfl⟩ := Option.map_eq_some_iff.mp (show (strsD ds).map (z :: ·) = some ys from h)
        obtain ⟨i1, i2⟩ := ih r2 hz
        refine ⟨by rw [List.all_cons, i1]; rfl, fun x => ?_⟩
        have e := i2 x
        unfold inV at e ⊢
        rw [List.any_cons, List.any_cons, e]
        rfl
      | _ => cases h
theorem ints_of {F : Hp} {xs : List V} {ds : List D} {ys : List Int} (r : RpA K ad F xs ds) (h : intsD ds = some ys) : xs.all flatV = true ∧ ∀ x : Int, inV (.int x) xs = ys.any fun y => y == x := by
  induction ds generalizing xs ys with
  | nil =>
    cases r
    cases h
    exact ⟨rfl, fun x => rfl⟩
  | cons d ds ih =>
    cases r with
    | cons r1 r2 =>
      cases d with
      | int z =>
        cases r1
        obtain ⟨zs, hz, rfl⟩ := Option.map_eq_some_iff.mp (show (intsD ds).map (z :: ·) = some ys from h)
        obtain ⟨i1, i2⟩ := ih r2 hz
        refine ⟨by rw [List.all_cons, i1]; rfl, fun x => ?_⟩
        have e := i2 x
        unfold inV at e ⊢
        rw [List.any_cons, List.any_cons, e]
        rfl
      | _ => cases h
theorem keyI_of : ∀ {k : List Key} {is : List Int}, keyI k = some is → k.map kV = is.map V.int ∧ k = is.map Sum.inl
  | [], is, h => by cases h; exact ⟨rfl, rfl⟩
  | .inl i :: r, is, h => by
    obtain ⟨js, hj, rfl⟩ := Option.map_eq_some_iff.mp (show (keyI r).map (i :: ·) = some is from h)
    obtain ⟨e1, e2⟩ := keyI_of hj
    exact ⟨by rw [List.map_cons, List.map_cons, e1]; rfl, by rw [List.map_cons, e2]⟩
  | .inr _ :: _, is, h => by cases h
theorem rpa_ints (F : Hp) : ∀ is : List Int, RpA K ad F (is.map V.int) (is.map D.int)
  | [] => .nil
  | i :: r => .cons (.int i) (rpa_ints F r)
theorem intsD_ints : ∀ is : List Int, intsD (is.map D.int) = some is
  | [] => rfl
  | i :: r => by rw [List.map_cons]; show (intsD (r.map D.int)).map (i :: ·) = _; rw [intsD_ints r]; rfl
/-! ### dicts -/
theorem key_lk {y : V} {e : D} {k : Key} {F H : Hp} (ly : Lk K ad F H y e) (h : keyD e = some k) : y = kV k := by
  cases e with
  | int i => cases h; cases ly; rfl
  | str x => cases h; cases ly; rfl
  | _ => cases h
theorem val_zip {κ : Type} [DecidableEq κ] {F : Hp} {k : κ} : ∀ {ks : List κ} {vs : List V} {ds : List D}, RpA K ad F vs ds → ks.length = vs.length →
    (∀ d, valD ks ds k = some d → ∃ v, valV (ks.zip vs) k = some v ∧ Rp K ad F v d) ∧ (valD ks ds k = none → valV (ks.zip vs) k = none)
  | [], _, _, .nil, _ => ⟨fun d h => (by simp [valD] at h), fun _ => rfl⟩
  | j :: ks, _, _, .nil, h => by simp at h
  | [], _, _, .cons _ _, h => by simp at h
  | j :: ks, v :: vs, d :: ds, .cons r1 r2, h => by
    obtain ⟨i1, i2⟩ := val_zip (k := k) (ks := ks) r2 (by simpa using h)
    rw [List.zip_cons_cons]
    by_cases e : j = k
    · have w : valV ((j, v) :: ks.zip vs) k = some v := valV_pos (p := (j, v)) e
      refine ⟨fun d' q => ?_, fun q => ?_⟩
      · simp only [valD, if_pos e] at q
        cases q
        exact ⟨v, w, r1⟩
      · simp only [valD, if_pos e] at q
        cases q
    · have w : valV ((j, v) :: ks.zip vs) k = valV (ks.zip vs) k := valV_neg (p := (j, v)) e
      simp only [valD, if_neg e]
      rw [w]
      exact ⟨i1, i2⟩
theorem dget_of {x y : V} {d e : D} {o : Option D} {F H : Hp} (sub : Sub F H) (lx : Lk K ad F H x d) (ly : Lk K ad F H y e) (h : dgetD d e = some o) :
    ∃ a r, x = .ref a ∧ DGet H a y r ∧ (∀ d', o = some d' → ∃ v, r = some v ∧ Rp K ad F v d') ∧ (o = none → r = none) := by
  unfold dgetD at h
  split at h
  · obtain ⟨k, hk, rfl⟩ := Option.map_eq_some_iff.mp h
    cases lx with
    | @dK a ks vs ds h1 h2 h3 =>
      obtain ⟨i1, i2⟩ := val_zip (k := k) h3 h2
      exact ⟨a, _, rfl, .inl ⟨_, k, h1, key_lk ly hk, rfl⟩, i1, i2⟩
  · rename_i k
    cases h
    cases lx with
    | @dT a ks vs ds h1 h2 h3 =>
      cases ly with
      | @ktp b k hb =>
        obtain ⟨i1, i2⟩ := val_zip (k := k) h3 h2
        exact ⟨a, _, rfl, .inr ⟨_, k, b, h1, rfl, sub _ _ hb, rfl⟩, i1, i2⟩
  · cases h
theorem any_zip {κ α : Type} [DecidableEq κ] (j : κ) : ∀ {ks : List κ} {vs : List α}, ks.length = vs.length → ((ks.zip vs).any fun kv => decide (kv.1 = j)) = ks.any fun k => decide (k = j)
  | [], [], _ => rfl
  | [], _ :: _, h => by simp at h
  | _ :: _, [], h => by simp at h
  | k :: ks, v :: vs, h => by rw [List.zip_cons_cons, List.any_cons, List.any_cons, any_zip j (by simpa using h)]
theorem map_zipK {κ : Type} [DecidableEq κ] (j : κ) (u : V) : ∀ {ks : List κ} {vs : List V}, ks.length = vs.length →
    ((ks.zip vs).map fun kv => if kv.1 = j then (kv.1, u) else kv) = ks.zip (List.zipWith (fun k b => if k = j then u else b) ks vs)
  | [], [], _ => rfl
  | [], _ :: _, h => by simp at h
  | _ :: _, [], h => by simp at h
  | k :: ks, v :: vs, h => by
    rw [List.zip_cons_cons, List.map_cons, List.zipWith_cons_cons, List.zip_cons_cons, map_zipK j u (by simpa using h)]
    dsimp only
    split <;> rfl
theorem put_zip {κ : Type} [DecidableEq κ] {ks : List κ} {vs : List V} (j : κ) (u : V) (h : ks.length = vs.length) : putK (ks.zip vs) j u = (putKs ks j).zip (putA ks vs j u) := by
  unfold putK putKs putA
  rw [any_zip j h]
  split
  · exact map_zipK j u h
  · rw [List.zip_append h]; rfl
theorem put_len {κ α : Type} [DecidableEq κ] {ks : List κ} {vs : List α} (j : κ) (u : α) (h : ks.length = vs.length) : (putKs ks j).length = (putA ks vs j u).length := by
  unfold putKs putA
  split
  · rw [List.length_zipWith, ← h, Nat.min_self]
  · rw [List.length_append, List.length_append, h]; rfl
theorem put_rel {κ : Type} [DecidableEq κ] {F : Hp} {j : κ} {u : V} {e : D} (ru : Rp K ad F u e) {ks : List κ} {vs : List V} {ds : List D} (r : RpA K ad F vs ds) : RpA K ad F (putA ks vs j u) (putA ks ds j e) := by
  unfold putA
  split
  · rename_i hx
    clear hx
    induction ks generalizing vs ds with
    | nil => exact .nil
    | cons k ks ih =>
      cases r with
      | nil => exact .nil
      | cons r1 r2 =>
        rw [List.zipWith_cons_cons, List.zipWith_cons_cons]
        refine .cons ?_ (ih r2)
        split
        · exact ru
        · exact r1
  · exact RpA.app r (.cons ru .nil)
theorem zip_len {κ α : Type} {ks : List κ} {vs : List α} (h : ks.length = vs.length) : (ks.zip vs).length = ks.length := by
  rw [List.length_zip, ← h, Nat.min_self]
theorem inD_of {d : D} {ds : List D} {b : Bool} (h : inD d ds = some b) : ∃ p ps, toPy d = some p ∧ toPys ds = some ps ∧ SeqAt.shaped p = true ∧ SeqAt.shaped (.tuple ps) = true ∧ SeqAt.shaped (.list ps) = true ∧ p.depth ≤ 40 ∧ b = ps.any fun z => PyData.eqv z p := by
  unfold inD at h
  obtain ⟨p, e1, h⟩ := Option.bind_eq_some_iff.mp h
  obtain ⟨ps, e2, h⟩ := Option.bind_eq_some_iff.mp h
  split at h
  · rename_i hs
    simp only [Bool.and_eq_true, decide_eq_true_eq] at hs
    cases h
    exact ⟨p, ps, e1, e2, hs.1.1.1, hs.1.1.2, hs.1.2, hs.2, rfl⟩
  · cases h
/-- x in a tuple or list of data of any depth -/
def rInT (K : PySem.W.Frag) (neg : Bool) : R2 := fun x y H Q => ∃ d ds, d.depth ≤ 40 ∧ Dp K H x d ∧ (Dp K H y (.tuple ds) ∨ Dp K H y (.list ds)) ∧ SeqAt.shaped d = true ∧ SeqAt.shaped (.tuple ds) = true ∧ SeqAt.shaped (.list ds) = true ∧ Q (.bl (if neg then !ds.any fun z => PyData.eqv z d else ds.any fun z => PyData.eqv z d)) H
theorem op_inT (hu : X.A.units + 42 < cLine) : OpR X (compareOp .In) (rInT X.K false) := by
  intro pins s σ H x y v u Q I rx ry h
  obtain ⟨d, ds, dp, hd, he, sd, st, sl, q⟩ := h
  obtain ⟨as, r1⟩ := Dp.reads I d x v hd rx
  rcases he with he | he
  · obtain ⟨bs, r2⟩ := Dp.reads I (.tuple ds) y u he ry
    exact SeqAt.in_tuple_reads r2 r1 (SeqAt.canLay_of_shaped st) (SeqAt.canLay_of_shaped sd) (by omega) ⟨.bl _, H, I, rfl, q⟩
  · obtain ⟨bs, r2⟩ := Dp.reads I (.list ds) y u he ry
    exact SeqAt.in_list_reads r2 r1 (SeqAt.canLay_of_shaped sl) (SeqAt.canLay_of_shaped sd) (by omega) ⟨.bl _, H, I, rfl, q⟩
theorem op_notInT (hu : X.A.units + 42 < cLine) : OpR X (compareOp .NotIn) (rInT X.K true) := by
  intro pins s σ H x y v u Q I rx ry h
  obtain ⟨d, ds, dp, hd, he, sd, st, sl, q⟩ := h
  obtain ⟨as, r1⟩ := Dp.reads I d x v hd rx
  rcases he with he | he
  · obtain ⟨bs, r2⟩ := Dp.reads I (.tuple ds) y u he ry
    exact SeqAt.notIn_tuple_reads r2 r1 (SeqAt.canLay_of_shaped st) (SeqAt.canLay_of_shaped sd) (by omega) ⟨.bl _, H, I, rfl, q⟩
  · obtain ⟨bs, r2⟩ := Dp.reads I (.list ds) y u he ry
    exact SeqAt.notIn_list_reads r2 r1 (SeqAt.canLay_of_shaped sl) (SeqAt.canLay_of_shaped sd) (by omega) ⟨.bl _, H, I, rfl, q⟩
theorem op_cmp (op : CmpOp) (hu : X.A.units + 64 < cLine) : OpR X (compareOp op) (rCmp X.K ad op) := by
  intro pins s σ H x y v u Q I rx ry h
  obtain ⟨F, d, e, b, sub, lx, ly, hr, q⟩ := h
  unfold cmpD at hr
  split at hr
  · cases hr; cases lx; cases ly
    refine op_eq pins s σ H _ _ v u Q I rx ry ⟨rfl, ?_⟩
    rw [decide_eq_decide.mpr (show (V.str _ = V.str _) ↔ _ from ⟨fun z => V.str.inj z, fun z => congrArg V.str z⟩)]
    exact q
  · cases hr; cases lx; cases ly
    refine op_ne pins s σ H _ _ v u Q I rx ry ⟨rfl, ?_⟩
    rw [decide_eq_decide.mpr (show (V.str _ = V.str _) ↔ _ from ⟨fun z => V.str.inj z, fun z => congrArg V.str z⟩)]
    exact q
  · obtain ⟨p1, p2, e1, e2, s1, s2, rfl⟩ := eqD_of hr
    exact op_eqD hu pins s σ H _ _ v u Q I rx ry ⟨_, _, lx.dp sub e1, ly.dp sub e2, s1, s2, q⟩
  · obtain ⟨b', hb, rfl⟩ := Option.map_eq_some_iff.mp hr
    obtain ⟨p1, p2, e1, e2, s1, s2, rfl⟩ := eqD_of hb
    exact op_neD hu pins s σ H _ _ v u Q I rx ry ⟨_, _, lx.dp sub e1, ly.dp sub e2, s1, s2, q⟩
  · cases hr; cases lx; cases ly
    exact op_le_str pins s σ H _ _ v u Q I rx ry ⟨_, _, rfl, rfl, q⟩
  · split at hr
    · rename_i c hc
      cases hr; cases lx; cases ly
      exact op_in_sign pins s σ H _ _ v u Q I rx ry ⟨c, _, by rw [one_sign hc], rfl, q⟩
    · cases hr
  · split at hr
    · rename_i c hc
      cases hr; cases lx; cases ly
      exact op_notIn_sign pins s σ H _ _ v u Q I rx ry ⟨c, _, by rw [one_sign hc], rfl, q⟩
    · cases hr
  · obtain ⟨ys, hy, rfl⟩ := Option.map_eq_some_iff.mp hr
    cases lx
    cases ly with
    | tup a1 a2 =>
      exact op_in_seq pins s σ H _ _ v u Q I rx ry ⟨_, _, rfl, .inr (SqT.mono sub a1), rfl, (ints_of a2 hy).1, by rw [← (ints_of a2 hy).2] at q; exact q⟩
  · obtain ⟨ys, hy, rfl⟩ := Option.map_eq_some_iff.mp hr
    cases lx
    cases ly with
    | tup a1 a2 =>
      exact op_notIn_seq pins s σ H _ _ v u Q I rx ry ⟨_, _, rfl, .inr (SqT.mono sub a1), rfl, (ints_of a2 hy).1, by rw [← (ints_of a2 hy).2] at q; exact q⟩
  · obtain ⟨ys, hy, rfl⟩ := Option.map_eq_some_iff.mp hr
    cases lx
    cases ly with
    | ktp a1 =>
      have a2 := rpa_ints (K := X.K) (ad := ad) F ys
      have a3 := intsD_ints ys
      rw [(keyI_of hy).1] at a1
      exact op_in_seq pins s σ H _ _ v u Q I rx ry ⟨_, _, rfl, .inr (SqT.mono sub (.inl (.inl a1))), rfl, (ints_of a2 a3).1, by rw [← (ints_of a2 a3).2] at q; exact q⟩
  · obtain ⟨ys, hy, rfl⟩ := Option.map_eq_some_iff.mp hr
    cases lx
    cases ly with
    | ktp a1 =>
      have a2 := rpa_ints (K := X.K) (ad := ad) F ys
      have a3 := intsD_ints ys
      rw [(keyI_of hy).1] at a1
      exact op_notIn_seq pins s σ H _ _ v u Q I rx ry ⟨_, _, rfl, .inr (SqT.mono sub (.inl (.inl a1))), rfl, (ints_of a2 a3).1, by rw [← (ints_of a2 a3).2] at q; exact q⟩
  · obtain ⟨ys, hy, rfl⟩ := Option.map_eq_some_iff.mp hr
    cases lx
    cases ly with
    | tup a1 a2 =>
      exact op_in_seq pins s σ H _ _ v u Q I rx ry ⟨_, _, rfl, .inr (SqT.mono sub a1), rfl, (strs_of a2 hy).1, by rw [← (strs_of a2 hy).2] at q; exact q⟩
  · obtain ⟨ys, hy, rfl⟩ := Option.map_eq_some_iff.mp hr
    cases lx
    cases ly with
    | tup a1 a2 =>
      exact op_notIn_seq pins s σ H _ _ v u Q I rx ry ⟨_, _, rfl, .inr (SqT.mono sub a1), rfl, (strs_of a2 hy).1, by rw [← (strs_of a2 hy).2] at q; exact q⟩
  · obtain ⟨p, ps, e1, e2, s1, s2, s3, dp, rfl⟩ := inD_of hr
    cases ly with
    | tup a1 a2 => exact op_inT (by omega) pins s σ H _ _ v u Q I rx ry ⟨p, ps, dp, lx.dp sub e1, .inl (.tup (SqT.mono sub a1) (RpA.dp sub a2 e2)), s1, s2, s3, q⟩
  · obtain ⟨b', hb, rfl⟩ := Option.map_eq_some_iff.mp hr
    obtain ⟨p, ps, e1, e2, s1, s2, s3, dp, rfl⟩ := inD_of hb
    cases ly with
    | tup a1 a2 => exact op_notInT (by omega) pins s σ H _ _ v u Q I rx ry ⟨p, ps, dp, lx.dp sub e1, .inl (.tup (SqT.mono sub a1) (RpA.dp sub a2 e2)), s1, s2, s3, q⟩
  · obtain ⟨p, ps, e1, e2, s1, s2, s3, dp, rfl⟩ := inD_of hr
    cases ly with
    | lst a1 a2 => exact op_inT (by omega) pins s σ H _ _ v u Q I rx ry ⟨p, ps, dp, lx.dp sub e1, .inr (.lst (SqL.of a1) (RpA.dp sub a2 e2)), s1, s2, s3, q⟩
  · obtain ⟨b', hb, rfl⟩ := Option.map_eq_some_iff.mp hr
    obtain ⟨p, ps, e1, e2, s1, s2, s3, dp, rfl⟩ := inD_of hb
    cases ly with
    | lst a1 a2 => exact op_notInT (by omega) pins s σ H _ _ v u Q I rx ry ⟨p, ps, dp, lx.dp sub e1, .inr (.lst (SqL.of a1) (RpA.dp sub a2 e2)), s1, s2, s3, q⟩
  · cases hr; cases lx; cases ly
    exact op_lt pins s σ H _ _ v u Q I rx ry ⟨_, _, rfl, rfl, q⟩
  · cases hr; cases lx; cases ly
    exact op_le pins s σ H _ _ v u Q I rx ry ⟨_, _, rfl, rfl, q⟩
  · cases hr; cases lx; cases ly
    exact op_gt pins s σ H _ _ v u Q I rx ry ⟨_, _, rfl, rfl, q⟩
  · cases hr; cases lx; cases ly
    exact op_ge pins s σ H _ _ v u Q I rx ry ⟨_, _, rfl, rfl, q⟩
  · cases hr; cases ly
    exact op_isN pins s σ H _ _ v u Q I rx ry ⟨rfl, by rw [isNon_of lx]; exact q⟩
  · cases hr; cases ly
    exact op_notN pins s σ H _ _ v u Q I rx ry ⟨rfl, by rw [isNon_of lx]; exact q⟩
  · cases hr; cases lx; cases ly
    exact op_isBl pins s σ H _ _ v u Q I rx ry ⟨_, _, rfl, rfl, q⟩
  · cases hr; cases lx; cases ly
    exact op_notBl pins s σ H _ _ v u Q I rx ry ⟨_, _, rfl, rfl, q⟩
  · cases hr
/-! ### truth -/
variable (K ad) in
def rTru (x : V) (H : Hp) (Q : Bool → Hp → Prop) : Prop := ∃ F d b, Sub F H ∧ Lk K ad F H x d ∧ truD d = some b ∧ Q b H
theorem isEmpty_of_len {α β : Type} {xs : List α} {ys : List β} (h : xs.length = ys.length) : xs.isEmpty = ys.isEmpty := by
  cases xs <;> cases ys <;> simp_all
theorem tru_d : TruR X (rTru X.K ad) := by
  intro pins s σ H x v Q I rx h
  obtain ⟨F, d, b, sub, lx, hb, q⟩ := h
  refine tru_ok pins s σ H x v Q I rx ⟨b, ?_, q⟩
  cases lx with
  | non => cases hb; rfl
  | bl b => cases hb; rfl
  | int i => cases hb; rfl
  | str y =>
    have hb' : (if szOk y.length = true then some ((y.length : Int) != 0) else none) = some b := hb
    split at hb'
    · rename_i hz
      cases hb'
      exact ⟨le_of_sz hz, rfl⟩
    · cases hb'
  | obj k => cases hb
  | tup a b1 =>
    cases hb
    exact .inr (.inl ⟨_, SqT.mono sub a, by rw [isEmpty_of_len b1.len]⟩)
  | lst a b1 =>
    cases hb
    exact .inl ⟨_, SqL.of a, by rw [isEmpty_of_len b1.len]⟩
  | scr a b1 => cases hb
  | dct a => cases hb
  | dK a => cases hb
  | dT a => cases hb
  | ktp a => cases hb
  | er0 a => cases hb
  | er1 a => cases hb
/-! ### subscripts, slices -/
variable (K ad) in
def rSub : R2 := fun x y H Q => ∃ F d e r, Sub F H ∧ Lk K ad F H x d ∧ Lk K ad F H y e ∧ subD d e = some r ∧ Fin K ad F H r Q
theorem ixD_eq (n : Nat) (i : Int) : ixD n i = ixN n i := rfl
theorem at_of {vs : List V} {ds : List D} {i : Int} {d : D} (r : RpA K ad F vs ds) (h : (ixD ds.length i).bind (fun j => ds[j]?) = some d) : ∃ v, atI vs i = some v ∧ Rp K ad F v d := by
  obtain ⟨j, e1, e2⟩ := Option.bind_eq_some_iff.mp h
  obtain ⟨v, h1, h2⟩ := r.get e2
  refine ⟨v, ?_, h2⟩
  unfold atI
  rw [r.len, ← ixD_eq, e1]
  exact h1
theorem ix_dic (hu : X.A.units + 1 < cLine) : IxR X (fun x y H Q => ∃ a v, x = .ref a ∧ DGet H a y (some v) ∧ Q v H) := by
  intro value slice pins s σ H x y v u Q I rx ry h hs
  obtain ⟨a, w, rfl, g, q⟩ := h
  cases (show v = Value.ref a from rx)
  exact tail_any (dict_typeIs I g) PySem.F.slot_dict_getitem.lookup (d_getItem hu I g ry fun w' s3 I3 rw' => ⟨w, H, I3, rw', q⟩) hs
theorem ix_d (hu : X.A.units + 64 < cLine) : IxR X (rSub X.K ad) := by
  intro value slice pins s σ H x y v u Q I rx ry h hs
  obtain ⟨F, d, e, r, sub, lx, ly, hr, q⟩ := h
  unfold subD at hr
  split at hr
  · rename_i z i
    split at hr
    · rename_i hz
      cases ly; cases lx
      obtain ⟨j, e1, e2⟩ := Option.bind_eq_some_iff.mp hr
      obtain ⟨c, e3, rfl⟩ := Option.map_eq_some_iff.mp e2
      exact ix_str value slice pins s σ H _ _ v u Q I rx ry ⟨_, _, c, rfl, rfl, le_of_sz hz, by unfold atI; rw [← ixD_eq, e1]; exact e3, q.str sub⟩ hs
    · cases hr
  · cases ly
    cases lx with
    | tup a b =>
      obtain ⟨w, e1, e2⟩ := at_of b hr
      exact ix_tup value slice pins s σ H _ _ v u Q I rx ry ⟨_, _, _, _, rfl, rfl, SqT.mono sub a, e1, q.same sub e2⟩ hs
  · cases ly
    cases lx with
    | lst a b =>
      obtain ⟨w, e1, e2⟩ := at_of b hr
      exact ix_list value slice pins s σ H _ _ v u Q I rx ry ⟨_, _, _, _, rfl, rfl, SqL.of a, e1, q.same sub e2⟩ hs
  · cases ly
    cases lx with
    | scr a b =>
      obtain ⟨w, e1, e2⟩ := at_of b hr
      exact ix_list value slice pins s σ H _ _ v u Q I rx ry ⟨_, _, _, _, rfl, rfl, SqL.mono sub a, e1, q.same sub e2⟩ hs
  · rename_i ks ds k
    obtain ⟨k', hk, hv⟩ := Option.bind_eq_some_iff.mp hr
    obtain ⟨a, r', e0, g, i1, _⟩ := dget_of (o := some r) sub lx ly (by simp only [dgetD, hk, Option.map_some, hv])
    obtain ⟨w, rfl, rw'⟩ := i1 r rfl
    exact ix_dic (by omega) value slice pins s σ H _ _ v u Q I rx ry ⟨a, w, e0, g, q.same sub rw'⟩ hs
  · rename_i ks ds k
    obtain ⟨a, r', e0, g, i1, _⟩ := dget_of (o := some r) sub lx ly (by simp only [dgetD, hr])
    obtain ⟨w, rfl, rw'⟩ := i1 r rfl
    exact ix_dic (by omega) value slice pins s σ H _ _ v u Q I rx ry ⟨a, w, e0, g, q.same sub rw'⟩ hs
  · cases hr
theorem endIx_eq (n d : Nat) (o : Option Int) : endIx n d o = HT.sIx n d o := by
  cases o <;> rfl
variable (K ad) in
def rSlc : V → Option Int → Option Int → Hp → VK → Prop := fun x lo hi H Q => ∃ F d r, Sub F H ∧ Lk K ad F H x d ∧ slcD d lo hi = some r ∧ Fin K ad F H r Q
theorem cut_len {vs : List V} {ds : List D} (r : RpA K ad F vs ds) (lo hi : Option Int) : RpA K ad F (cutV vs lo hi) (cutD ds lo hi) := by
  unfold cutV cutD
  rw [endIx_eq, endIx_eq, ← r.len]
  exact (r.drop _).take _
theorem sl_d : SlR X (rSlc X.K ad) := by
  intro pins s σ H x v vl vu lo hi sl Q I rx hsl pl pu h
  obtain ⟨F, d, r, sub, lx, hr, q⟩ := h
  unfold slcD at hr
  split at hr
  · cases hr
    cases lx with
    | tup a b =>
      refine sl_tupA pins s σ H _ v vl vu lo hi sl Q I rx hsl pl pu ⟨_, _, rfl, SqT.mono sub a, fun hw => ?_, fun _ => q.tup sub (cut_len b lo hi)⟩
      refine q.same sub (.tup a ?_)
      rename_i vs
      have e : cutV vs lo hi = vs := by
        unfold cutV
        rw [hw.1, hw.2, List.drop_zero, Nat.sub_zero, List.take_length]
      have := cut_len b lo hi
      rw [e] at this
      exact this
  · cases hr
    cases lx with
    | lst a b => exact sl_list pins s σ H _ v vl vu lo hi sl Q I rx hsl pl pu ⟨_, _, rfl, SqL.of a, q.lst sub (cut_len b lo hi)⟩
  · cases hr
end
end EV

set_option Elab.async false
set_option linter.all false
set_option maxRecDepth 100000
/-! EV, part D: built-ins by values. -/
namespace EV
open PySem PySem.Spec PyProof.Rows L2
section
variable (K : PySem.W.Frag) (ad : Adr)
inductive LkA (F H : Hp) : List V → List D → Prop
  | nil : LkA F H [] []
  | cons {v : V} {vs : List V} {d : D} {ds : List D} : Lk K ad F H v d → LkA F H vs ds → LkA F H (v :: vs) (d :: ds)
def rBlt (b : Bt) : List V → Hp → VK → Prop := fun xs H Q => ∃ F ds r, Sub F H ∧ LkA K ad F H xs ds ∧ bltD b ds = some r ∧ Fin K ad F H r Q
end
section
variable {K : PySem.W.Frag} {ad : Adr} {F H : Hp} {Q : VK}
theorem LkA.one {xs : List V} {d : D} (h : LkA K ad F H xs [d]) : ∃ x, xs = [x] ∧ Lk K ad F H x d := by
  cases h with
  | cons a b => cases b; exact ⟨_, rfl, a⟩
theorem LkA.two {xs : List V} {d e : D} (h : LkA K ad F H xs [d, e]) : ∃ x y, xs = [x, y] ∧ Lk K ad F H x d ∧ Lk K ad F H y e := by
  cases h with
  | cons a b =>
    obtain ⟨y, rfl, c⟩ := LkA.one b
    exact ⟨_, _, rfl, a, c⟩
theorem all_bls : ∀ {ds : List D} {vs : List V} {b : Bool}, RpA K ad F vs ds → allD ds = some b → ∃ bs : List Bool, vs = bs.map V.bl ∧ b = bs.all id
  | [], _, _, h, e => by cases h; cases e; exact ⟨[], rfl, rfl⟩
  | d :: ds, _, b, h, e => by
    cases h with
    | cons a r =>
      cases a with
      | bl c =>
        have e' : (allD ds).map (c && ·) = some b := e
        obtain ⟨b', h1, rfl⟩ := Option.map_eq_some_iff.mp e'
        obtain ⟨bs, rfl, rfl⟩ := all_bls r h1
        exact ⟨c :: bs, rfl, rfl⟩
      | non => cases e
      | int _ => cases e
      | str _ => cases e
      | obj _ => cases e
      | tup _ _ => cases e
      | lst _ _ => cases e
      | scr _ _ => cases e
      | dct _ => cases e
      | dK _ _ _ => cases e
      | dT _ _ _ => cases e
      | ktp _ => cases e
      | er0 _ => cases e
      | er1 _ _ _ => cases e
theorem any_bls : ∀ {ds : List D} {vs : List V} {b : Bool}, RpA K ad F vs ds → anyD ds = some b → ∃ bs : List Bool, vs = bs.map V.bl ∧ b = bs.any id
  | [], _, _, h, e => by cases h; cases e; exact ⟨[], rfl, rfl⟩
  | d :: ds, _, b, h, e => by
    cases h with
    | cons a r =>
      cases a with
      | bl c =>
        have e' : (anyD ds).map (c || ·) = some b := e
        obtain ⟨b', h1, rfl⟩ := Option.map_eq_some_iff.mp e'
        obtain ⟨bs, rfl, rfl⟩ := any_bls r h1
        exact ⟨c :: bs, rfl, rfl⟩
      | non => cases e
      | int _ => cases e
      | str _ => cases e
      | obj _ => cases e
      | tup _ _ => cases e
      | lst _ _ => cases e
      | scr _ _ => cases e
      | dct _ => cases e
      | dK _ _ _ => cases e
      | dT _ _ _ => cases e
      | ktp _ => cases e
      | er0 _ => cases e
      | er1 _ _ _ => cases e
def btVal : Bt → Value
  | .len => .builtin "len"
  | .abs => .builtin "abs"
  | .int => .type "int"
  | .bool => .type "bool"
  | .max2 => .builtin "max"
  | .min2 => .builtin "min"
  | .tuple => .type "tuple"
  | .list => .type "list"
  | .all => .builtin "all"
  | .any => .builtin "any"
  | .repr => .builtin "repr"
  | .sum => .builtin "sum"
  | .max1 => .builtin "max"
  | .min1 => .builtin "min"
  | .sorted => .builtin "sorted"
  | .ktuple => .type "tuple"
variable {X : Cx}
theorem reprD_of {d : D} {x : Str} (nd : ∀ kvs, d ≠ .dct kvs) (h : reprD d = some x) : ∃ p, toPy d = some p ∧ p.showable = true ∧ p.depth ≤ 40 ∧ p.shown.length ≤ sizeLine ∧ SeqAt.shaped p = true ∧ x = p.shown := by
  have h : ((toPy d).bind fun p => if p.showable && decide (p.depth ≤ 40) && szOk p.shown.length && SeqAt.shaped p then some p.shown else none) = some x := by
    cases d <;> first | exact h | exact absurd rfl (nd _)
  obtain ⟨p, e1, h⟩ := Option.bind_eq_some_iff.mp h
  split at h
  · rename_i hs
    simp only [Bool.and_eq_true, decide_eq_true_eq] at hs
    cases h
    exact ⟨p, e1, hs.1.1.1, hs.1.1.2, le_of_sz hs.1.2, hs.2, rfl⟩
  · cases h
theorem dct_all {P : Program} {w : World} {h : Heap} : ∀ (kvs : List (Int × Int)) (vs : List (Key × Value)) (es : List DictEntry), KV (kvs.map fun p => ((Sum.inl p.1 : Key), V.int p.2)) vs → Pairs (mixKind P w) es vs →
    ReadsAll h (es.map (·.key)) ((kvs.map fun q => (PyData.int q.1, PyData.int q.2)).map (·.1)) [] ∧ ReadsAll h (es.map (·.val)) ((kvs.map fun q => (PyData.int q.1, PyData.int q.2)).map (·.2)) []
  | [], _, es, r, q => by
    rw [List.map_nil] at r
    cases r
    cases q
    exact ⟨.nil, .nil⟩
  | p :: kvs, _, es, r, q => by
    rw [List.map_cons] at r
    cases r with
    | @cons a b as bs h1 t =>
      cases q with
      | @cons e kv es' kvs' k1 k2 k3 =>
        obtain ⟨g1, g2⟩ := dct_all kvs _ _ t k3
        obtain ⟨b1, b2⟩ := b
        obtain ⟨e1, e2⟩ := h1
        dsimp only at e1 e2 k1 k2
        subst e1
        obtain ⟨tk, rfl⟩ := e2
        obtain ⟨hs, ky, vl⟩ := e
        dsimp only at k2
        subst k2
        rcases keyIs_shape (show keyIs (Sum.inl p.1) ky = true from k1) with ⟨i, t2, z, rfl⟩ | ⟨x, t2, z, rfl⟩
        · cases z
          exact ⟨.cons (as := []) (bs := []) (.int _ _) g1, .cons (as := []) (bs := []) (.int _ _) g2⟩
        · cases z
/-- a datum that has a repr, read off the heap -/
theorem reads_r {pins : List (Addr × Obj)} {σ : L2.St} {s : Shared} {v : V} {u : Value} {d : D} {y : Str} (I : L2.Inv X pins σ H s) (sub : Sub F H) (l : Lk X.K ad F H v d) (ru : RelV v u) (h : reprD d = some y) :
    ∃ p as, Reads s.heap u p as ∧ p.showable = true ∧ (p.hasDict = true → sysModules ∉ as) ∧ p.depth ≤ 40 ∧ y.length ≤ sizeLine ∧ y = p.shown := by
  by_cases nd : ∀ kvs, d ≠ .dct kvs
  · obtain ⟨p, e1, h1, h2, h3, h4, rfl⟩ := reprD_of nd h
    obtain ⟨as, rd⟩ := Dp.reads I p v u (l.dp sub e1) ru
    exact ⟨p, as, rd, h1, PyData.noDict_hsm (PyData.hasDict_of_canLay _ (SeqAt.canLay_of_shaped h4)), h2, h3, rfl⟩
  · obtain ⟨kvs, hk⟩ : ∃ kvs, d = .dct kvs := Classical.byContradiction fun z => nd fun kvs e => z ⟨kvs, e⟩
    subst hk
    cases l with
    | dct e =>
      cases ru
      simp only [reprD] at h
      split at h
      · rename_i hs
        simp only [Bool.and_eq_true, decide_eq_true_eq] at hs
        cases h
        obtain ⟨hz, ne, vs, kv, o, es, ep, ho, hx, hd, _, pr, _⟩ := dk_of I.hok e
        obtain ⟨g1, g2⟩ := dct_all (h := s.heap) kvs vs es.toList kv pr
        refine ⟨_, _, .dict ho hx.1 hd g1 g2, hs.1.1, fun _ hm => ?_, hs.1.2, le_of_sz hs.2, rfl⟩
        have ne' := beq_eq_false_iff_ne.mp ne
        simp at hm
        exact ne' hm.symm
      · cases h
theorem call_reprD (hg : X.A.guards = some []) (hu : X.A.units + 64 < cLine) : CallR X (.builtin "repr") (rBlt X.K ad .repr) := by
  intro pins s σ H xs us Q I r h
  obtain ⟨F, ds, z, sub, lk, hb, q⟩ := h
  unfold bltD at hb
  split at hb <;> first | (cases hb; done) | skip
  all_goals try contradiction
  obtain ⟨x, hx, rfl⟩ := Option.map_eq_some_iff.mp hb
  obtain ⟨v, rfl, l⟩ := lk.one
  obtain ⟨u, rfl, ru⟩ := vals1 r
  obtain ⟨p, as, rd, h1, h2, h3, h4, rfl⟩ := reads_r I sub l ru hx
  have fin : ∀ (h' : Heap) (t : Tok) (tk : Nat), (∀ b o, s.heap.get? b = some o → h'.get? b = some o) → EP X pins σ Q (.str p.shown t) { s with heap := h', toks := tk } :=
    fun h' t tk k => ⟨.str p.shown, H, I.kept k, ⟨t, rfl⟩, q.str sub⟩
  have fin0 : ∀ (t : Tok) (tk : Nat), EP X pins σ Q (.str p.shown t) { s with toks := tk } := fun t tk => fin s.heap t tk fun _ _ e => e
  cases rd with
  | none => exact PySem.P.repr_of_none (fin0 _ _)
  | bool b => exact PySem.P.repr_of_bool (fin0 _ _)
  | int i t => exact PySem.P.repr_of_int (of_decide_eq_true h1) (fin0 _ _)
  | str y t => exact PySem.P.repr_of_str (fin0 _ _) h4
  | list e1 e2 e3 e4 => exact repr_of_reads' (.list e1 e2 e3 e4) h1 h2 hg (by omega) (fun _ _ e => e) (fun h' t tk k => fin h' t tk k) h4
  | tuple e1 e2 e3 e4 => exact repr_of_reads' (.tuple e1 e2 e3 e4) h1 h2 hg (by omega) (fun _ _ e => e) (fun h' t tk k => fin h' t tk k) h4
  | dict e1 e2 e3 e4 e5 => exact repr_of_reads' (.dict e1 e2 e3 e4 e5) h1 h2 hg (by omega) (fun _ _ e => e) (fun h' t tk k => fin h' t tk k) h4
/-- what an __init__ may ask of a datum -/
theorem shows_d {pins : List (Addr × Obj)} {σ : L2.St} {s : Shared} {v : V} {u : Value} {d : D} {A : Around} (I : L2.Inv X pins σ H s) (sub : Sub F H) (l : Lk X.K ad F H v d) (ru : RelV v u) (hg : A.guards = some []) (hu : A.units + 64 < cLine) :
    Shows X.prog X.w A s u (reprD d) (plainD d) where
  r := fun y hy hz E h t Q k q => by
    obtain ⟨p, as, rd, h1, h2, h3, h4, rfl⟩ := reads_r I sub l ru hy
    have now : ∀ k' tk, Q (.str p.shown k') (Later s h tk) := fun k' tk => q h k' tk fun _ _ e => e
    cases rd with
    | none => exact pyReprObj_none (now _ _)
    | bool b => exact pyReprObj_bool (now _ _)
    | int i t => exact pyReprObj_int (of_decide_eq_true h1) (now _ _)
    | str y t => exact pyReprObj_str (now _ _) h4
    | list e1 e2 e3 e4 => exact pyReprObj_of_reads (.list e1 e2 e3 e4) h1 h2 hg (by omega) k (fun h' t tk k2 => q h' t tk k2) h4
    | tuple e1 e2 e3 e4 => exact pyReprObj_of_reads (.tuple e1 e2 e3 e4) h1 h2 hg (by omega) k (fun h' t tk k2 => q h' t tk k2) h4
    | dict e1 e2 e3 e4 e5 => exact pyReprObj_of_reads (.dict e1 e2 e3 e4 e5) h1 h2 hg (by omega) k (fun h' t tk k2 => q h' t tk k2) h4
  p := fun y hy hz E h t Q k q => by
    cases d with
    | int i =>
      simp only [plainD] at hy
      split at hy
      · rename_i hi
        cases hy
        cases l
        obtain ⟨tk, rfl⟩ := ru
        exact wpAny_formatField_int hi (q h _ _ fun _ _ e => e)
      · cases hy
    | non =>
      cases hy
      cases l
      cases (show u = Value.none from ru)
      exact wpAny_formatField_none (q h _ _ fun _ _ e => e)
    | bl b =>
      cases hy
      cases l
      cases (show u = Value.bool b from ru)
      exact wpAny_formatField_bool (q h _ _ fun _ _ e => e)
    | str x =>
      simp only [plainD] at hy
      split at hy
      · rename_i hi
        cases hy
        cases l
        obtain ⟨tk, rfl⟩ := ru
        exact wpAny_formatField_str (q h _ _ fun _ _ e => e) (q h _ _ fun _ _ e => e) (le_of_sz hi)
      · cases hy
    | tup xs =>
      have hy' : reprD (.tup xs) = some y := hy
      obtain ⟨p, as, rd, h1, h2, h3, h4, rfl⟩ := reads_r I sub l ru hy'
      cases l with
      | tup a b =>
        cases ru
        exact formatField_of_reads rd h1 h2 hg (by omega) k (fun h' t tk k2 => q h' t tk k2) h4
    | lst xs =>
      have hy' : reprD (.lst xs) = some y := hy
      obtain ⟨p, as, rd, h1, h2, h3, h4, rfl⟩ := reads_r I sub l ru hy'
      cases l with
      | lst a b =>
        cases ru
        exact formatField_of_reads rd h1 h2 hg (by omega) k (fun h' t tk k2 => q h' t tk k2) h4
    | _ => cases hy
theorem int_vs {F : Hp} : ∀ {vs : List V} {ds : List D} {is : List Int}, RpA K ad F vs ds → intsD ds = some is → vs = is.map V.int
  | _, _, _, .nil, e => by cases e; rfl
  | _, _, _, .cons (d := .int i) a b, e => by
    have e' : (intsD _).map (i :: ·) = some _ := e
    obtain ⟨js, e1, rfl⟩ := Option.map_eq_some_iff.mp e'
    cases a
    rw [int_vs b e1]
    rfl
  | _, _, _, .cons (d := .non) _ _, e => by cases e
  | _, _, _, .cons (d := .bl _) _ _, e => by cases e
  | _, _, _, .cons (d := .str _) _ _, e => by cases e
  | _, _, _, .cons (d := .obj _) _ _, e => by cases e
  | _, _, _, .cons (d := .tup _) _ _, e => by cases e
  | _, _, _, .cons (d := .lst _) _ _, e => by cases e
  | _, _, _, .cons (d := .scr _) _ _, e => by cases e
  | _, _, _, .cons (d := .dct _) _ _, e => by cases e
  | _, _, _, .cons (d := .dK _ _) _ _, e => by cases e
  | _, _, _, .cons (d := .dT _ _) _ _, e => by cases e
  | _, _, _, .cons (d := .ktp _) _ _, e => by cases e
  | _, _, _, .cons (d := .er0 _) _ _, e => by cases e
  | _, _, _, .cons (d := .er1 _ _ _) _ _, e => by cases e
theorem insI_perm (i : Int) : ∀ l : List Int, (insI i l).Perm (i :: l)
  | [] => .refl _
  | j :: r => by
    unfold insI
    split
    · exact .refl _
    · exact (List.Perm.cons j (insI_perm i r)).trans (.swap i j r)
theorem sortI_perm : ∀ l : List Int, (sortI l).Perm l
  | [] => .refl _
  | i :: r => (insI_perm i (sortI r)).trans (.cons i (sortI_perm r))
theorem insI_srt (i : Int) : ∀ l : List Int, l.Pairwise (· ≤ ·) → (insI i l).Pairwise (· ≤ ·)
  | [], _ => List.pairwise_singleton _ _
  | j :: r, h => by
    unfold insI
    rw [List.pairwise_cons] at h
    split
    · rename_i c
      refine List.pairwise_cons.mpr ⟨fun k hk => ?_, List.pairwise_cons.mpr h⟩
      rcases List.mem_cons.mp hk with e | e
      · subst e; exact c
      · exact Int.le_trans c (h.1 k e)
    · rename_i c
      refine List.pairwise_cons.mpr ⟨fun k hk => ?_, insI_srt i r h.2⟩
      rcases List.mem_cons.mp ((insI_perm i r).mem_iff.mp hk) with e | e
      · subst e; omega
      · exact h.1 k e
theorem sortI_srt : ∀ l : List Int, (sortI l).Pairwise (· ≤ ·)
  | [] => .nil
  | i :: r => insI_srt i _ (sortI_srt r)
theorem sortI_eq {l m : List Int} (p : m.Perm l) (s : m.Pairwise (· ≤ ·)) : m = sortI l :=
  List.Perm.eq_of_pairwise (le := (· ≤ ·)) (fun a b _ _ h1 h2 => Int.le_antisymm h1 h2) s (sortI_srt l) (p.trans (sortI_perm l).symm)
/-! texts in order -/
def keyT (x : Str) : List Nat := x.cps.toList
theorem lt_of (x y : Str) : PySem.Spec.ltCps x.cps.toList y.cps.toList = decide (keyT x < keyT y) := PyProof.Rows.ltCps_eq _ _
def leT (x y : Str) : Prop := keyT x ≤ keyT y
theorem leT_of {x y : Str} (h : ¬ keyT y < keyT x) : leT x y := h
theorem insT_perm (i : Str) : ∀ l : List Str, (insT i l).Perm (i :: l)
  | [] => .refl _
  | j :: r => by
    unfold insT
    split
    · exact (List.Perm.cons j (insT_perm i r)).trans (.swap i j r)
    · exact .refl _
theorem sortT_perm : ∀ l : List Str, (sortT l).Perm l
  | [] => .refl _
  | i :: r => (insT_perm i (sortT r)).trans (.cons i (sortT_perm r))
theorem leT_trans {x y z : Str} (h : leT x y) (k : leT y z) : leT x z := List.le_trans h k
theorem insT_srt (i : Str) : ∀ l : List Str, l.Pairwise leT → (insT i l).Pairwise leT
  | [], _ => List.pairwise_singleton _ _
  | j :: r, h => by
    unfold insT
    rw [List.pairwise_cons] at h
    rw [lt_of]
    split
    · rename_i c
      have c := of_decide_eq_true c
      refine List.pairwise_cons.mpr ⟨fun k hk => ?_, insT_srt i r h.2⟩
      rcases List.mem_cons.mp ((insT_perm i r).mem_iff.mp hk) with e | e
      · subst e; exact List.le_of_lt c
      · exact h.1 k e
    · rename_i c
      have c : leT i j := leT_of fun z => c (decide_eq_true z)
      refine List.pairwise_cons.mpr ⟨fun k hk => ?_, List.pairwise_cons.mpr h⟩
      rcases List.mem_cons.mp hk with e | e
      · subst e; exact c
      · exact leT_trans c (h.1 k e)
theorem sortT_srt : ∀ l : List Str, (sortT l).Pairwise leT
  | [] => .nil
  | i :: r => insT_srt i _ (sortT_srt r)
theorem rising_srt : ∀ (r : List Str) (p : Str), PyProof.Rows.risingS p r = true → (p :: r).Pairwise leT
  | [], p, _ => List.pairwise_singleton _ _
  | x :: r, p, h => by
    simp only [PyProof.Rows.risingS, Bool.and_eq_true, Bool.not_eq_true'] at h
    have ih := rising_srt r x h.2
    have c : leT p x := leT_of fun z => by
      have e := h.1
      rw [lt_of, decide_eq_false_iff_not] at e
      exact e z
    refine List.pairwise_cons.mpr ⟨fun k hk => ?_, ih⟩
    rcases List.mem_cons.mp hk with e | e
    · subst e; exact c
    · exact leT_trans c ((List.pairwise_cons.mp ih).1 k e)
theorem sorted_srt : ∀ {l : List Str}, PyProof.Rows.sortedS l = true → l.Pairwise leT
  | [], _ => .nil
  | x :: r, h => rising_srt r x h
theorem keyT_inj {a b : Str} (h : keyT a = keyT b) : a = b := by
  obtain ⟨⟨a⟩⟩ := a
  obtain ⟨⟨b⟩⟩ := b
  simp only [keyT] at h
  rw [h]
theorem sortT_eq {l m : List Str} (p : m.Perm l) (s : PyProof.Rows.sortedS m = true) : m = sortT l :=
  List.Perm.eq_of_pairwise (le := leT) (fun a b _ _ h1 h2 => keyT_inj (List.le_antisymm h1 h2)) (sorted_srt s) (sortT_srt l) (p.trans (sortT_perm l).symm)
theorem str_vs {F : Hp} : ∀ {ds : List D} {ys : List Str} {vs : List V}, RpA K ad F vs ds → strsD ds = some ys → vs = ys.map V.str
  | [], ys, _, .nil, h => by cases h; rfl
  | .str x :: ds, ys, _, .cons r1 r2, h => by
    obtain ⟨zs, e2, rfl⟩ := Option.map_eq_some_iff.mp (show ((strsD ds).map (x :: ·)) = some ys from h)
    cases r1
    rw [str_vs r2 e2, List.map_cons]
  | .non :: _, _, _, .cons _ _, h => by cases h
  | .bl _ :: _, _, _, .cons _ _, h => by cases h
  | .int _ :: _, _, _, .cons _ _, h => by cases h
  | .obj _ :: _, _, _, .cons _ _, h => by cases h
  | .tup _ :: _, _, _, .cons _ _, h => by cases h
  | .lst _ :: _, _, _, .cons _ _, h => by cases h
  | .scr _ :: _, _, _, .cons _ _, h => by cases h
  | .dct _ :: _, _, _, .cons _ _, h => by cases h
  | .dK _ _ :: _, _, _, .cons _ _, h => by cases h
  | .dT _ _ :: _, _, _, .cons _ _, h => by cases h
  | .ktp _ :: _, _, _, .cons _ _, h => by cases h
  | .er0 _ :: _, _, _, .cons _ _, h => by cases h
  | .er1 _ _ _ :: _, _, _, .cons _ _, h => by cases h
theorem rpa_strs (F : Hp) : ∀ ys : List Str, RpA K ad F (ys.map V.str) (ys.map D.str)
  | [] => .nil
  | x :: r => .cons (.str x) (rpa_strs F r)
theorem keysD_of {F : Hp} : ∀ {ds : List D} {k : List Key} {vs : List V}, RpA K ad F vs ds → keysD ds = some k → vs = k.map kV
  | [], k, _, .nil, h => by cases h; rfl
  | d :: ds, k, _, .cons r1 r2, h => by
    obtain ⟨k1, e1, h⟩ := Option.bind_eq_some_iff.mp (show ((keyD d).bind fun k => (keysD ds).map (k :: ·)) = some k from h)
    obtain ⟨ks, e2, rfl⟩ := Option.map_eq_some_iff.mp h
    rw [keysD_of r2 e2, List.map_cons]
    cases d with
    | int i => cases e1; cases r1; rfl
    | str x => cases e1; cases r1; rfl
    | _ => cases e1
theorem blt_ok (hc : X.calm = true) (hg : X.A.guards = some []) (hu : X.A.units + 64 < cLine) (b : Bt) : CallR X (btVal b) (rBlt X.K ad b) := by
  intro pins s σ H xs us Q I r h
  obtain ⟨F, ds, z, sub, lk, hb, q⟩ := id h
  unfold bltD at hb
  split at hb
  · cases hb
    obtain ⟨v, rfl, l⟩ := lk.one
    cases l with
    | tup a b => exact call_len_seq pins s σ H _ us Q I r ⟨_, _, rfl, .inr (SqT.mono sub a), by rw [b.len]; exact q.int sub⟩
  · cases hb
    obtain ⟨v, rfl, l⟩ := lk.one
    cases l with
    | lst a b => exact call_len_seq pins s σ H _ us Q I r ⟨_, _, rfl, .inl (SqL.of a), by rw [b.len]; exact q.int sub⟩
  · cases hb
    obtain ⟨v, rfl, l⟩ := lk.one
    cases l with
    | scr a b => exact call_len_seq pins s σ H _ us Q I r ⟨_, _, rfl, .inl (SqL.mono sub a), by rw [b.len]; exact q.int sub⟩
  · split at hb
    · rename_i hz
      cases hb
      obtain ⟨v, rfl, l⟩ := lk.one
      cases l
      exact call_len_str pins s σ H _ us Q I r ⟨_, rfl, le_of_sz hz, q.int sub⟩
    · cases hb
  · cases hb
    obtain ⟨v, rfl, l⟩ := lk.one
    cases l
    exact call_abs pins s σ H _ us Q I r ⟨_, rfl, q.int sub⟩
  · cases hb
    obtain ⟨v, rfl, l⟩ := lk.one
    cases l
    exact call_int1 pins s σ H _ us Q I r (.inl ⟨_, rfl, q.int sub⟩)
  · cases hb
    obtain ⟨v, rfl, l⟩ := lk.one
    cases l
    exact call_int1 pins s σ H _ us Q I r (.inr ⟨_, rfl, q.int sub⟩)
  · cases hb
    obtain ⟨v, rfl, l⟩ := lk.one
    cases l
    exact call_bool1 pins s σ H _ us Q I r (.inl ⟨_, rfl, q.bl sub⟩)
  · cases hb
    obtain ⟨v, rfl, l⟩ := lk.one
    cases l
    exact call_bool1 pins s σ H _ us Q I r (.inr ⟨_, rfl, q.bl sub⟩)
  · cases hb
    obtain ⟨v, w, rfl, l, l'⟩ := lk.two
    cases l; cases l'
    exact call_max2 hc pins s σ H _ us Q I r ⟨_, _, rfl, q.int sub⟩
  · cases hb
    obtain ⟨v, w, rfl, l, l'⟩ := lk.two
    cases l; cases l'
    exact call_min2 hc pins s σ H _ us Q I r ⟨_, _, rfl, q.int sub⟩
  · cases hb
    obtain ⟨v, rfl, l⟩ := lk.one
    cases l with
    | tup a b => exact call_tuple_of pins s σ H _ us Q I r ⟨_, _, rfl, .inr ⟨SqT.mono sub a, q.same sub (.tup a b)⟩⟩
  · cases hb
    obtain ⟨v, rfl, l⟩ := lk.one
    cases l with
    | lst a b => exact call_tuple_of pins s σ H _ us Q I r ⟨_, _, rfl, .inl ⟨SqL.of a, q.tup sub b⟩⟩
  · cases hb
    obtain ⟨v, rfl, l⟩ := lk.one
    cases l with
    | tup a b => exact call_list_of pins s σ H _ us Q I r ⟨_, _, rfl, .inr (SqT.mono sub a), q.lst sub b⟩
  · cases hb
    obtain ⟨v, rfl, l⟩ := lk.one
    cases l with
    | lst a b => exact call_list_of pins s σ H _ us Q I r ⟨_, _, rfl, .inl (SqL.of a), q.lst sub b⟩
  · obtain ⟨c, hb', rfl⟩ := Option.map_eq_some_iff.mp hb
    obtain ⟨v, rfl, l⟩ := lk.one
    cases l with
    | lst a b =>
      obtain ⟨bs, rfl, rfl⟩ := all_bls b hb'
      exact cr_all hc pins s σ H _ us Q I r ⟨_, _, rfl, SqL.of a, q.bl sub⟩
  · obtain ⟨c, hb', rfl⟩ := Option.map_eq_some_iff.mp hb
    obtain ⟨v, rfl, l⟩ := lk.one
    cases l with
    | lst a b =>
      obtain ⟨bs, rfl, rfl⟩ := any_bls b hb'
      exact cr_any hc pins s σ H _ us Q I r ⟨_, _, rfl, SqL.of a, q.bl sub⟩
  · exact call_reprD hg hu pins s σ H xs us Q I r h
  · obtain ⟨is, hi, rfl⟩ := Option.map_eq_some_iff.mp hb
    obtain ⟨v, rfl, l⟩ := lk.one
    cases l with
    | lst a b => exact cr_sum hc pins s σ H _ us Q I r ⟨_, is, rfl, by rw [← int_vs b hi]; exact SqL.of a, q.int sub⟩
  · obtain ⟨is, hi, hb⟩ := Option.bind_eq_some_iff.mp hb
    obtain ⟨m, hm, rfl⟩ := Option.map_eq_some_iff.mp hb
    obtain ⟨v, rfl, l⟩ := lk.one
    obtain ⟨h1, h2⟩ := List.max?_eq_some_iff.mp hm
    cases l with
    | lst a b => exact cr_max hc pins s σ H _ us Q I r ⟨_, is, rfl, by rw [← int_vs b hi]; exact SqL.of a, List.length_pos_of_mem h1, fun m' g1 g2 => by
        have e : m' = m := Int.le_antisymm (h2 _ g1) (g2 _ h1)
        subst e
        exact q.int sub⟩
  · obtain ⟨is, hi, hb⟩ := Option.bind_eq_some_iff.mp hb
    obtain ⟨m, hm, rfl⟩ := Option.map_eq_some_iff.mp hb
    obtain ⟨v, rfl, l⟩ := lk.one
    obtain ⟨h1, h2⟩ := List.min?_eq_some_iff.mp hm
    cases l with
    | lst a b => exact cr_min hc pins s σ H _ us Q I r ⟨_, is, rfl, by rw [← int_vs b hi]; exact SqL.of a, List.length_pos_of_mem h1, fun m' g1 g2 => by
        have e : m' = m := Int.le_antisymm (g2 _ h1) (h2 _ g1)
        subst e
        exact q.int sub⟩
  · split at hb
    case h_2 =>
      obtain ⟨ys, hy, hb⟩ := Option.bind_eq_some_iff.mp hb
      split at hb
      case isFalse => cases hb
      case isTrue h64 =>
      cases hb
      obtain ⟨v, rfl, l⟩ := lk.one
      cases l with
      | lst a b => exact cr_sortedS pins s σ H _ us Q I r ⟨_, ys, rfl, by rw [← str_vs b hy]; exact SqL.of a, of_decide_eq_true h64, fun ys' p h1 h2 hp => by
          rw [sortT_eq h1 h2]
          exact q.lst sub (rpa_strs F _) p hp⟩
    case h_1 is hi =>
    cases hb
    obtain ⟨v, rfl, l⟩ := lk.one
    cases l with
    | lst a b => exact cr_sortedI pins s σ H _ us Q I r ⟨_, is, rfl, by rw [← int_vs b hi]; exact SqL.of a, fun ns' p h1 h2 hp => by
        rw [sortI_eq h1 h2]
        exact q.lst sub (rpa_ints F _) p hp⟩
  · obtain ⟨is, hi, hb⟩ := Option.bind_eq_some_iff.mp hb
    obtain ⟨v, rfl, l⟩ := lk.one
    split at hb
    · rename_i h64
      cases hb
      cases l with
      | dK a b c => exact call_sortedDI hc pins s σ H _ us Q I r ⟨_, _, is, rfl, a, by rw [List.map_fst_zip (by omega)]; exact (keyI_of hi).2, of_decide_eq_true h64, fun ns' p h1 h2 hp => by
          rw [sortI_eq h1 h2]
          exact q.lst sub (rpa_ints F _) p hp⟩
    · cases hb
  · obtain ⟨k, hk, rfl⟩ := Option.map_eq_some_iff.mp hb
    obtain ⟨v, rfl, l⟩ := lk.one
    cases l with
    | lst a b =>
      exact call_tuple_of pins s σ H _ us Q I r ⟨_, _, rfl, .inl ⟨SqL.of a, by
        rw [keysD_of b hk]
        exact fun p hp => q _ _ _ (.new sub hp) (.ktp upd_same)⟩⟩
  · cases hb
/-! ### isinstance -/
theorem kit_tab : ∀ n ∈ ["NoneType", "bool", "int", "str", "tuple", "list", "dict"], ∀ t ∈ ["int", "bool", "str", "tuple", "list", "dict"], kitB n t = some (n == t || (n == "bool" && t == "int")) := by decide +kernel
theorem Lk.ty {v : V} {d : D} {n : String} (sub : Sub F H) (h : Lk K ad F H v d) (e : tyName d = some n) : TyX K H v (.type n) ∧ n ∈ ["NoneType", "bool", "int", "str", "tuple", "list", "dict"] := by
  cases h with
  | non => cases e; exact ⟨.base .non, by decide⟩
  | bl b => cases e; exact ⟨.base (.bl b), by decide⟩
  | int i => cases e; exact ⟨.base (.int i), by decide⟩
  | str x => cases e; exact ⟨.base (.str x), by decide⟩
  | obj k => cases e
  | tup a b =>
    cases e
    refine ⟨?_, by decide⟩
    rcases a with (a | ⟨o, a⟩) | ⟨o, its, n, a1, a2, _⟩
    · exact .base (.tup (sub _ _ a))
    · exact .fTuple (sub _ _ a)
    · exact .kTuple a1 a2
  | lst a b => cases e; exact ⟨.base (.lst a), by decide⟩
  | scr a b => cases e
  | dct a => cases e; exact ⟨.base (.dK a), by decide⟩
  | dK a l b =>
    cases e
    rcases a with a | ⟨o, a⟩
    · exact ⟨.base (.dK a), by decide⟩
    · exact ⟨.fDict a, by decide⟩
  | dT a l b => cases e
  | ktp a => cases e
  | er0 a => cases e
  | er1 a => cases e
variable (K ad) in
def rIsiD (t : String) : List V → Hp → VK → Prop := fun xs H Q => ∃ F x d b, xs = [x, .ty t] ∧ Sub F H ∧ Lk K ad F H x d ∧ isiD d t = some b ∧ Q (.bl b) H
theorem isi_ok (t : String) : CallR X (.builtin "isinstance") (rIsiD X.K ad t) := by
  intro pins s σ H xs us Q I r h
  obtain ⟨F, x, d, b, rfl, sub, l, hb, q⟩ := h
  unfold isiD at hb
  split at hb
  · rename_i ht
    obtain ⟨n, hn, rfl⟩ := Option.map_eq_some_iff.mp hb
    obtain ⟨h1, h2⟩ := l.ty sub hn
    exact call_isi pins s σ H _ us Q I r ⟨x, .ty t, .type n, .type t, _, rfl, .ty t, h1, kit_ty (kit_tab n h2 t (by simpa using ht)), q⟩
  · cases hb
end
end EV

set_option Elab.async false
set_option linter.all false
set_option maxRecDepth 100000
set_option maxHeartbeats 4000000
/-! EV, part E: the language against the syntax; what an expression gives. -/
namespace EV
open PySem PySem.Spec PyProof.Rows L2
/-! ### names -/
structure Wn where
  fnm : List Str
  bs : List Str
  tnm : List Str
  lm : Bool
  lms : List Ex
  cn : List (Str × D)
  tp : Bool
  xg : List Str
def Wn.at_ (n : Wn) (b : Bool) (l : List Ex) : Wn := ⟨n.fnm, n.bs, n.tnm, b, l, n.cn, true, n.xg⟩
/-- within a block of the def -/
def Wn.in_ (n : Wn) : Wn := ⟨n.fnm, n.bs, n.tnm, n.lm, [], n.cn, false, n.xg⟩
def isKind (sc : Scope) (x : Str) (k : NameKind) : Bool := match sc.names.lookup x with
  | some j => decide (j = k)
  | none => false
def visB (sc : Scope) (x : Str) : Bool := isKind sc x .local || isKind sc x .cell || isKind sc x .free
def locB (sc : Scope) (x : Str) : Bool := isKind sc x .local || isKind sc x .cell
def glbB (sc : Scope) (x : Str) : Bool := isKind sc x .globalImplicit
def okNm (x : Str) : Bool := !(x == ("__debug__" : Str)) && !(x == ("__classdict__" : Str)) && !decide (x = ("__name__" : Str))
def atB (N : List Str) (i : Nat) (x : Str) : Bool := decide (N[i]? = some x)
theorem isKind_of {sc : Scope} {x : Str} {k : NameKind} (h : isKind sc x k = true) : sc.names.lookup x = some k := by
  unfold isKind at h
  split at h
  · rename_i j e
    rw [e, of_decide_eq_true h]
  · cases h
theorem visB_of {sc : Scope} {x : Str} (h : visB sc x = true) : Vis sc x := by
  simp only [visB, Bool.or_eq_true] at h
  rcases h with (h | h) | h
  · exact .inl (isKind_of h)
  · exact .inr (.inl (isKind_of h))
  · exact .inr (.inr (isKind_of h))
theorem locB_of {sc : Scope} {x : Str} (h : locB sc x = true) : Loc sc x := by
  simp only [locB, Bool.or_eq_true] at h
  rcases h with h | h
  · exact .inl (isKind_of h)
  · exact .inr (isKind_of h)
theorem okNm_of {x : Str} (h : okNm x = true) : (x == ("__debug__" : Str)) = false ∧ (x == ("__classdict__" : Str)) = false ∧ x ≠ "__name__" := by
  simp only [okNm, Bool.and_eq_true, Bool.not_eq_true', decide_eq_false_iff_not] at h
  exact ⟨h.1.1, h.1.2, h.2⟩
def starB : Expr → Bool
  | .Starred _ _ => true
  | _ => false
theorem star_each {e : Expr} (h : starB e = false) (es : List Expr) (env : Env) : starEach (e :: es) env = (false, eval e env) :: starEach es env := by
  cases e <;> first | rfl | cases h
theorem star_any : ∀ {es : List Expr}, es.all (fun e => !starB e) = true → ∀ (pos : Pos) (env : Env), (backTo pos (starEach es env)).any (·.1) = false
  | [], _, _, _ => rfl
  | e :: es, h, pos, env => by
    rw [List.all_cons, Bool.and_eq_true, Bool.not_eq_true'] at h
    rw [star_each h.1]
    show (false || (backTo pos (starEach es env)).any (·.1)) = false
    rw [star_any h.2]
    rfl
/-- the scope that a comprehension's block has within sc -/
def inScope (scope sc : Scope) : Scope :=
  { scope with names := scope.names.map fun (n, k) => if (k == .free && sc.kind == .function && sc.names.lookup n == some .cell) then (n, .cell) else (n, k) }
def btNm : Bt → Str
  | .len => "len" | .abs => "abs" | .int => "int" | .bool => "bool" | .max2 => "max" | .min2 => "min" | .tuple => "tuple" | .list => "list"
  | .all => "all" | .any => "any" | .repr => "repr" | .sum => "sum" | .max1 => "max" | .min1 => "min" | .sorted => "sorted" | .ktuple => "tuple"
theorem bt_boot (b : Bt) : bootBuiltins (btNm b) = some (btVal b) := by cases b <;> decide +kernel
theorem bt_ok (b : Bt) : okNm (btNm b) = true := by cases b <;> decide +kernel
def tyNms : List (String × Str) := [("int", "int"), ("bool", "bool"), ("str", "str"), ("tuple", "tuple"), ("list", "list"), ("dict", "dict")]
theorem ty_boot : ∀ p ∈ tyNms, bootBuiltins p.2 = some (.type p.1) ∧ okNm p.2 = true := by decide +kernel
def exNms : List (String × Str) := [("ValueError", "ValueError"), ("KeyError", "KeyError"), ("IndexError", "IndexError"), ("OverflowError", "OverflowError"), ("ArithmeticError", "ArithmeticError"), ("LookupError", "LookupError")]
theorem ex_boot : ∀ p ∈ exNms, bootBuiltins p.2 = some (.type p.1) ∧ okNm p.2 = true := by decide +kernel
/-- an object before a dot that is no call -/
def baseB : Expr → Bool
  | .Name _ _ => true
  | .Constant _ _ _ => true
  | .BinOp _ _ _ _ => true
  | _ => false
theorem base_of {e : Expr} (h : baseB e = true) (f : Str) (env : Env) : attributeBase e f env (eval e env) = eval e env := by
  cases e <;> first | rfl | cases h
/-- simple syntax where a test is the value's truth -/
def plainT : Expr → Bool
  | .UnaryOp .Not _ _ => false
  | .BoolOp _ _ _ => false
  | .IfExp _ _ _ _ => false
  | .Compare _ _ _ _ => false
  | _ => true
theorem plainT_of {e : Expr} (h : plainT e = true) (env : Env) : ∀ whole, isTrue e env whole = (do let v ← whole; standAt e.pos; holding [v] (truthy v)) := by
  intro whole
  cases e with
  | UnaryOp op _ _ => cases op <;> first | rfl | cases h
  | BoolOp => cases h
  | IfExp => cases h
  | Compare => cases h
  | _ => rfl
def setB : Expr → Bool
  | .Set _ _ _ => true
  | _ => false
theorem set_fold {e : Expr} (h : setB e = false) (env : Env) : ∀ x, foldedSetIterable e env x = pure x := by
  intro x
  cases e <;> first | rfl | cases h
def sliceB : Expr → Bool
  | .Slice _ _ _ _ => true
  | _ => false
theorem slice_ix {e : Expr} (h : sliceB e = false) : PlainIx e := by
  intro o i
  cases e <;> first | rfl | cases h
/-- a scope with names of its own: no lambda's -/
def makerB (sc : Scope) : Bool := sc.names.any fun y => decide (y.2 = .local) || decide (y.2 = .cell)
/-- no parameter at all -/
def noParB (a : Arguments) : Bool := a.posonlyargs.isEmpty && a.args.isEmpty && a.vararg.isNone && a.kwonlyargs.isEmpty && a.kw_defaults.isEmpty && a.kwarg.isNone && a.defaults.isEmpty
theorem noPar_of {a : Arguments} (h : noParB a = true) : a = ⟨[], [], none, [], [], none, []⟩ := by
  obtain ⟨a1, a2, a3, a4, a5, a6, a7⟩ := a
  simp only [noParB, Bool.and_eq_true, List.isEmpty_iff, Option.isNone_iff_eq_none] at h
  obtain ⟨⟨⟨⟨⟨⟨h1, h2⟩, h3⟩, h4⟩, h5⟩, h6⟩, h7⟩ := h
  subst h1 h2 h3 h4 h5 h6 h7
  rfl
def inB : CmpOp → Bool
  | .In => true
  | .NotIn => true
  | _ => false
theorem nomarkB {op : CmpOp} (h : inB op = false) (b : Expr) : behindInMarks op b = false := by
  cases op <;> first | exact nomark b | cases h

/-! ### the matching -/
mutual
def matTg (N : List Str) (sc : Scope) : Tg → Expr → Bool
  | .nm i, .Name x _ => atB N i x && locB sc x
  | .tp ts, .Tuple es _ _ => matTgs N sc ts es
  | _, _ => false
def matTgs (N : List Str) (sc : Scope) : List Tg → List Expr → Bool
  | [], [] => true
  | t :: ts, e :: es => matTg N sc t e && matTgs N sc ts es
  | _, _ => false
end
def ownsOf (N : List Str) (tg : Tg) : List (Str × Nat) := (slotsOf tg).filterMap fun i => N[i]?.map fun x => (x, i)
def isTupE : Expr → Bool
  | .Tuple _ _ _ => true
  | _ => false
/-- the head of what is walked, and the expressions in it -/
def itExprs : IK → Expr → List Expr
  | .seq, e => [e]
  | .items, .Call (.Attribute e _ _) [] [] _ => [e]
  | .items, _ => []
  | _, .Call _ es _ _ => es
  | _, _ => []
def itNm : IK → Str
  | .seq => "" | .rng1 => "range" | .rng2 => "range" | .enum => "enumerate" | .zip => "zip" | .items => "items"
def itLen : IK → Nat
  | .seq => 1 | .rng1 => 1 | .rng2 => 2 | .enum => 1 | .zip => 2 | .items => 1
def matItH (n : Wn) (sc : Scope) (ik : IK) (e : Expr) (tp : Bool) : Bool := match ik, e with
  | .seq, _ => true
  | .items, .Call (.Attribute (.Name _ _) mm ap) [] [] cp => tp && decide (mm = ("items" : Str)) && (ap.endLine == cp.line)
  | .items, _ => false
  | ik, .Call (.Name x _) es [] _ => decide (x = itNm ik) && decide (es.length = itLen ik) && n.bs.contains x && glbB sc x && (tp || decide (ik = .rng1) || decide (ik = .rng2))
  | _, _ => false
mutual
def matE (n : Wn) (N : List Str) : Ex → Scope → Expr → Bool
  | .var i, sc, .Name x _ => atB N i x && visB sc x && okNm x
  | .cst (.int i), _, .Constant (.int j) _ _ => decide (i = j)
  | .cst (.bl i), _, .Constant (.bool j) _ _ => decide (i = j)
  | .cst .non, _, .Constant .none _ _ => true
  | .cst (.str x), _, .Constant (.str y) _ _ => decide (x = y)
  | .cst (.ktp []), _, .Tuple [] _ _ => true
  | .dget a k e, sc, .Call (.Attribute (.Name x p) mm ap) [k', e'] [] cp => decide (mm = ("get" : Str)) && (ap.endLine == cp.line) && !starB k' && !starB e' && matE n N a sc (.Name x p) && matE n N k sc k' && matE n N e sc e'
  | .pop i, sc, .Call (.Attribute (.Name x _) mm ap) [] [] cp => decide (mm = ("pop" : Str)) && (ap.endLine == cp.line) && atB N i x && visB sc x && okNm x
  | .tups fl es, sc, .Tuple es' _ _ => matEd n N fl es sc es'
  | .ktr e, sc, .Call (.Name x _) [.Call (.Name y _) [e'] [] _] [] _ => decide (x = ("tuple" : Str)) && n.bs.contains x && glbB sc x && decide (y = ("range" : Str)) && n.bs.contains y && glbB sc y && !starB e' && matE n N e sc e'
  | .mk0 k e, sc, .Call (.Name x _) [e'] [] _ => decide (n.xg[k]? = some x) && glbB sc x && okNm x && !starB e' && matE n N e sc e'
  | .mk1 k e, sc, .Call (.Name x _) [e'] [] _ => decide (n.xg[k]? = some x) && glbB sc x && okNm x && !starB e' && matE n N e sc e'
  | .att e f, sc, .Attribute e' g _ => decide (f = g) && baseB e' && matE n N e sc e'
  | .isx e c, sc, .Call (.Name x _) [e', .Name y _] [] _ => decide (x = ("isinstance" : Str)) && n.bs.contains x && glbB sc x && !starB e' && matE n N e sc e' && decide (n.xg[c]? = some y) && glbB sc y && okNm y
  | .isb e t, sc, .Call (.Name x _) [e', .Name y _] [] _ => decide (x = ("isinstance" : Str)) && n.bs.contains x && glbB sc x && !starB e' && matE n N e sc e' && exNms.contains (t, y) && n.bs.contains y && glbB sc y
  | .spl e y, sc, .Call (.Attribute e' mm ap) [.Constant (.str z) _ _] [] cp => decide (mm = ("split" : Str)) && (ap.endLine == cp.line) && decide (z = y) && baseB e' && matE n N e sc e'
  | .glo g, sc, .Name x _ => (match n.cn[g]? with
    | some p => decide (p.1 = x)
    | none => false) && glbB sc x && okNm x
  | .tup es, sc, .Tuple es' _ _ => matEs n N es sc es'
  | .lst es, sc, .List es' _ => matEs n N es sc es'
  | .lsts fl es, sc, .List es' _ => matEd n N fl es sc es'
  | .bin op a b, sc, .BinOp a' op' b' _ => decide (op = op') && matE n N a sc a' && matE n N b sc b'
  | .neg a, sc, .UnaryOp .USub a' _ => matE n N a sc a'
  | .nt a, sc, .UnaryOp .Not a' _ => matE n N a sc a'
  | .cmp op a b, sc, .Compare a' [op'] [b'] _ => decide (op = op') && !behindInMarks op b' && matE n N a sc a' && matE n N b sc b'
  | .chain op1 op2 a b c, sc, .Compare a' [op1', op2'] [b', c'] _ => decide (op1 = op1') && decide (op2 = op2') && !inB op1 && !inB op2 && matE n N a sc a' && matE n N b sc b' && matE n N c sc c'
  | .dct [], _, .Dict [] [] _ => true
  | .dct [p], _, .Dict [some (.Constant (.int k) _ _)] [.Constant (.int v) _ _] _ => decide (p.1 = k) && decide (p.2 = v)
  | .told t e, sc, .Call (.Name x _) [.Lambda params body scope _] [] _ => n.lm && makerB sc && decide (n.tnm[t]? = some x) && glbB sc x && okNm x && LamX.lamSB sc scope && noParB params && matE n.in_ N e scope body
  | .tolds t i, sc, .ListComp (.Call (.Name x _) [.Name z _] [] _) [⟨.Name z' _, .Name y _, [], w⟩] scope _ => n.lm && n.tp && makerB sc && decide (w = 0) && decide (n.tnm[t]? = some x) && glbB (inScope scope sc) x && okNm x && decide (z = z') && locB scope z && okNm z && atB N i y && visB sc y && okNm y && atB N (N.idxOf z) z &&
    blkC N sc scope [(z, N.idxOf z)]
  | .andl es, sc, .BoolOp .And es' _ => matEs n N es sc es'
  | .orl es, sc, .BoolOp .Or es' _ => matEs n N es sc es'
  | .ite c a b, sc, .IfExp c' a' b' _ => matT n N c sc c' && matE n N a sc a' && matE n N b sc b'
  | .sub a i, sc, .Subscript a' i' _ => matE n N a sc a' && matE n N i sc i' && !sliceB i'
  | .slc .both a es, sc, .Subscript a' (.Slice (some lo) (some hi) none _) _ => matE n N a sc a' && matEs n N es sc [lo, hi]
  | .slc .lo a es, sc, .Subscript a' (.Slice (some lo) none none _) _ => matE n N a sc a' && matEs n N es sc [lo]
  | .slc .hi a es, sc, .Subscript a' (.Slice none (some hi) none _) _ => matE n N a sc a' && matEs n N es sc [hi]
  | .slc .no a es, sc, .Subscript a' (.Slice none none none _) _ => matE n N a sc a' && matEs n N es sc []
  | .rev a, sc, .Subscript a' (.Slice none none (some (.UnaryOp .USub (.Constant (.int 1) _ _) _)) _) _ => matE n N a sc a'
  | .call k es, sc, .Call (.Name x _) es' [] _ => (match n.fnm[k]? with
    | some y => decide (y = x)
    | none => false) && glbB sc x && okNm x && matEs n N es sc es'
  | .blt b es, sc, .Call (.Name x _) es' [] _ => decide (btNm b = x) && n.bs.contains x && glbB sc x && !es'.isEmpty && matEs n N es sc es'
  | .isi a t, sc, .Call (.Name x _) [a', .Name y _] [] _ => decide (x = ("isinstance" : Str)) && n.bs.contains x && glbB sc x && matE n N a sc a' && tyNms.contains (t, y) && n.bs.contains y && glbB sc y
  | .comp tg ik src ifs elt, sc, .ListComp elt' [⟨tg', iter', ifs', z⟩] scope _ =>
    (!n.lm || makerB sc) && decide (z = 0) && blkC N sc scope (ownsOf N tg) && decide ((ownsOf N tg).map (·.2) = slotsOf tg) && matTg N scope tg tg' && matItH n sc ik iter' (isTupE tg') && matEs n N src sc (itExprs ik iter') && !setB iter' && matIfs n.in_ N ifs (inScope scope sc) ifs' && matE n.in_ N elt (inScope scope sc) elt'
  | _, _, _ => false
def matEs (n : Wn) (N : List Str) : List Ex → Scope → List Expr → Bool
  | [], _, [] => true
  | e :: es, sc, e' :: es' => !starB e' && matE n N e sc e' && matEs n N es sc es'
  | _, _, _ => false
def matEd (n : Wn) (N : List Str) : List Bool → List Ex → Scope → List Expr → Bool
  | [], [], _, [] => true
  | true :: fl, e :: es, sc, .Starred e' _ :: es' => matE n N e sc e' && matEd n N fl es sc es'
  | false :: fl, e :: es, sc, e' :: es' => !starB e' && matE n N e sc e' && matEd n N fl es sc es'
  | _, _, _, _ => false
/-- a test -/
def matT (n : Wn) (N : List Str) : Tx → Scope → Expr → Bool
  | .cmp op a b, sc, .Compare a' [op'] [b'] _ => decide (op = op') && !behindInMarks op b' && matE n N a sc a' && matE n N b sc b'
  | .chain op1 op2 a b c, sc, .Compare a' [op1', op2'] [b', c'] _ => decide (op1 = op1') && decide (op2 = op2') && !inB op1 && !inB op2 && matE n N a sc a' && matE n N b sc b' && matE n N c sc c'
  | .val e, sc, e' => plainT e' && matE n N e sc e'
  | .nt a, sc, .UnaryOp .Not a' _ => matT n N a sc a'
  | .andl ts, sc, .BoolOp .And es' _ => matTs n N ts sc es'
  | .orl ts, sc, .BoolOp .Or es' _ => matTs n N ts sc es'
  | _, _, _ => false
def matTs (n : Wn) (N : List Str) : List Tx → Scope → List Expr → Bool
  | [], _, [] => true
  | t :: ts, sc, e' :: es' => matT n N t sc e' && matTs n N ts sc es'
  | _, _, _ => false
def matIfs (n : Wn) (N : List Str) : List Tx → Scope → List Expr → Bool
  | [], _, [] => true
  | [c], sc, [c'] => matT n N c sc c'
  | _, _, _ => false
end
end EV

set_option Elab.async false
set_option linter.all false
set_option maxRecDepth 100000
set_option maxHeartbeats 4000000
/-! EV, part F: the readings of expressions, by the rules of the hand layer. -/
namespace EV
open PySem PySem.Spec PyProof.Rows L2
/-! ### tuple[::-1] -/
section
variable {prog : Program} {w : World} {A : Around} {E : Value → Shared → Prop} {s : Shared}
theorem adj_rev (n : Nat) : Builtin.Slice.sliceAdjust none none (-1) (n : Int) = ((n : Int) - 1, -1) := rfl
theorem places_rev (n : Nat) : Builtin.Slice.slicePlaces ((n : Int) - 1) (-1) (-1) = n := by
  unfold Builtin.Slice.slicePlaces
  rw [if_neg (by decide)]
  by_cases h : (n : Int) - 1 > -1
  · rw [if_pos h, show (- -1 : Int) = 1 by decide, Int.ediv_one]
    omega
  · rw [if_neg h]
    omega
theorem pick_rev (xs : Array Value) : ((List.range xs.size).filterMap fun (k : Nat) => xs[((xs.size : Int) - 1 + (k : Int) * -1).toNat]?).toArray = xs.toList.reverse.toArray := by
  have e : (List.range xs.size).filterMap (fun (k : Nat) => xs[((xs.size : Int) - 1 + (k : Int) * -1).toNat]?) = ((List.range xs.size).map (fun k => xs.size - 1 - k)).filterMap (xs[·]?) := by
    rw [List.filterMap_map]
    refine congrArg (fun f => List.filterMap f (List.range xs.size)) (funext fun k => ?_)
    show xs[((xs.size : Int) - 1 + (k : Int) * -1).toNat]? = xs[xs.size - 1 - k]?
    rw [show ((xs.size : Int) - 1 + (k : Int) * -1).toNat = xs.size - 1 - k by omega]
  rw [e, PySem.W.krv_range, List.filterMap_reverse, PySem.W.krv_all]
theorem sliceApplied_rev {sl : Addr} {vl vu vs : Value} {n : Nat} {Q : Int × Int × Nat → Shared → Prop} (hs : s.heap.IsSliceOf sl vl vu vs) (pl : IsPart vl none) (pu : IsPart vu none) (ps : IsPart vs (some (-1)))
    (h : Q ((n : Int) - 1, -1, n) s) : wpAny (model prog w) A (Builtin.Slice.sliceApplied (.ref sl) (pure (n : Int))) Q E s := by
  obtain ⟨os, hos, hcs, hds⟩ := id hs
  unfold Builtin.Slice.sliceApplied Builtin.Slice.sliceFields
  refine wpAny_bind (wpAny_bind (wpAny_field hos hds (x := vl) rfl (wpAny_bind (wpAny_field hos hds (x := vu) rfl (wpAny_bind (wpAny_field hos hds (x := vs) rfl (wpAny_pure ?_)))))))
  refine wpAny_bind (HT.slicePart_ ps ?_)
  show wpAny _ _ (if ((-1 : Int) == 0) = true then _ else _) _ _ s
  rw [if_neg (by decide)]
  refine wpAny_bind (HT.slicePart_ pl (wpAny_bind (HT.slicePart_ pu (wpAny_bind (wpAny_pure ?_)))))
  show wpAny _ _ (match Builtin.Slice.sliceAdjust none none (-1) (n : Int) with | (lo, hi) => pure (lo, (-1 : Int), Builtin.Slice.slicePlaces lo hi (-1))) _ _ s
  rw [adj_rev n]
  show wpAny _ _ (pure ((n : Int) - 1, (-1 : Int), Builtin.Slice.slicePlaces ((n : Int) - 1) (-1) (-1))) _ _ s
  rw [places_rev]
  exact wpAny_pure h
theorem getItem_tuple_rev {t sl : Addr} {items : Array Value} {vl vu vs : Value} {Q : Value → Shared → Prop} (ht : IsTup s.heap t items) (hs : s.heap.IsSliceOf sl vl vu vs) (pl : IsPart vl none) (pu : IsPart vu none) (ps : IsPart vs (some (-1)))
    (h : Q (.ref s.heap.objs.size) { s with heap := s.heap.push { cls := .type "tuple", data := .seq items.toList.reverse.toArray } })
    (hsz : items.size ≤ sizeLine) : wpAny (model prog w) A (getItem (.ref t) (.ref sl)) Q E s := by
  have hrev : sizeOk (.seq items.toList.reverse.toArray) := by
    show items.toList.reverse.toArray.size ≤ sizeLine
    rw [List.size_toArray, List.length_reverse, Array.length_toList]
    exact hsz
  obtain ⟨os, hos, hcs, hds⟩ := id hs
  have hTs : s.TypeIs (.ref sl) "slice" := ⟨os, hos, hcs⟩
  unfold getItem
  try with_reducible refine wpAny_holding ?_
  first | refine wpAny_bind (wpAny_pure ?_) | skip
  refine wpAny_bind (wpAny_sequenceKey ht.typeIs (by decide) ?_)
  refine wpAny_bind (wpAny_callSpecial?_slot (name := Str.ofString "__getitem__") ht.typeIs PyProof.Rows.slot_tuple_getitem
    (wpAny_call_entry PyProof.Rows.slot_tuple_getitem ht.typeIs entry_tuple_getitem ?_ (args_tuple_getitem _ _)))
  show wpAny _ _ (Builtin.Tuple.tupleItemsOf (.ref t) >>= _) _ _ s
  refine wpAny_bind (tupleItemsOf_ ht ?_)
  refine wpAny_bind (wpAny_typeOf hTs ?_)
  rw [if_pos (by decide)]
  refine wpAny_bind (sliceApplied_rev hs pl pu ps ?_)
  have hno : ¬ ((((items.size : Int) - 1) == 0 && (-1 : Int) == 1 && items.size == items.size) = true) := by
    intro q
    rw [Bool.and_eq_true, Bool.and_eq_true] at q
    exact absurd q.1.2 (by decide)
  show wpAny _ _ (if (((items.size : Int) - 1) == 0 && (-1 : Int) == 1 && items.size == items.size) = true then _ else _) _ _ s
  rw [if_neg hno, pick_rev]
  first
    | exact wpAny_bind (m := Builtin.Tuple.tupleExact _) (wpAny_newObj_type (wpAny_pure ⟨_, rfl, wpAny_pure h⟩) hrev)
    | exact wpAny_bind (m := Builtin.Tuple.tupleExact _) (wpAny_newObj_type (wpAny_bind (wpAny_pure (wpAny_pure ⟨_, rfl, wpAny_pure h⟩))) hrev)
    | exact wpAny_bind (wpAny_bind (m := Builtin.Tuple.tupleExact _) (wpAny_newObj_type (wpAny_pure (wpAny_pure ⟨_, rfl, wpAny_pure h⟩)) hrev))
    | exact wpAny_bind (wpAny_bind (m := Builtin.Tuple.tupleExact _) (wpAny_newObj_type (wpAny_pure ⟨_, rfl, wpAny_pure h⟩) hrev))
end
section
variable {X : Cx}
def tRevA (K : PySem.W.Frag) (te : TE) : TE := fun σ H Q => te σ H fun x H1 => (∃ a xs, x = .ref a ∧ SqL K H1 a xs ∧ ∀ p, H1 p = none → Q (.ref p) (upd H1 p (.lst xs.reverse))) ∨ (∃ a xs, x = .ref a ∧ SqT K H1 a xs ∧ ∀ p, H1 p = none → Q (.ref p) (upd H1 p (.tup xs.reverse)))
theorem pe_revA {e : Expr} {te : TE} {k : Nat} {p1 p2 p3 pos : Pos} (he : PE X e te) : PE X (.Subscript e (.Slice none none (some (.UnaryOp .USub (.Constant (.int 1) k p1) p2)) p3) pos) (tRevA X.K te) := by
  refine ⟨fun pins s σ H Q I h => ?_⟩
  refine Subscript_ (thn (he.run pins s σ H _ I h) fun v s1 ⟨x, H1, I1, r1, q1⟩ => ?_)
  have hst : PO X (some (.UnaryOp .USub (.Constant (.int 1) k p1) p2)) (tPart (tUn (rU fun i => .int (-i)) (tC (.int 1)))) := po_some (pe_un un_neg pe_int)
  refine wpAny_Slice (thn (po_none.run pins s1 σ H1 (fun o H2 => o = none ∧ H2 = H1) I1 ⟨rfl, rfl⟩) fun vl s2 ⟨l, H2, I2, pl, el, e2⟩ => ?_)
  subst el e2
  refine thn (po_none.run pins s2 σ H2 (fun o H3 => o = none ∧ H3 = H2) I2 ⟨rfl, rfl⟩) fun vu s3 ⟨u, H3, I3, pu, eu, e3⟩ => ?_
  subst eu e3
  refine thn (hst.run pins s3 σ H3 (fun o H4 => o = some (-1) ∧ H4 = H3) I3 ⟨1, rfl, -1, rfl, rfl, rfl⟩) fun vs s4 ⟨o, H4, I4, ps, eo, e4⟩ => ?_
  subst eo e4
  have I5 : Inv X pins σ H4 { s4 with heap := s4.heap.push { cls := .type "slice", data := .fields #[vl, vu, vs] } } := I4.kept (t' := s4.toks) fun b ob q => Heap.get?_push_of_some _ q
  rcases q1 with ⟨a, xs, ex, hx, q⟩ | ⟨a, xs, ex, hx, q⟩
  · subst ex
    cases r1
    obtain ⟨its, r, ht, hz⟩ := I5.list hx
    have hlen := r.length
    show wpAny (model X.prog X.w) X.A (subscriptTail e (.Slice none none (some (.UnaryOp .USub (.Constant (.int 1) k p1) p2)) p3) (.ref a) (.ref s4.heap.objs.size)) (EP X pins σ Q) X.xe { s4 with heap := s4.heap.push { cls := .type "slice", data := .fields #[vl, vu, vs] } }
    refine tail_any (ops := [.ref a, .ref s4.heap.objs.size]) ht.isList.typeIs (PySem.slot_list_getitem.lookup) ?_ (by with_unfolding_all rfl)
    refine wpAny_getItem_list_slice ht.isList (Heap.IsSliceOf.new _ vl vu vs) pl pu ps (by decide) ?_ (by rw [List.size_toArray]; omega)
    rw [PySem.W.krv_pick]
    refine ⟨.ref _, _, I5.laid (t' := s4.toks) (o := .lst xs.reverse) (fun b ob q => Heap.get?_push_of_some _ q) (Nat.le_refl _) ?_, rfl, q _ (I5.hok.fresh (Nat.le_refl _))⟩
    exact ⟨by rw [List.length_reverse]; exact hz, _, 0, r.reverse, Heap.get?_push_size _ rfl⟩
  · subst ex
    cases r1
    obtain ⟨its, r, ht, hz⟩ := I5.tuple hx
    have hlen := r.length
    show wpAny (model X.prog X.w) X.A (subscriptTail e (.Slice none none (some (.UnaryOp .USub (.Constant (.int 1) k p1) p2)) p3) (.ref a) (.ref s4.heap.objs.size)) (EP X pins σ Q) X.xe { s4 with heap := s4.heap.push { cls := .type "slice", data := .fields #[vl, vu, vs] } }
    refine tail_any (ops := [.ref a, .ref s4.heap.objs.size]) ht.typeIs (PyProof.Rows.slot_tuple_getitem.lookup) ?_ (by with_unfolding_all rfl)
    refine getItem_tuple_rev ht (Heap.IsSliceOf.new _ vl vu vs) pl pu ps ?_ (by rw [List.size_toArray]; omega)
    refine ⟨.ref _, _, I5.laid (t' := s4.toks) (o := .tup xs.reverse) (fun b ob q => Heap.get?_push_of_some _ q) (Nat.le_refl _) ?_, rfl, q _ (I5.hok.fresh (Nat.le_refl _))⟩
    exact ⟨by rw [List.length_reverse]; exact hz, _, r.reverse, IsTup.new _ _⟩
end
/-- a lambda's function object at f -/
def LamO (f : Addr) (q : Str) (params : Arguments) (body : Expr) (scope : Scope) (cells : List (Str × Addr)) (pm : Value) (c' : Addr) (ctv : Value) : HO :=
  .ext fun h => h.get? f = some (PySem.W.kla_obj "<lambda>" q params body scope (cloFrom cells scope.names []) pm c' ctv)
/-! what a list of lambdas is -/
section
variable (n : Wn) (N : List Str) (sc : Scope) (q : Str) (cells : List (Str × Addr))
def LmR (F : Hp) (k : Nat) (r : V) : Prop := ∃ (e : Ex) (f c' : Addr) (params : Arguments) (body : Expr) (lsc : Scope) (pm ctv : Value), n.lms[k]? = some e ∧ r = .ref f ∧ F f = some (LamO f q params body lsc cells pm c' ctv) ∧ F c' = some (LamX.CodeO c' q) ∧
  LamX.lamSB sc lsc = true ∧ noParB params = true ∧ matE n.in_ N e lsc body = true
inductive LmA (F : Hp) : List Nat → List V → Prop
  | nil : LmA F [] []
  | cons {k : Nat} {ks : List Nat} {r : V} {rs : List V} : LmR n N sc q cells F k r → LmA F ks rs → LmA F (k :: ks) (r :: rs)
end
section
variable {n : Wn} {N : List Str} {sc : Scope} {q : Str} {cells : List (Str × Addr)} {F G : Hp}
theorem LmR.mono (s : Sub F G) {k : Nat} {r : V} : LmR n N sc q cells F k r → LmR n N sc q cells G k r :=
  fun ⟨e, f, c', params, body, lsc, pm, ctv, h1, h2, h3, h4, h5⟩ => ⟨e, f, c', params, body, lsc, pm, ctv, h1, h2, s _ _ h3, s _ _ h4, h5⟩
theorem LmA.mono (s : Sub F G) : ∀ {ks : List Nat} {rs : List V}, LmA n N sc q cells F ks rs → LmA n N sc q cells G ks rs
  | _, _, .nil => .nil
  | _, _, .cons a b => .cons (a.mono s) (LmA.mono s b)
theorem LmA.len : ∀ {ks : List Nat} {rs : List V}, LmA n N sc q cells F ks rs → rs.length = ks.length
  | _, _, .nil => rfl
  | _, _, .cons _ b => congrArg Nat.succ (LmA.len b)
theorem LmA.app : ∀ {ks ls : List Nat} {rs ts : List V}, LmA n N sc q cells F ks rs → LmA n N sc q cells F ls ts → LmA n N sc q cells F (ks ++ ls) (rs ++ ts)
  | _, _, _, _, .nil, h => h
  | _, _, _, _, .cons a b, h => .cons a (LmA.app b h)
theorem LmA.get : ∀ {ks : List Nat} {rs : List V} {i : Nat} {k : Nat}, LmA n N sc q cells F ks rs → ks[i]? = some k → ∃ r, rs[i]? = some r ∧ LmR n N sc q cells F k r
  | _, _, _, _, .nil, e => by simp at e
  | _, _, 0, _, .cons a _, e => by simp at e; subst e; exact ⟨_, rfl, a⟩
  | _, _, i + 1, _, .cons _ b, e => by
    obtain ⟨r, h1, h2⟩ := LmA.get (i := i) b (by simpa using e)
    exact ⟨r, by simpa using h1, h2⟩
end
def zOf (n : Wn) (N : List Str) (sc : Scope) (q : Str) (cells : List (Str × Addr)) : Zt where
  r := fun F v ks => ∃ a rs, v = .ref a ∧ F a = some (.lst rs) ∧ LmA n N sc q cells F ks rs
  mono := fun F G v ks s ⟨a, rs, h1, h2, h3⟩ => ⟨a, rs, h1, s _ _ h2, h3.mono s⟩
section
variable (K : PySem.W.Frag) (ad : Adr) (XR : Xc → Value → Option Addr → Hp → Hp → Prop) (Wi : Wz) (W : Wd) (C : Cal)
def relV (L : List Addr) : Hp → Hp → Vl → V → Prop := fun F' _ v x => VlR K ad L F' v x
def relVs (L : List Addr) : Hp → Hp → List Vl → List V → Prop := fun F' _ vs xs => VlRs K ad L F' vs xs
def relB : Hp → Hp → Bool → Bool → Prop := fun _ _ a b => a = b
/-- a list that is new behind H0 and not frozen -/
def relN (H0 : Hp) : Hp → Hp → List D → V → Prop := fun F' H' ds x => ∃ a vs, x = .ref a ∧ F' a = none ∧ Nt H0 a ∧ H' a = some (.lst vs) ∧ RpA K ad F' vs ds
def relR (L : List Addr) (H0 : Hp) : Hp → Hp → RV → V → Prop := fun F' H' r x => match r with
  | .vl v => VlR K ad L F' v x
  | .new ds => relN K ad H0 F' H' ds x
def tE (e : Ex) : TE := fun σ H Q => ∃ s L m F, SltR K ad Wi.z L F s σ ∧ StoR K ad L m F H ∧ Hold K ad XR Wi (relV K ad L) (ev W C e s m) L m F H Q
def tEs (es : List Ex) : TA := fun σ H Q => ∃ s L m F, SltR K ad Wi.z L F s σ ∧ StoR K ad L m F H ∧ Hold K ad XR Wi (relVs K ad L) (evs W C es s m) L m F H Q
def relD : Hp → Hp → List D → List V → Prop := fun F' _ ds xs => RpA K ad F' xs ds
def tEd (fl : List Bool) (es : List Ex) : TA := fun σ H Q => ∃ s L m F, SltR K ad Wi.z L F s σ ∧ StoR K ad L m F H ∧ Hold K ad XR Wi (relD K ad) (evd W C fl es s m) L m F H Q
def tT (e : Tx) : TT := fun σ H Q => ∃ s L m F, SltR K ad Wi.z L F s σ ∧ StoR K ad L m F H ∧ Hold K ad XR Wi relB (evT W C e s m) L m F H Q
/-- a def's promise, in the words of the evaluator -/
def FnG (P : Program) (w : World) (mg : Str → Option Value) (base : Heap) (lv : Nat) (f : Addr) (g : List Vl → Sto → R RV) : Prop :=
  ∀ (A : Around) (outer : List Env) (s : Shared) (H : Hp) (us : List Value) (vs : List V) (Q : VK) (E : XK) (L : List Addr) (m : Sto) (F : Hp) (as : List Vl),
    Room (3 * lv) A → A.guards = some [] → Env0 P w K mg base A outer s H → Vals vs us → StoR K ad L m F H → VlRs K ad L F as vs → Hold K ad XR E (relR K ad L H) (g as m) L m F H Q →
    codeAny (model P w) A (.call (.ref f) ⟨us, []⟩) (CR (L2.CX P w) outer P w H s Q E) s
/-- an exception in flight, as the language tells it -/
def xrE : Xc → Value → Option Addr → Hp → Hp → Prop := fun x cls d F _ => cls = .ref (ad.ex x.cls) ∧ ∃ k, W.xk[x.cls]? = some k ∧ match x.arg with
  | none => True
  | some v => ∃ dx y, d = some dx ∧ F dx = some (.xd [(k.fld, y)]) ∧ Rp K ad F y v
/-- what is known of a class with an __init__ -/
def IniF (P : Program) (C : Addr) (fld : Str) (fp : List FP) : Prop :=
  ∃ (O B newId initId : String) (bmB : List Value) (fI cc cda : Addr) (x0 x1 name qual : Str) (params : Arguments) (body : List Stmt) (scope : Scope) (dV kV doc pm ct oc ccl cl : Value) (an od cdd cld : Option Addr) (osl ccs csl : Array (Option Value)) (vs : Array Value) (file : Str) (tf : Tok) (cdD : ClassData) (ar : Arg),
    OwnF O B newId initId bmB ∧ StoreFacts B bmB "object.__setattr__" "object" ∧ PySem.W.KxsFacts B initId ∧ IniK K C fI cc cda fld B newId initId bmB ∧
    K.lookup fI = some ⟨oc, od, .func (PySem.W.ksFn name qual params body scope dV kV doc pm an (.ref cda) ct cc), osl⟩ ∧ PySem.W.codeIn K (.ref cda) qual = true ∧ K.lookup cda = some ⟨ccl, cdd, .fields vs, ccs⟩ ∧ vs[2]? = some (.str file tf) ∧ ((P.main.file : Str) == file) = true ∧
    K.lookup cc = some ⟨cl, cld, .cell (some (.ref C)), csl⟩ ∧ PySem.W.clsIn K C = some cdD ∧ iniB x0 x1 fld fp body = true ∧ iniSc x0 x1 scope = true ∧ (params.posonlyargs ++ params.args).head? = some ar ∧ ar.arg = x0 ∧
    (∀ a b : Value, bindArgs (PySem.W.ksFn name qual params body scope dV kV doc pm an (.ref cda) ct cc) ⟨[a, b], []⟩ = pure [(x0, a), (x1, b)]) ∧ (P.main.scope.names.lookup ("super" : Str)).isSome = false ∧ XfC K C ∧ PySem.W.findIn K (.ref C) fld = some none
structure ExcF (P : Program) (mg : Str → Option Value) (k : Nat) (x : Xk) : Prop where
  mg : mg x.g = some (.ref (ad.ex k))
  kp : PySem.W.keepIn K (.ref (ad.ex k)) = true
  sb : PySem.W.subIn K (.ref (ad.ex k)) (.type "BaseException") = some true
  ty : PySem.W.typeIn K (.ref (ad.ex k)) = some (.type "type")
  pl : x.fp = none → ∃ (B newId initId : String) (bmB : List Value), ExcBaseFacts B newId initId bmB ∧ PySem.W.excIn K (ad.ex k) bmB newId = true
  ini : ∀ fp, x.fp = some fp → IniF K P (ad.ex k) x.fld fp
  ec : ExcC K (ad.ex k)
  self : PySem.W.subIn K (.ref (ad.ex k)) (.ref (ad.ex k)) = some true
  bt : ∀ p ∈ x.bs, PySem.W.subIn K (.ref (ad.ex k)) (.type p.1) = some p.2
/-- a clause of a telling def, against the syntax -/
def matC (W : Wd) (bs : List Str) (N : List Str) (sg : Scope) (c : Tc) : ExceptHandler → Bool
  | .ExceptHandler (some (.Name y _)) nm [.Return (some e) _] _ => (match W.xk[c.cls]? with
    | some k => decide (k.g = y) && glbB sg y && okNm y && (match nm, e with
      | none, .Constant (.str z) _ _ => !c.keeps && decide (c.pre = z)
      | some v, .BinOp (.Constant (.str z) _ _) .Add (.Call (.Name r _) [.Attribute (.Name v' _) f _] [] _) _ => c.keeps && decide (c.pre = z) && decide (r = ("repr" : Str)) && bs.contains r && glbB sg r && decide (v' = v) && decide (f = k.fld) && k.fp.isSome && okNm v && isKind sg v .local && decide (v ∈ N)
      | _, _ => false)
    | none => false)
  | _ => false
def matCs (W : Wd) (bs : List Str) (N : List Str) (sg : Scope) : List Tc → List ExceptHandler → Bool
  | [], [] => true
  | c :: cs, h :: hs => matC W bs N sg c h && matCs W bs N sg cs hs
  | _, _ => false
def matTl (W : Wd) (bs : List Str) (N : List Str) (a : Str) (sg : Scope) (T : Tl) : List Stmt → Bool
  | [.Try [.Expr (.Call (.Name a' _) [] [] _) _] (h :: hs) [] [] _, .Return (some (.Constant (.str z) _ _)) _] => decide (a' = a) && decide (z = T.fine) && matCs W bs N sg T.cs (h :: hs)
  | _ => false
/-- what is known of a def that tells how a call ends -/
def TldF (mg : Str → Option Value) (bs : List Str) (T : Tl) (x : Str) : Prop :=
  ∃ (g : Addr) (a : Str) (N : List Str) (pg : Arguments) (bg : List Stmt) (sg : Scope) (dV kV doc pm cdv ct oc : Value) (an od : Option Addr) (osl : Array (Option Value)),
    mg x = some (.ref g) ∧ PySem.W.keepIn K (.ref g) = true ∧ K.lookup g = some ⟨oc, od, .func (PySem.W.fnOf x x pg bg sg dV kV doc pm an cdv ct), osl⟩ ∧ PySem.W.codeIn K cdv x = true ∧
    L2.Binds K (PySem.W.fnOf x x pg bg sg dV kV doc pm an cdv ct) [a] [] ∧ FnScope N [a] sg ∧ N[0]? = some a ∧ Vis sg a ∧ okNm a = true ∧ matTl W bs N a sg T bg = true
end
/-- where lambdas may be made -/
structure LamC (ad : Adr) (X : Cx) (lv : Nat) : Prop where
  room : Room (3 * lv + 2) X.A
  made : ∃ c P, X.env.code = .ref c ∧ LamX.TabB X.base X.mg c P ∧ (P, X.env.qual ++ "<lambda>") ∈ ad.tb ∧ ∀ p ∈ ad.tb, p.1 = P → p.2 = X.env.qual ++ "<lambda>"
/-- where code of the scope sc runs, names by slot in N, exceptions wished as Wi -/
structure XO (ad : Adr) (n : Wn) (X : Cx) (N : List Str) (sc : Scope) (Wi : Wz) (lv : Nat) : Prop where
  nm : X.N = N
  es : X.env.scope = sc
  nd : N.Nodup
  calm : X.calm = true
  room : Room (3 * lv) X.A
  lam : n.lm = true → makerB sc = true → LamC ad X lv
  zz : n.lm = true → n.tp = true → Wi.z = zOf n N sc (X.env.qual ++ "<lambda>") X.env.cells
  grd : X.A.guards = some []
  tk : Takes X (fun cls d _ H => Wi cls d H)
section
variable (K : PySem.W.Frag) (ad : Adr) (XR : Xc → Value → Option Addr → Hp → Hp → Prop) (W : Wd) (C : Cal)
def apBad : Nat → Slots → Sto → R Vl := fun _ _ _ => .bad
structure GO (P : Program) (w : World) (mg : Str → Option Value) (base : Heap) (n : Wn) (lv : Nat) : Prop where
  con : ∀ (g : Nat) (p : Str × D), W.con[g]? = some p → ∃ v u, mg p.1 = some u ∧ RelV v u ∧ ∀ F, Rp K ad F v p.2
  bs : ∀ x, n.bs.contains x = true → mg x = none
  fn : ∀ (k : Nat) (x : Str), n.fnm[k]? = some x → mg x = some (.ref (ad k)) ∧ PySem.W.keepIn K (.ref (ad k)) = true
  xre : XR = xrE K ad W
  cnn : n.cn = W.con
  apk : ∀ (k : Nat) (e : Ex) (s : Slots) (m : Sto), n.lms[k]? = some e → W.ap k s m = ev { W with ap := apBad } C e s m
  exc : ∀ (k : Nat) (x : Xk), W.xk[k]? = some x → ExcF K ad P mg k x
  exm : ∀ i j : Nat, i < W.xk.length → j < W.xk.length → PySem.W.exmOne K (.ref (ad.ex i)) (.ref (ad.ex j)) = some (supX W.xk i j)
  tlx : ∀ (t : Nat) (T : Tl), W.tl[t]? = some T → ∀ i j : Nat, i < W.xk.length → j < W.xk.length → supX W.xk i j = decide (i = j)
  xgn : n.xg = W.xk.map (·.g)
  tld : ∀ (t : Nat) (T : Tl) (x : Str), W.tl[t]? = some T → n.tnm[t]? = some x → TldF K W mg n.bs T x
  run : ∀ (k : Nat) (x : Str), n.fnm[k]? = some x → FnG K ad XR P w mg base lv (ad k) (C k)
  td : n.tp = true → ∀ (X : Cx) (N : List Str) (sc : Scope) (Wi : Wz) (t i : Nat) (e' : Expr), X.K = K → X.prog = P → X.w = w → X.mg = mg → X.base = base → XO ad n X N sc Wi lv → matE n N (.tolds t i) sc e' = true → PE X e' (tE K ad XR Wi W C (.tolds t i))
end
theorem GO.in_ {K : PySem.W.Frag} {ad : Adr} {XR : Xc → Value → Option Addr → Hp → Hp → Prop} {W : Wd} {C : Cal} {P : Program} {w : World} {mg : Str → Option Value} {base : Heap} {n : Wn} {lv : Nat} (G : GO K ad XR W C P w mg base n lv) : GO K ad XR W C P w mg base n.in_ lv :=
  ⟨G.con, G.bs, G.fn, G.xre, G.cnn, (fun _ _ _ _ h => by cases h), G.exc, G.exm, G.tlx, G.xgn, G.tld, G.run, fun z => Bool.noConfusion z⟩
theorem _root_.L2.PE.imp {X : Cx} {e : Expr} {t t' : TE} (h : PE X e t) (i : ∀ σ H Q, t' σ H Q → t σ H Q) : PE X e t' := ⟨fun pins s σ H Q I hw => h.run pins s σ H Q I (i σ H Q hw)⟩
theorem _root_.L2.PT.imp {X : Cx} {e : Expr} {t t' : TT} (h : PT X e t) (i : ∀ σ H Q, t' σ H Q → t σ H Q) : PT X e t' := ⟨fun pins s σ H Q I hw => h.run pins s σ H Q I (i σ H Q hw)⟩
theorem _root_.L2.PW.imp {X : Cx} {e : Expr} {t t' : TT} (h : PW X e t) (i : ∀ σ H Q, t' σ H Q → t σ H Q) : PW X e t' := ⟨fun wh pins s σ H Q I hw => h.run wh pins s σ H Q I (i σ H Q hw)⟩
theorem _root_.L2.PA.imp {X : Cx} {es : List Expr} {t t' : TA} (h : PA X es t) (i : ∀ σ H Q, t' σ H Q → t σ H Q) : PA X es t' := ⟨fun pos pins s σ H Q I hw => h.run pos pins s σ H Q I (i σ H Q hw)⟩
section
variable {K : PySem.W.Frag} {ad : Adr} {XR : Xc → Value → Option Addr → Hp → Hp → Prop} {Wi : Wz} {W : Wd} {C : Cal} {σ : L2.St} {H : Hp} {s : Slots} {L : List Addr} {m : Sto} {F : Hp}
theorem tE.mono {e : Ex} {Q Q' : VK} (h : tE K ad XR Wi W C e σ H Q) (q : ∀ x H, Q x H → Q' x H) : tE K ad XR Wi W C e σ H Q' := by
  obtain ⟨s, L, m, F, hs, hm, h⟩ := h
  exact ⟨s, L, m, F, hs, hm, h.mono q⟩
theorem tEs.mono {e : List Ex} {Q Q' : List V → Hp → Prop} (h : tEs K ad XR Wi W C e σ H Q) (q : ∀ x H, Q x H → Q' x H) : tEs K ad XR Wi W C e σ H Q' := by
  obtain ⟨s, L, m, F, hs, hm, h⟩ := h
  exact ⟨s, L, m, F, hs, hm, h.mono q⟩
theorem tT.mono {e : Tx} {Q Q' : Bool → Hp → Prop} (h : tT K ad XR Wi W C e σ H Q) (q : ∀ x H, Q x H → Q' x H) : tT K ad XR Wi W C e σ H Q' := by
  obtain ⟨s, L, m, F, hs, hm, h⟩ := h
  exact ⟨s, L, m, F, hs, hm, h.mono q⟩
/-- what is known behind a part -/
structure Bh (K : PySem.W.Frag) (ad : Adr) (XR : Xc → Value → Option Addr → Hp → Hp → Prop) (Wi : Wz) {α β γ : Type} (rel : Hp → Hp → β → γ → Prop) (r : R α) (f : α → Sto → R β) (Q : γ → Hp → Prop) (L : List Addr) (m : Sto) (F H : Hp) (a : α) (m1 : Sto) (F1 H1 : Hp) : Prop where
  eq : r = .ok a m1
  ext : Ext L m F H m1 F1 H1
  sto : StoR K ad L m1 F1 H1
  hold : Hold K ad XR Wi rel (f a m1) L m1 F1 H1 Q
theorem Hold.bh {α β γ δ : Type} {rel : Hp → Hp → β → γ → Prop} (rel1 : Hp → Hp → α → δ → Prop) {r : R α} {f : α → Sto → R β} {Q : γ → Hp → Prop} (h : Hold K ad XR Wi rel (r.bind f) L m F H Q) :
    Hold K ad XR Wi rel1 r L m F H fun x H1 => ∃ a m1 F1, Bh K ad XR Wi rel r f Q L m F H a m1 F1 H1 ∧ rel1 F1 H1 a x :=
  (h.bind rel1).mono fun x H1 ⟨a, m1, F1, e1, ex, st, r, h1⟩ => ⟨a, m1, F1, ⟨e1, ex, st, h1⟩, r⟩
theorem tE_bind {e : Ex} {β γ : Type} {rel : Hp → Hp → β → γ → Prop} {f : Vl → Sto → R β} {Q : γ → Hp → Prop} (hs : SltR K ad Wi.z L F s σ) (hm : StoR K ad L m F H) (h : Hold K ad XR Wi rel ((ev W C e s m).bind f) L m F H Q) :
    tE K ad XR Wi W C e σ H fun x H1 => ∃ a m1 F1, Bh K ad XR Wi rel (ev W C e s m) f Q L m F H a m1 F1 H1 ∧ VlR K ad L F1 a x := ⟨s, L, m, F, hs, hm, h.bh (relV K ad L)⟩
theorem tEs_bind {e : List Ex} {β γ : Type} {rel : Hp → Hp → β → γ → Prop} {f : List Vl → Sto → R β} {Q : γ → Hp → Prop} (hs : SltR K ad Wi.z L F s σ) (hm : StoR K ad L m F H) (h : Hold K ad XR Wi rel ((evs W C e s m).bind f) L m F H Q) :
    tEs K ad XR Wi W C e σ H fun x H1 => ∃ a m1 F1, Bh K ad XR Wi rel (evs W C e s m) f Q L m F H a m1 F1 H1 ∧ VlRs K ad L F1 a x := ⟨s, L, m, F, hs, hm, h.bh (relVs K ad L)⟩
theorem tT_bind {e : Tx} {β γ : Type} {rel : Hp → Hp → β → γ → Prop} {f : Bool → Sto → R β} {Q : γ → Hp → Prop} (hs : SltR K ad Wi.z L F s σ) (hm : StoR K ad L m F H) (h : Hold K ad XR Wi rel ((evT W C e s m).bind f) L m F H Q) :
    tT K ad XR Wi W C e σ H fun x H1 => ∃ a m1 F1, Bh K ad XR Wi rel (evT W C e s m) f Q L m F H a m1 F1 H1 ∧ a = x := ⟨s, L, m, F, hs, hm, h.bh relB⟩
/-- the end: a datum -/
theorem Hold.fin {d : D} {Q : VK} (h : Hold K ad XR Wi (relV K ad L) (.ok (.dat d) m) L m F H Q) (hm : StoR K ad L m F H) : Fin K ad F H d Q := fun F' H' z g r => h.now hm g r
theorem datsOf_ok : ∀ {vs : List Vl} {ds : List D} {xs : List V}, datsOf vs = some ds → VlRs K ad L F vs xs → RpA K ad F xs ds
  | [], _, _, e, h => by cases h; cases e; exact .nil
  | .dat d :: vs, _, _, e, h => by
    cases h with
    | cons a b =>
      have e' : (datsOf vs).map (d :: ·) = some _ := e
      obtain ⟨ds', e1, rfl⟩ := Option.map_eq_some_iff.mp e'
      exact .cons a (datsOf_ok e1 b)
  | .loc _ :: _, _, _, e, _ => by cases e
theorem looks_ok (hm : StoR K ad L m F H) : ∀ {vs : List Vl} {ds : List D} {xs : List V}, looks m vs = some ds → VlRs K ad L F vs xs → LkA K ad F H xs ds
  | [], _, _, e, h => by cases h; cases e; exact .nil
  | v :: vs, _, _, e, h => by
    cases h with
    | cons a b =>
      have e' : ((look m v).bind fun d => (looks m vs).map (d :: ·)) = some _ := e
      obtain ⟨d, e1, e2⟩ := Option.bind_eq_some_iff.mp e'
      obtain ⟨ds', e3, rfl⟩ := Option.map_eq_some_iff.mp e2
      exact .cons (VlR.lk hm a e1) (looks_ok hm e3 b)
variable {X : Cx} {N : List Str} {sc : Scope} {lv : Nat} {n : Wn} {pos : Pos} {e : Ex} {a b c : Ex} {t0 t1 : Tx} {a' b' c' : Expr}
theorem _root_.L2.Room.u64 {k : Nat} {A : Around} (r : Room k A) : A.units + 64 < cLine := r.units
/-! ### the forms, one by one -/
theorem pf_var {i : Nat} {x : Str} (hN : X.N[i]? = some x) (hv : Vis X.env.scope x) (ho : okNm x = true) : PE X (.Name x pos) (tE X.K ad XR Wi W C (.var i)) := by
  obtain ⟨h1, h2, _⟩ := okNm_of ho
  refine (pe_var hN hv h1 h2).imp fun σ H Q h => ?_
  obtain ⟨s, L, m, F, hs, hm, h⟩ := h
  simp only [ev] at h
  split at h
  · rename_i d e
    obtain ⟨x, e1, r⟩ := hs.at_ i _ e
    exact ⟨x, e1, h.now hm (.refl hm.sub) r⟩
  · rename_i k e
    obtain ⟨x, e1, r⟩ := hs.at_ i _ e
    exact ⟨x, e1, h.now hm (.refl hm.sub) r⟩
  · exact h.elim
theorem pf_int {i : Int} {k : Nat} : PE X (.Constant (.int i) k pos) (tE X.K ad XR Wi W C (.cst (.int i))) := by
  refine pe_int.imp fun σ H Q h => ?_
  obtain ⟨s, L, m, F, hs, hm, h⟩ := h
  exact (h.fin hm).int hm.sub
theorem pf_bl {i : Bool} {k : Nat} : PE X (.Constant (.bool i) k pos) (tE X.K ad XR Wi W C (.cst (.bl i))) := by
  refine pe_bl.imp fun σ H Q h => ?_
  obtain ⟨s, L, m, F, hs, hm, h⟩ := h
  exact (h.fin hm).bl hm.sub
theorem pf_non {k : Nat} : PE X (.Constant .none k pos) (tE X.K ad XR Wi W C (.cst .non)) := by
  refine pe_non.imp fun σ H Q h => ?_
  obtain ⟨s, L, m, F, hs, hm, h⟩ := h
  exact (h.fin hm).same hm.sub .non
theorem pf_str {x : Str} {k : Nat} : PE X (.Constant (.str x) k pos) (tE X.K ad XR Wi W C (.cst (.str x))) := by
  refine pe_str.imp fun σ H Q h => ?_
  obtain ⟨s, L, m, F, hs, hm, h⟩ := h
  exact (h.fin hm).str hm.sub
theorem pf_glo {g : Nat} {x : Str} (G : GO X.K ad XR W C X.prog X.w X.mg X.base n lv) (hg : (match W.con[g]? with | some p => decide (p.1 = x) | none => false) = true) (hx : Gl X x) (ho : okNm x = true) : PE X (.Name x pos) (tE X.K ad XR Wi W C (.glo g)) := by
  split at hg
  · rename_i p e
    have hp := of_decide_eq_true hg
    subst hp
    obtain ⟨v, u, h1, h2, h3⟩ := G.con g p e
    refine (pe_glob hx h1 h2 (okNm_of ho).1).imp fun σ H Q h => ?_
    obtain ⟨s, L, m, F, hs, hm, h⟩ := h
    simp only [ev, e] at h
    exact (h.fin hm).same hm.sub (h3 F)
  · cases hg
theorem pfs_nil : PA X [] (tEs X.K ad XR Wi W C []) := by
  refine pa_nil.imp fun σ H Q h => ?_
  obtain ⟨s, L, m, F, hs, hm, h⟩ := h
  exact h.now (a := []) hm (.refl hm.sub) .nil
theorem pfs_cons {es : List Ex} {e' : Expr} {es' : List Expr} (ha : PE X e' (tE X.K ad XR Wi W C e)) (hr : PA X es' (tEs X.K ad XR Wi W C es)) (hst : starB e' = false) : PA X (e' :: es') (tEs X.K ad XR Wi W C (e :: es)) := by
  refine (pa_cons ha hr (star_each hst _ _)).imp fun σ H Q h => ?_
  obtain ⟨s, L, m, F, hs, hm, h⟩ := h
  simp only [evs] at h
  refine (tE_bind hs hm h).mono fun x H1 ⟨v, m1, F1, b1, r1⟩ => ?_
  refine (tEs_bind (hs.mono b1.ext.sub) b1.sto b1.hold).mono fun xs H2 ⟨vs, m2, F2, b2, r2⟩ => ?_
  exact b2.hold.now b2.sto (.refl b2.sto.sub) (.cons (r1.mono b2.ext.sub) r2)
theorem pf_tup {es : List Ex} {es' : List Expr} {k : Nat} (h : PA X es' (tEs X.K ad XR Wi W C es)) : PE X (.Tuple es' k pos) (tE X.K ad XR Wi W C (.tup es)) := by
  refine (pe_tup h).imp fun σ H Q h => ?_
  obtain ⟨s, L, m, F, hs, hm, h⟩ := h
  simp only [ev] at h
  refine (tEs_bind hs hm h).mono fun xs H1 ⟨vs, m1, F1, b1, r1⟩ => ?_
  have hh := b1.hold
  split at hh
  · rename_i ds e
    split at hh
    · rename_i hz
      have r := datsOf_ok e r1
      exact ⟨by rw [r.len]; exact le_of_sz hz, (hh.fin b1.sto).tup b1.sto.sub r⟩
    · exact hh.elim
  · exact hh.elim
theorem pf_lst {es : List Ex} {es' : List Expr} (h : PA X es' (tEs X.K ad XR Wi W C es)) : PE X (.List es' pos) (tE X.K ad XR Wi W C (.lst es)) := by
  refine (pe_lst h).imp fun σ H Q h => ?_
  obtain ⟨s, L, m, F, hs, hm, h⟩ := h
  simp only [ev] at h
  refine (tEs_bind hs hm h).mono fun xs H1 ⟨vs, m1, F1, b1, r1⟩ => ?_
  have hh := b1.hold
  split at hh
  · rename_i ds e
    split at hh
    · rename_i hz
      have r := datsOf_ok e r1
      exact ⟨by rw [r.len]; exact le_of_sz hz, (hh.fin b1.sto).lst b1.sto.sub r⟩
    · exact hh.elim
  · exact hh.elim
theorem tEd_bind {fl : List Bool} {e : List Ex} {β γ : Type} {rel : Hp → Hp → β → γ → Prop} {f : List D → Sto → R β} {Q : γ → Hp → Prop} (hs : SltR K ad Wi.z L F s σ) (hm : StoR K ad L m F H) (h : Hold K ad XR Wi rel ((evd W C fl e s m).bind f) L m F H Q) :
    tEd K ad XR Wi W C fl e σ H fun x H1 => ∃ a m1 F1, Bh K ad XR Wi rel (evd W C fl e s m) f Q L m F H a m1 F1 H1 ∧ RpA K ad F1 x a := ⟨s, L, m, F, hs, hm, h.bh (relD K ad)⟩
theorem tEd.mono {fl : List Bool} {e : List Ex} {Q Q' : List V → Hp → Prop} (h : tEd K ad XR Wi W C fl e σ H Q) (q : ∀ x H, Q x H → Q' x H) : tEd K ad XR Wi W C fl e σ H Q' := by
  obtain ⟨s, L, m, F, hs, hm, h⟩ := h
  exact ⟨s, L, m, F, hs, hm, h.mono q⟩
theorem rpa_keys (F : Hp) : ∀ k : List Key, RpA K ad F (k.map kV) (k.map dKey)
  | [] => .nil
  | .inl i :: r => .cons (.int i) (rpa_keys F r)
  | .inr x :: r => .cons (.str x) (rpa_keys F r)
theorem pfd_nil : PA X [] (tEd X.K ad XR Wi W C [] []) := by
  refine pa_nil.imp fun σ H Q h => ?_
  obtain ⟨s, L, m, F, hs, hm, h⟩ := h
  exact h.now (a := []) hm (.refl hm.sub) .nil
theorem pfd_cons {fl : List Bool} {es : List Ex} {e' : Expr} {es' : List Expr} (ha : PE X e' (tE X.K ad XR Wi W C e)) (hr : PA X es' (tEd X.K ad XR Wi W C fl es)) (hst : starB e' = false) : PA X (e' :: es') (tEd X.K ad XR Wi W C (false :: fl) (e :: es)) := by
  refine (pa_cons ha hr (star_each hst _ _)).imp fun σ H Q h => ?_
  obtain ⟨s, L, m, F, hs, hm, h⟩ := h
  simp only [evd] at h
  refine (tE_bind hs hm h).mono fun x H1 ⟨v, m1, F1, b1, r1⟩ => ?_
  have hh := b1.hold
  cases v with
  | loc _ => exact hh.elim
  | fns _ => exact hh.elim
  | dat d =>
    refine (tEd_bind (hs.mono b1.ext.sub) b1.sto hh).mono fun xs H2 ⟨ds, m2, F2, b2, r2⟩ => ?_
    exact b2.hold.now b2.sto (.refl b2.sto.sub) (.cons (Rp.mono b2.ext.sub r1) r2)
theorem pfd_star {fl : List Bool} {es : List Ex} {e' : Expr} {es' : List Expr} {p : Pos} (ha : PE X e' (tE X.K ad XR Wi W C e)) (hr : PA X es' (tEd X.K ad XR Wi W C fl es)) : PA X (.Starred e' p :: es') (tEd X.K ad XR Wi W C (true :: fl) (e :: es)) := by
  refine (StX.pa_star ha hr).imp fun σ H Q h => ?_
  obtain ⟨s, L, m, F, hs, hm, h⟩ := h
  simp only [evd] at h
  refine (tE_bind hs hm h).mono fun x H1 ⟨v, m1, F1, b1, r1⟩ => ?_
  have hh := b1.hold
  split at hh
  case h_2 => exact hh.elim
  case h_1 xs hx =>
  obtain ⟨d, hd, hi⟩ := Option.bind_eq_some_iff.mp hx
  have l := r1.lk b1.sto hd
  have rest : ∀ {vs : List V}, RpA X.K ad F1 vs xs → tEd X.K ad XR Wi W C fl es σ H1 fun ys H2 => Q (vs ++ ys) H2 := fun {vs} rv =>
    (tEd_bind (hs.mono b1.ext.sub) b1.sto hh).mono fun ys H2 ⟨ds, m2, F2, b2, r2⟩ => b2.hold.now b2.sto (.refl b2.sto.sub) (RpA.app (RpA.mono b2.ext.sub rv) r2)
  cases l with
  | tup a b => cases hi; exact ⟨_, _, rfl, .inl (SqT.mono b1.sto.sub a), rest b⟩
  | lst a b => cases hi; exact ⟨_, _, rfl, .inr (SqL.of a), rest b⟩
  | ktp a => cases hi; exact ⟨_, _, rfl, .inl (SqT.mono b1.sto.sub (.inl (.inl a))), rest (rpa_keys F1 _)⟩
  | _ => cases hi
theorem pf_lsts {fl : List Bool} {es : List Ex} {es' : List Expr} (h : PA X es' (tEd X.K ad XR Wi W C fl es)) : PE X (.List es' pos) (tE X.K ad XR Wi W C (.lsts fl es)) := by
  refine (pe_lst h).imp fun σ H Q h => ?_
  obtain ⟨s, L, m, F, hs, hm, h⟩ := h
  simp only [ev] at h
  refine (tEd_bind hs hm h).mono fun xs H1 ⟨ds, m1, F1, b1, r⟩ => ?_
  have hh := b1.hold
  split at hh
  · rename_i hz
    exact ⟨by rw [r.len]; exact le_of_sz hz, (hh.fin b1.sto).lst b1.sto.sub r⟩
  · exact hh.elim
theorem pf_tups {fl : List Bool} {es : List Ex} {es' : List Expr} {k : Nat} (h : PA X es' (tEd X.K ad XR Wi W C fl es)) : PE X (.Tuple es' k pos) (tE X.K ad XR Wi W C (.tups fl es)) := by
  refine (pe_tup h).imp fun σ H Q h => ?_
  obtain ⟨s, L, m, F, hs, hm, h⟩ := h
  simp only [ev] at h
  refine (tEd_bind hs hm h).mono fun xs H1 ⟨ds, m1, F1, b1, r⟩ => ?_
  have hh := b1.hold
  split at hh
  · rename_i hz
    exact ⟨by rw [r.len]; exact le_of_sz hz, (hh.fin b1.sto).tup b1.sto.sub r⟩
  · exact hh.elim
theorem pf_ktp0 {k : Nat} : PE X (.Tuple [] k pos) (tE X.K ad XR Wi W C (.cst (.ktp []))) := by
  refine (pe_tup pa_nil).imp fun σ H Q h => ?_
  obtain ⟨s, L, m, F, hs, hm, h⟩ := h
  simp only [ev] at h
  exact ⟨Nat.zero_le _, fun p hp => (h.fin hm) _ _ _ (.new hm.sub hp) (.ktp (k := []) upd_same)⟩
theorem pf_pop {i : Nat} {x : Str} {p1 ap cp : Pos} (hx : PE X (.Name x p1) (tVar i)) (hl : (ap.endLine == cp.line) = true) : PE X (.Call (.Attribute (.Name x p1) "pop" ap) [] [] cp) (tE X.K ad XR Wi W C (.pop i)) := by
  refine (pe_bm0 PySem.F.plainAttrs_list PySem.F.slot_list_pop PySem.F.type_list_pop (mt_pop) hx rfl hl).imp fun σ H Q h => ?_
  obtain ⟨s, L, m, F, hs, hm, h⟩ := h
  simp only [ev] at h
  split at h
  case h_2 => exact h.elim
  case h_1 n e =>
  obtain ⟨x, e1, p, e2, rfl⟩ := hs.at_ i _ e
  refine ⟨_, e1, ?_⟩
  split at h
  case h_2 => exact h.elim
  case h_1 xs em =>
  split at h
  case h_2 => exact h.elim
  case h_1 d ed =>
  obtain ⟨p', vs, q1, q2, q3, q4⟩ := hm.lstAt n xs em
  rw [e2] at q1; cases q1
  refine ⟨.inl ⟨rfl, vs, SqL.of q3⟩, ?_⟩
  obtain ⟨v, h1, h2⟩ := q4.get ed
  have cr : CellR X.K ad F (.lst xs.dropLast) (.lst vs.dropLast) := .lst (by rw [List.dropLast_eq_take, List.dropLast_eq_take, q4.len]; exact q4.take _)
  exact ⟨p, vs, v, rfl, rfl, q3, by rw [q4.len]; exact h1, h F _ v (upd_extE (live_lst em) e2 cr) (upd_sto hm (live_lst em) e2 cr) h2⟩
theorem pf_dget {k' e' : Expr} {x : Str} {p ap cp : Pos} (hu : X.A.units + 64 < cLine) (hl : (ap.endLine == cp.line) = true) (s1 : starB k' = false) (s2 : starB e' = false) (ha : PE X (.Name x p) (tE X.K ad XR Wi W C a)) (hb : PE X k' (tE X.K ad XR Wi W C b)) (hc : PE X e' (tE X.K ad XR Wi W C c)) :
    PE X (.Call (.Attribute (.Name x p) "get" ap) [k', e'] [] cp) (tE X.K ad XR Wi W C (.dget a b c)) := by
  have t2 : starEach [k', e'] X.env = [(false, eval k' X.env), (false, eval e' X.env)] := by rw [star_each s1, star_each s2]; rfl
  refine (pe_dget2 (by omega) ha hb hc ⟨rfl, by rw [t2]; rfl, hl, by rw [t2]; rfl⟩).imp fun σ H Q h => ?_
  obtain ⟨s, L, m, F, hs, hm, h⟩ := h
  simp only [ev] at h
  refine (tE_bind hs hm h).mono fun x H1 ⟨v, m1, F1, b1, r1⟩ => ?_
  have hh := b1.hold
  split at hh
  case isFalse => exact hh.elim
  case isTrue hd =>
  have is : ∃ a, x = .ref a ∧ IsD H1 a := by
    unfold isDic at hd
    split at hd
    · rename_i ks ds e
      cases r1.lk b1.sto e with
      | dK g1 g2 g3 => exact ⟨_, rfl, .inl ⟨_, g1⟩⟩
    · rename_i ks ds e
      cases r1.lk b1.sto e with
      | dT g1 g2 g3 => exact ⟨_, rfl, .inr ⟨_, g1⟩⟩
    · cases hd
  obtain ⟨a0, rfl, isd⟩ := is
  refine ⟨a0, rfl, isd, ?_⟩
  refine (tE_bind (hs.mono b1.ext.sub) b1.sto hh).mono fun y H2 ⟨u, m2, F2, b2, r2⟩ => ?_
  refine (tE_bind ((hs.mono b1.ext.sub).mono b2.ext.sub) b2.sto b2.hold).mono fun z H3 ⟨w, m3, F3, b3, r3⟩ => ?_
  have hk := b3.hold
  cases hd1 : look m3 v with
  | none => rw [hd1] at hk; exact hk.elim
  | some d =>
  rw [hd1] at hk
  cases u with
  | loc _ => exact hk.elim
  | fns _ => exact hk.elim
  | dat g =>
  cases w with
  | loc _ => exact hk.elim
  | fns _ => exact hk.elim
  | dat f =>
  dsimp only at hk
  have l1 := ((r1.mono b2.ext.sub).mono b3.ext.sub).lk b3.sto hd1
  have l2 := (r2.mono b3.ext.sub).lk b3.sto (d := g) rfl
  cases q : dgetD d g with
  | none => rw [q] at hk; exact hk.elim
  | some o =>
    rw [q] at hk
    obtain ⟨a1, r', z1, z2, z3, z4⟩ := dget_of b3.sto.sub l1 l2 q
    cases z1
    refine ⟨r', z2, ?_⟩
    cases o with
    | none =>
      rw [z4 rfl]
      exact (hk.fin b3.sto).same b3.sto.sub r3
    | some d' =>
      obtain ⟨v', rfl, rr⟩ := z3 d' rfl
      exact (hk.fin b3.sto).same b3.sto.sub rr
theorem pf_ktr {e' : Expr} {p1 p2 p3 : Pos} (hc : X.calm = true) (hg : Gl X "tuple") (hm : X.mg "tuple" = none) (hg2 : Gl X "range") (hm2 : X.mg "range" = none) (hs : starB e' = false) (he : PE X e' (tE X.K ad XR Wi W C e)) :
    PE X (.Call (.Name "tuple" p1) [.Call (.Name "range" p2) [e'] [] p3] [] pos) (tE X.K ad XR Wi W C (.ktr e)) := by
  refine (pe_tupRg hc hg hm (prg_1 hg2 hm2 he (star_each hs _ _))).imp fun σ H Q h => ?_
  obtain ⟨s, L, m, F, hs, hm, h⟩ := h
  simp only [ev] at h
  refine (tE_bind hs hm h).mono fun x H1 ⟨v, m1, F1, b1, r1⟩ => ?_
  have hh := b1.hold
  split at hh
  case h_2 => exact hh.elim
  case h_1 j =>
  split at hh
  case isFalse => exact hh.elim
  case isTrue hj =>
  simp only [Bool.and_eq_true, decide_eq_true_eq] at hj
  cases r1
  refine ⟨j, rfl, ⟨by omega, by omega, by omega, by omega, by omega⟩, fun q hq => ?_⟩
  have e : rgV 0 j = ((List.range j.toNat).map fun (i : Nat) => (Sum.inl (i : Int) : Key)).map kV := by
    unfold rgV
    rw [Int.sub_zero, List.map_map]
    refine List.map_congr_left fun i _ => ?_
    show V.int (0 + (i : Int)) = V.int (i : Int)
    rw [Int.zero_add]
  rw [e]
  exact (hh.fin b1.sto) _ _ _ (.new b1.sto.sub hq) (.ktp upd_same)
theorem pf_bin {op : Operator} (ha : PE X a' (tE X.K ad XR Wi W C a)) (hb : PE X b' (tE X.K ad XR Wi W C b)) : PE X (.BinOp a' op b' pos) (tE X.K ad XR Wi W C (.bin op a b)) := by
  refine (pe_op (op_bin (ad := ad) op) ha hb).imp fun σ H Q h => ?_
  obtain ⟨s, L, m, F, hs, hm, h⟩ := h
  simp only [ev] at h
  refine (tE_bind hs hm h).mono fun x H1 ⟨v, m1, F1, b1, r1⟩ => ?_
  refine (tE_bind (hs.mono b1.ext.sub) b1.sto b1.hold).mono fun y H2 ⟨u, m2, F2, b2, r2⟩ => ?_
  have hh := b2.hold
  split at hh
  · rename_i d e hd he
    rw [ofO_ok] at hh
    split at hh
    · rename_i r hr
      exact ⟨F2, d, e, r, b2.sto.sub, (r1.mono b2.ext.sub).lk b2.sto hd, r2.lk b2.sto he, hr, hh.fin b2.sto⟩
    · exact hh.elim
  · exact hh.elim
theorem pf_neg (ha : PE X a' (tE X.K ad XR Wi W C a)) : PE X (.UnaryOp .USub a' pos) (tE X.K ad XR Wi W C (.neg a)) := by
  refine (pe_un un_neg ha).imp fun σ H Q h => ?_
  obtain ⟨s, L, m, F, hs, hm, h⟩ := h
  simp only [ev] at h
  refine (tE_bind hs hm h).mono fun x H1 ⟨v, m1, F1, b1, r1⟩ => ?_
  have hh := b1.hold
  split at hh
  · cases r1
    exact ⟨_, rfl, (hh.fin b1.sto).int b1.sto.sub⟩
  · exact hh.elim
theorem pf_nt (ha : PE X a' (tE X.K ad XR Wi W C a)) : PE X (.UnaryOp .Not a' pos) (tE X.K ad XR Wi W C (.nt a)) := by
  refine (pe_not ha).imp fun σ H Q h => ?_
  obtain ⟨s, L, m, F, hs, hm, h⟩ := h
  simp only [ev] at h
  refine (tE_bind hs hm h).mono fun x H1 ⟨v, m1, F1, b1, r1⟩ => ?_
  have hh := b1.hold
  split at hh
  · cases r1
    exact ⟨_, rfl, (hh.fin b1.sto).bl b1.sto.sub⟩
  · exact hh.elim
theorem cmp_read {op : CmpOp} {Q : VK} (h : tE K ad XR Wi W C (.cmp op a b) σ H Q) : tOp (rCmp K ad op) (tE K ad XR Wi W C a) (tE K ad XR Wi W C b) σ H Q := by
  obtain ⟨s, L, m, F, hs, hm, h⟩ := h
  simp only [ev] at h
  refine (tE_bind hs hm h).mono fun x H1 ⟨v, m1, F1, b1, r1⟩ => ?_
  refine (tE_bind (hs.mono b1.ext.sub) b1.sto b1.hold).mono fun y H2 ⟨u, m2, F2, b2, r2⟩ => ?_
  have hh := b2.hold
  split at hh
  · rename_i d e hd he
    rw [ofO_ok] at hh
    split at hh
    · rename_i r hr
      exact ⟨F2, d, e, r, b2.sto.sub, (r1.mono b2.ext.sub).lk b2.sto hd, r2.lk b2.sto he, hr, (hh.fin b2.sto).bl b2.sto.sub⟩
    · exact hh.elim
  · exact hh.elim
theorem pf_cmp {op : CmpOp} (S : XO ad n X N sc Wi lv) (hi : behindInMarks op b' = false) (ha : PE X a' (tE X.K ad XR Wi W C a)) (hb : PE X b' (tE X.K ad XR Wi W C b)) : PE X (.Compare a' [op] [b'] pos) (tE X.K ad XR Wi W C (.cmp op a b)) :=
  (pe_cmpR (op_cmp (ad := ad) op S.room.u64) ha hb hi).imp fun _ _ _ h => cmp_read h
theorem chain_read {op op' : CmpOp} {Q : VK} (h : tE K ad XR Wi W C (.chain op op' a b c) σ H Q) : tChain (rCmp K ad op) (rCmp K ad op') (tE K ad XR Wi W C a) (tE K ad XR Wi W C b) (tE K ad XR Wi W C c) σ H Q := by
  obtain ⟨s, L, m, F, hs, hm, h⟩ := h
  simp only [ev] at h
  refine (tE_bind hs hm h).mono fun x H1 ⟨v, m1, F1, b1, r1⟩ => ?_
  refine (tE_bind (hs.mono b1.ext.sub) b1.sto b1.hold).mono fun y H2 ⟨u, m2, F2, b2, r2⟩ => ?_
  have hh := b2.hold
  cases v with
  | loc k => exact hh.elim
  | fns _ => exact hh.elim
  | dat d =>
  cases u with
  | loc k => exact hh.elim
  | fns _ => exact hh.elim
  | dat e =>
    dsimp only at hh
    rw [ofO_ok] at hh
    split at hh
    · rename_i r hr
      refine ⟨F2, d, e, r, b2.sto.sub, (r1.mono b2.ext.sub).lk b2.sto rfl, r2.lk b2.sto rfl, hr, r, rfl, ?_⟩
      cases r with
      | false =>
        rw [if_neg Bool.false_ne_true] at hh ⊢
        exact (hh.fin b2.sto).bl b2.sto.sub
      | true =>
        rw [if_pos rfl] at hh ⊢
        refine (tE_bind ((hs.mono b1.ext.sub).mono b2.ext.sub) b2.sto hh).mono fun z H3 ⟨t, m3, F3, b3, r3⟩ => ?_
        have hk := b3.hold
        cases t with
        | loc k => exact hk.elim
        | fns _ => exact hk.elim
        | dat g =>
          dsimp only at hk
          rw [ofO_ok] at hk
          split at hk
          · rename_i r' hr'
            exact ⟨F3, e, g, r', b3.sto.sub, (r2.mono b3.ext.sub).lk b3.sto rfl, r3.lk b3.sto rfl, hr', (hk.fin b3.sto).bl b3.sto.sub⟩
          · exact hk.elim
    · exact hh.elim
theorem marks2 {op op' : CmpOp} (h : inB op' = false) : lastMarks [op, op'] [b', c'] = false := by
  show behindInMarks op' c' = false
  exact nomarkB h c'
theorem pf_chain {op op' : CmpOp} (S : XO ad n X N sc Wi lv) (hi' : inB op' = false) (ha : PE X a' (tE X.K ad XR Wi W C a)) (hb : PE X b' (tE X.K ad XR Wi W C b)) (hc : PE X c' (tE X.K ad XR Wi W C c)) : PE X (.Compare a' [op, op'] [b', c'] pos) (tE X.K ad XR Wi W C (.chain op op' a b c)) :=
  (pe_chain (op_cmp (ad := ad) op S.room.u64) (op_cmp (ad := ad) op' S.room.u64) ha hb hc (marks2 hi')).imp fun _ _ _ h => chain_read h
theorem pf_one {op : BoolOp} (ha : PE X a' (tE X.K ad XR Wi W C a)) : PE X (.BoolOp op [a'] pos) (tE X.K ad XR Wi W C a) := pe_one ha
theorem pf_and {es : List Ex} {es' : List Expr} (ha : PE X a' (tE X.K ad XR Wi W C a)) (hb : PE X (.BoolOp .And (b' :: es') pos) (tE X.K ad XR Wi W C (.andl (b :: es)))) : PE X (.BoolOp .And (a' :: b' :: es') pos) (tE X.K ad XR Wi W C (.andl (a :: b :: es))) := by
  refine (pe_and ha hb).imp fun σ H Q h => ?_
  obtain ⟨s, L, m, F, hs, hm, h⟩ := h
  simp only [ev, evAnd] at h
  refine (tE_bind hs hm h).mono fun x H1 ⟨v, m1, F1, b1, r1⟩ => ?_
  have hh := b1.hold
  split at hh
  · cases r1
    exact ⟨true, rfl, iteT ⟨s, L, m1, F1, hs.mono b1.ext.sub, b1.sto, hh⟩⟩
  · cases r1
    exact ⟨false, rfl, iteF ((hh.fin b1.sto).bl b1.sto.sub)⟩
  · exact hh.elim
theorem pf_or {es : List Ex} {es' : List Expr} (ha : PE X a' (tE X.K ad XR Wi W C a)) (hb : PE X (.BoolOp .Or (b' :: es') pos) (tE X.K ad XR Wi W C (.orl (b :: es)))) : PE X (.BoolOp .Or (a' :: b' :: es') pos) (tE X.K ad XR Wi W C (.orl (a :: b :: es))) := by
  refine (pe_or ha hb).imp fun σ H Q h => ?_
  obtain ⟨s, L, m, F, hs, hm, h⟩ := h
  simp only [ev, evOr] at h
  refine (tE_bind hs hm h).mono fun x H1 ⟨v, m1, F1, b1, r1⟩ => ?_
  have hh := b1.hold
  split at hh
  · cases r1
    exact ⟨false, rfl, iteF ⟨s, L, m1, F1, hs.mono b1.ext.sub, b1.sto, hh⟩⟩
  · cases r1
    exact ⟨true, rfl, iteT ((hh.fin b1.sto).bl b1.sto.sub)⟩
  · exact hh.elim
theorem pf_ite (hc : PT X c' (tT X.K ad XR Wi W C t0)) (ha : PE X a' (tE X.K ad XR Wi W C a)) (hb : PE X b' (tE X.K ad XR Wi W C b)) : PE X (.IfExp c' a' b' pos) (tE X.K ad XR Wi W C (.ite t0 a b)) := by
  refine (pe_ifExp hc ha hb).imp fun σ H Q h => ?_
  obtain ⟨s, L, m, F, hs, hm, h⟩ := h
  simp only [ev] at h
  refine (tT_bind hs hm h).mono fun x H1 ⟨v, m1, F1, b1, r1⟩ => ?_
  have hh := b1.hold
  subst r1
  cases v with
  | true => exact iteT ⟨s, L, m1, F1, hs.mono b1.ext.sub, b1.sto, hh⟩
  | false => exact iteF ⟨s, L, m1, F1, hs.mono b1.ext.sub, b1.sto, hh⟩
theorem pf_sub (hu : X.A.units + 64 < cLine) (ha : PE X a' (tE X.K ad XR Wi W C a)) (hb : PE X b' (tE X.K ad XR Wi W C b)) (hsl : sliceB b' = false) : PE X (.Subscript a' b' pos) (tE X.K ad XR Wi W C (.sub a b)) := by
  refine (pe_ix (ix_d (ad := ad) hu) ha hb (slice_ix hsl)).imp fun σ H Q h => ?_
  obtain ⟨s, L, m, F, hs, hm, h⟩ := h
  simp only [ev] at h
  refine (tE_bind hs hm h).mono fun x H1 ⟨v, m1, F1, b1, r1⟩ => ?_
  refine (tE_bind (hs.mono b1.ext.sub) b1.sto b1.hold).mono fun y H2 ⟨u, m2, F2, b2, r2⟩ => ?_
  have hh := b2.hold
  split at hh
  · rename_i d e hd
    rw [ofO_ok] at hh
    split at hh
    · rename_i r hr
      exact ⟨F2, d, e, r, b2.sto.sub, (r1.mono b2.ext.sub).lk b2.sto hd, r2.lk b2.sto rfl, hr, hh.fin b2.sto⟩
    · exact hh.elim
  · exact hh.elim
theorem pf_rev {k : Nat} {p1 p2 p3 : Pos} (ha : PE X a' (tE X.K ad XR Wi W C a)) : PE X (.Subscript a' (.Slice none none (some (.UnaryOp .USub (.Constant (.int 1) k p1) p2)) p3) pos) (tE X.K ad XR Wi W C (.rev a)) := by
  refine (pe_revA ha).imp fun σ H Q h => ?_
  obtain ⟨s, L, m, F, hs, hm, h⟩ := h
  simp only [ev] at h
  refine (tE_bind hs hm h).mono fun x H1 ⟨v, m1, F1, b1, r1⟩ => ?_
  have hh := b1.hold
  split at hh
  · rename_i d hd
    rw [ofO_ok] at hh
    split at hh
    · rename_i r hr
      unfold revD at hr
      split at hr
      · cases hr
        have l := r1.lk b1.sto hd
        cases l with
        | lst a b => exact .inl ⟨_, _, rfl, SqL.of a, (hh.fin b1.sto).lst b1.sto.sub b.rev⟩
      · cases hr
        have l := r1.lk b1.sto hd
        cases l with
        | tup a b => exact .inr ⟨_, _, rfl, SqT.mono b1.sto.sub a, (hh.fin b1.sto).tup b1.sto.sub b.rev⟩
      · cases hr
    · exact hh.elim
  · exact hh.elim
theorem pf_call {k : Nat} {x : Str} {es : List Ex} {es' : List Expr} {p : Pos} (G : GO X.K ad XR W C X.prog X.w X.mg X.base n lv) (S : XO ad n X N sc Wi lv) (hk : n.fnm[k]? = some x) (hg : Gl X x) (ho : okNm x = true)
    (ha : PA X es' (tEs X.K ad XR Wi W C es)) (hst : es'.all (fun e => !starB e) = true) (hes : es' = [] → es = []) : PE X (.Call (.Name x p) es' [] pos) (tE X.K ad XR Wi W C (.call k es)) := by
  refine ⟨fun pins s₀ σ H Q I h => ?_⟩
  obtain ⟨h1, h2⟩ := G.fn k x hk
  refine wpAny_Call_Name_kw (ld_glob I hg h1 ?_ (okNm_of ho).1)
  have run : ∀ (us : List Value) (s1 : Shared) (vs : List V) (H1 : Hp), L2.Inv X pins σ H1 s1 → Vals vs us → (∃ (a : List Vl) (m1 : Sto) (F1 : Hp) (L : List Addr), StoR X.K ad L m1 F1 H1 ∧ VlRs X.K ad L F1 a vs ∧ Hold X.K ad XR Wi (relR X.K ad L H1) (C k a m1) L m1 F1 H1 Q) →
      wpAny (model X.prog X.w) X.A (call (.ref (ad k)) us) (EP X pins σ Q) X.xe s1 := by
    intro us s1 vs H1 I1 rv ⟨a, m1, F1, L, st, r1, hh⟩
    refine wpAny_call (codeAny_mono (G.run k x hk X.A X.stack s1 H1 us vs Q Wi L m1 F1 a S.room S.grd I1.env0 rv st r1 hh) fun r s' hq => ?_)
    cases r with
    | error e => exact passes_call S.tk (E := Wi) (fun _ _ _ _ q => q) pins σ H1 s1 e s' I1 hq
    | ok fl =>
      cases fl with
      | ret u => exact I1.after hq
      | next => exact False.elim hq
      | brk => exact False.elim hq
      | cont => exact False.elim hq
  obtain ⟨s, L, m, F, hs, hm, h⟩ := h
  simp only [ev] at h
  have cv : ∀ (vs : List Vl) (m1 : Sto) (F1 H1 : Hp), StoR X.K ad L m1 F1 H1 → Hold X.K ad XR Wi (relV X.K ad L) ((C k vs m1).bind fun r m => match r with | .vl v => .ok v m | .new xs => .ok (.dat (.lst xs)) m) L m1 F1 H1 Q → Hold X.K ad XR Wi (relR X.K ad L H1) (C k vs m1) L m1 F1 H1 Q := by
    intro vs m1 F1 H1 st hh
    cases hC : C k vs m1 with
    | ok r m2 =>
      rw [hC] at hh
      intro F' H' x ex st' rel
      cases r with
      | vl v => exact hh F' H' x ex st' rel
      | new xs =>
        obtain ⟨p, vs, rfl, e1, e2, e3, e4⟩ := rel
        exact hh (upd F' p (.lst vs)) H' _ (ex.frz e2 e1 e3) (st'.frz (ex.notOwn st e2) e1 e3) (.lst upd_same (e4.mono (sub_upd e1)))
    | exc x m2 => rw [hC] at hh; exact hh
    | bad => rw [hC] at hh; exact hh
  cases es' with
  | nil =>
    have e0 := hes rfl
    subst e0
    have hh : Hold X.K ad XR Wi (relV X.K ad L) ((C k [] m).bind fun r m => match r with | .vl v => .ok v m | .new xs => .ok (.dat (.lst xs)) m) L m F H Q := h
    exact PySem.W.callWith_K0 I.kIn h2 (run [] s₀ [] H I .nil ⟨[], m, F, L, hm, .nil, cv [] m F H hm hh⟩)
  | cons e1 es1 =>
    rw [List.all_cons, Bool.and_eq_true, Bool.not_eq_true'] at hst
    refine PySem.W.callWith_K (h₀ := X.base) I.ok.mod.kin h2 (thn (ha.run pos pins s₀ σ H (fun vs H1 => ∃ (a : List Vl) (m1 : Sto) (F1 : Hp) (L : List Addr), StoR X.K ad L m1 F1 H1 ∧ VlRs X.K ad L F1 a vs ∧ Hold X.K ad XR Wi (relR X.K ad L H1) (C k a m1) L m1 F1 H1 Q) I ?_)
      fun us s1 ⟨vs, H1, I1, rv, q⟩ => ⟨I1.kIn, run us s1 vs H1 I1 rv q⟩) (star_each hst.1 _ _) (star_any hst.2 _ _)
    refine (tEs_bind hs hm h).mono fun xs H1 ⟨vs, m1, F1, b1, r1⟩ => ?_
    exact ⟨vs, m1, F1, L, b1.sto, r1, cv vs m1 F1 H1 b1.sto b1.hold⟩
/-! ### tests -/
theorem pt_plain (ha : PE X a' (tE X.K ad XR Wi W C a)) (hp : plainT a' = true) : PT X a' (tT X.K ad XR Wi W C (.val a)) := by
  refine ⟨fun pins s₀ σ H Q I h => ?_⟩
  obtain ⟨s, L, m, F, hs, hm, h⟩ := h
  simp only [evT] at h
  refine isTrue_plain (thn (ha.run pins s₀ σ H _ I (tE_bind hs hm h)) fun v s1 ⟨x, H1, I1, r1, u, m1, F1, b1, r2⟩ => ?_) (plainT_of hp X.env _)
  have hh := b1.hold
  split at hh
  · rename_i b hb
    obtain ⟨d, h1, h2⟩ := Option.bind_eq_some_iff.mp hb
    exact tru_d (ad := ad) pins s1 σ H1 x v Q I1 r1 ⟨F1, d, b, b1.sto.sub, r2.lk b1.sto h1, h2, hh.now b1.sto (.refl b1.sto.sub) rfl⟩
  · exact hh.elim
theorem truOne {e : Ex} {Q : Bool → Hp → Prop} (h : tT K ad XR Wi W C (.val e) σ H Q) : tE K ad XR Wi W C e σ H fun x H1 => ∃ (u : Vl) (m1 : Sto) (F1 : Hp) (L : List Addr), StoR K ad L m1 F1 H1 ∧ VlR K ad L F1 u x ∧ Hold K ad XR Wi relB (match (look m1 u).bind truD with | some b => .ok b m1 | none => .bad) L m1 F1 H1 Q := by
  obtain ⟨s, L, m, F, hs, hm, h⟩ := h
  simp only [evT] at h
  exact (tE_bind hs hm h).mono fun x H1 ⟨u, m1, F1, b1, r2⟩ => ⟨u, m1, F1, L, b1.sto, r2, b1.hold⟩
theorem bool_end {b : Bool} {u : Vl} {m1 : Sto} {F1 H1 : Hp} {Q : Bool → Hp → Prop} (st : StoR K ad L m1 F1 H1) (r : VlR K ad L F1 u (.bl b)) (h : Hold K ad XR Wi relB (match (look m1 u).bind truD with | some b => .ok b m1 | none => .bad) L m1 F1 H1 Q) : Q b H1 := by
  cases u with
  | dat d =>
    cases r
    exact h.now st (.refl st.sub) rfl
  | loc n =>
    obtain ⟨a, _, e⟩ := r
    cases e
  | fns _ => exact r.elim
theorem pt_cmpD {op : CmpOp} (S : XO ad n X N sc Wi lv) (hi : behindInMarks op b' = false) (ha : PE X a' (tE X.K ad XR Wi W C a)) (hb : PE X b' (tE X.K ad XR Wi W C b)) : PT X (.Compare a' [op] [b'] pos) (tT X.K ad XR Wi W C (.cmp op a b)) := by
  refine (pt_cmpR (op_cmp (ad := ad) op S.room.u64) ha hb hi).imp fun σ H Q h => ?_
  obtain ⟨s, L, m, F, hs, hm, h⟩ := h
  simp only [evT] at h
  refine (tE_bind hs hm h).mono fun x H1 ⟨v, m1, F1, b1, r1⟩ => ?_
  refine (tE_bind (hs.mono b1.ext.sub) b1.sto b1.hold).mono fun y H2 ⟨u, m2, F2, b2, r2⟩ => ?_
  have hh := b2.hold
  split at hh
  · rename_i d e hd he
    cases hr : cmpD op d e with
    | none => rw [hr] at hh; exact hh.elim
    | some r =>
      rw [hr] at hh
      exact ⟨F2, d, e, r, b2.sto.sub, (r1.mono b2.ext.sub).lk b2.sto hd, r2.lk b2.sto he, hr, r, rfl, Hold.now (a := r) hh b2.sto (.refl b2.sto.sub) rfl⟩
  · exact hh.elim
theorem bind_assoc {α β γ : Type} (r : R α) (f : α → Sto → R β) (g : β → Sto → R γ) : (r.bind f).bind g = r.bind fun a m => (f a m).bind g := by
  cases r <;> rfl
theorem pt_chainD {op op' : CmpOp} (S : XO ad n X N sc Wi lv) (hi' : inB op' = false) (ha : PE X a' (tE X.K ad XR Wi W C a)) (hb : PE X b' (tE X.K ad XR Wi W C b)) (hc : PE X c' (tE X.K ad XR Wi W C c)) :
    PT X (.Compare a' [op, op'] [b', c'] pos) (tT X.K ad XR Wi W C (.chain op op' a b c)) := by
  refine (pt_chain (op_cmp (ad := ad) op S.room.u64) (op_cmp (ad := ad) op' S.room.u64) ha hb hc (marks2 hi')).imp fun σ H Q h => ?_
  obtain ⟨s, L, m, F, hs, hm, h⟩ := h
  simp only [evT] at h
  refine (tE_bind hs hm h).mono fun x H1 ⟨v, m1, F1, b1, r1⟩ => ?_
  refine (tE_bind (hs.mono b1.ext.sub) b1.sto b1.hold).mono fun y H2 ⟨u, m2, F2, b2, r2⟩ => ?_
  have hh := b2.hold
  cases v with
  | loc k => exact hh.elim
  | fns _ => exact hh.elim
  | dat d =>
  cases u with
  | loc k => exact hh.elim
  | fns _ => exact hh.elim
  | dat e =>
    dsimp only at hh
    rw [ofO_ok] at hh
    split at hh
    · rename_i r hr
      refine ⟨F2, d, e, r, b2.sto.sub, (r1.mono b2.ext.sub).lk b2.sto rfl, r2.lk b2.sto rfl, hr, r, rfl, ?_⟩
      cases r with
      | false =>
        rw [if_neg Bool.false_ne_true]
        rw [if_neg Bool.false_ne_true] at hh
        exact ⟨false, rfl, hh.now (a := false) b2.sto (.refl b2.sto.sub) rfl⟩
      | true =>
        rw [if_pos rfl] at hh ⊢
        refine (tE_bind ((hs.mono b1.ext.sub).mono b2.ext.sub) b2.sto hh).mono fun z H3 ⟨t, m3, F3, b3, r3⟩ => ?_
        have hk := b3.hold
        cases t with
        | loc k => exact hk.elim
        | fns _ => exact hk.elim
        | dat g =>
          dsimp only at hk
          cases hr' : cmpD op' e g with
          | none => rw [hr'] at hk; exact hk.elim
          | some r' =>
            rw [hr'] at hk
            exact ⟨F3, e, g, r', b3.sto.sub, (r2.mono b3.ext.sub).lk b3.sto rfl, r3.lk b3.sto rfl, hr', r', rfl, Hold.now (a := r') hk b3.sto (.refl b3.sto.sub) rfl⟩
    · exact hh.elim
theorem pt_notD (ha : PT X a' (tT X.K ad XR Wi W C t0)) : PT X (.UnaryOp .Not a' pos) (tT X.K ad XR Wi W C (.nt t0)) := by
  refine (pt_not ha).imp fun σ H Q h => ?_
  obtain ⟨s, L, m, F, hs, hm, h⟩ := h
  simp only [evT] at h
  refine (tT_bind hs hm h).mono fun x H1 ⟨v, m1, F1, b1, r1⟩ => ?_
  subst r1
  exact b1.hold.now b1.sto (.refl b1.sto.sub) rfl
theorem pw_oneAnd (ha : PT X a' (tT X.K ad XR Wi W C t0)) : PW X (.BoolOp .And [a'] pos) (tT X.K ad XR Wi W C (.andl [t0])) := (pw_and1 ha).imp fun σ H Q ⟨s, L, m, F, hs, hm, h⟩ => ⟨s, L, m, F, hs, hm, h⟩
theorem pw_oneOr (ha : PT X a' (tT X.K ad XR Wi W C t0)) : PW X (.BoolOp .Or [a'] pos) (tT X.K ad XR Wi W C (.orl [t0])) := (pw_or1 ha).imp fun σ H Q ⟨s, L, m, F, hs, hm, h⟩ => ⟨s, L, m, F, hs, hm, h⟩
theorem pw_moreAnd {ts : List Tx} {es' : List Expr} (ha : PT X a' (tT X.K ad XR Wi W C t0)) (hb : PW X (.BoolOp .And (b' :: es') pos) (tT X.K ad XR Wi W C (.andl (t1 :: ts)))) : PW X (.BoolOp .And (a' :: b' :: es') pos) (tT X.K ad XR Wi W C (.andl (t0 :: t1 :: ts))) := by
  refine (pw_and ha hb).imp fun σ H Q h => ?_
  obtain ⟨s, L, m, F, hs, hm, h⟩ := h
  simp only [evT, evTAnd] at h
  refine (tT_bind hs hm h).mono fun x H1 ⟨v, m1, F1, b1, r1⟩ => ?_
  subst r1
  have hh := b1.hold
  cases v with
  | true => exact iteT ⟨s, L, m1, F1, hs.mono b1.ext.sub, b1.sto, hh⟩
  | false => exact iteF (hh.now (a := false) b1.sto (.refl b1.sto.sub) rfl)
theorem pw_moreOr {ts : List Tx} {es' : List Expr} (ha : PT X a' (tT X.K ad XR Wi W C t0)) (hb : PW X (.BoolOp .Or (b' :: es') pos) (tT X.K ad XR Wi W C (.orl (t1 :: ts)))) : PW X (.BoolOp .Or (a' :: b' :: es') pos) (tT X.K ad XR Wi W C (.orl (t0 :: t1 :: ts))) := by
  refine (pw_or ha hb).imp fun σ H Q h => ?_
  obtain ⟨s, L, m, F, hs, hm, h⟩ := h
  simp only [evT, evTOr] at h
  refine (tT_bind hs hm h).mono fun x H1 ⟨v, m1, F1, b1, r1⟩ => ?_
  subst r1
  have hh := b1.hold
  cases v with
  | true => exact iteT (hh.now (a := true) b1.sto (.refl b1.sto.sub) rfl)
  | false => exact iteF ⟨s, L, m1, F1, hs.mono b1.ext.sub, b1.sto, hh⟩
end
end EV

set_option Elab.async false
set_option linter.all false
set_option maxRecDepth 100000
set_option maxHeartbeats 4000000
/-! EV, part G: slices, built-ins, targets, what is walked, comprehensions. -/
namespace EV
open PySem PySem.Spec PyProof.Rows L2
section
variable {K : PySem.W.Frag} {ad : Adr} {XR : Xc → Value → Option Addr → Hp → Hp → Prop} {Wi : Wz} {W : Wd} {C : Cal} {σ : L2.St} {H : Hp} {s : Slots} {L : List Addr} {m : Sto} {F : Hp}
variable {X : Cx} {N : List Str} {sc : Scope} {lv : Nat} {n : Wn} {pos p2 : Pos} {e a b c : Ex} {t0 t1 : Tx} {a' b' c' : Expr}
/-! ### slices -/
theorem slc_end {v : Vl} {x : V} {lo hi : Option Int} {Q : VK} (hm : StoR K ad L m F H) (r : VlR K ad L F v x)
    (h : Hold K ad XR Wi (relV K ad L) (match look m v with | some d => (R.ofO (slcD d lo hi) m).bind fun r m => R.ok (Vl.dat r) m | none => R.bad) L m F H Q) : rSlc K ad x lo hi H Q := by
  split at h
  · rename_i d hd
    rw [ofO_ok] at h
    split at h
    · rename_i r' hr
      exact ⟨F, d, r', hm.sub, r.lk hm hd, hr, h.fin hm⟩
    · exact h.elim
  · exact h.elim
theorem pf_slc2 {lo hi : Ex} {lo' hi' : Expr} (ha : PE X a' (tE X.K ad XR Wi W C a)) (hl : PE X lo' (tE X.K ad XR Wi W C lo)) (hh : PE X hi' (tE X.K ad XR Wi W C hi)) :
    PE X (.Subscript a' (.Slice (some lo') (some hi') none p2) pos) (tE X.K ad XR Wi W C (.slc .both a [lo, hi])) := by
  refine (pe_slice (sl_d (ad := ad)) ha (po_some hl) (po_some hh)).imp fun σ H Q h => ?_
  obtain ⟨s, L, m, F, hs, hm, h⟩ := h
  simp only [ev] at h
  refine (tE_bind hs hm h).mono fun x H1 ⟨v, m1, F1, b1, r1⟩ => ?_
  have hs1 := hs.mono b1.ext.sub
  refine (tE_bind hs1 b1.sto b1.hold).mono fun y H2 ⟨u, m2, F2, b2, r2⟩ => ?_
  have hs2 := hs1.mono b2.ext.sub
  have hk := b2.hold
  split at hk
  · cases r2
    refine ⟨_, rfl, ?_⟩
    refine (tE_bind hs2 b2.sto hk).mono fun z H3 ⟨w, m3, F3, b3, r3⟩ => ?_
    have hj := b3.hold
    split at hj
    · cases r3
      exact ⟨_, rfl, slc_end b3.sto ((r1.mono b2.ext.sub).mono b3.ext.sub) hj⟩
    · exact hj.elim
  · exact hk.elim
theorem pf_slcL {lo : Ex} {lo' : Expr} (ha : PE X a' (tE X.K ad XR Wi W C a)) (hl : PE X lo' (tE X.K ad XR Wi W C lo)) :
    PE X (.Subscript a' (.Slice (some lo') none none p2) pos) (tE X.K ad XR Wi W C (.slc .lo a [lo])) := by
  refine (pe_slice (sl_d (ad := ad)) ha (po_some hl) po_none).imp fun σ H Q h => ?_
  obtain ⟨s, L, m, F, hs, hm, h⟩ := h
  simp only [ev] at h
  refine (tE_bind hs hm h).mono fun x H1 ⟨v, m1, F1, b1, r1⟩ => ?_
  have hs1 := hs.mono b1.ext.sub
  refine (tE_bind hs1 b1.sto b1.hold).mono fun y H2 ⟨u, m2, F2, b2, r2⟩ => ?_
  have hk := b2.hold
  split at hk
  · cases r2
    exact ⟨_, rfl, slc_end b2.sto (r1.mono b2.ext.sub) hk⟩
  · exact hk.elim
theorem pf_slcH {hi : Ex} {hi' : Expr} (ha : PE X a' (tE X.K ad XR Wi W C a)) (hl : PE X hi' (tE X.K ad XR Wi W C hi)) :
    PE X (.Subscript a' (.Slice none (some hi') none p2) pos) (tE X.K ad XR Wi W C (.slc .hi a [hi])) := by
  refine (pe_slice (sl_d (ad := ad)) ha po_none (po_some hl)).imp fun σ H Q h => ?_
  obtain ⟨s, L, m, F, hs, hm, h⟩ := h
  simp only [ev] at h
  refine (tE_bind hs hm h).mono fun x H1 ⟨v, m1, F1, b1, r1⟩ => ?_
  have hs1 := hs.mono b1.ext.sub
  refine (tE_bind hs1 b1.sto b1.hold).mono fun y H2 ⟨u, m2, F2, b2, r2⟩ => ?_
  have hk := b2.hold
  split at hk
  · cases r2
    exact ⟨_, rfl, slc_end b2.sto (r1.mono b2.ext.sub) hk⟩
  · exact hk.elim
theorem pf_slc0 (ha : PE X a' (tE X.K ad XR Wi W C a)) : PE X (.Subscript a' (.Slice none none none p2) pos) (tE X.K ad XR Wi W C (.slc .no a [])) := by
  refine (pe_slice (sl_d (ad := ad)) ha po_none po_none).imp fun σ H Q h => ?_
  obtain ⟨s, L, m, F, hs, hm, h⟩ := h
  simp only [ev] at h
  refine (tE_bind hs hm h).mono fun x H1 ⟨v, m1, F1, b1, r1⟩ => ?_
  exact slc_end b1.sto r1 b1.hold
/-! ### built-ins -/
theorem blt_read {bt : Bt} {es : List Ex} {Q : VK} (h : tE K ad XR Wi W C (.blt bt es) σ H Q) : tEs K ad XR Wi W C es σ H fun vs H1 => rBlt K ad bt vs H1 Q := by
  obtain ⟨s, L, m, F, hs, hm, h⟩ := h
  simp only [ev] at h
  refine (tEs_bind hs hm h).mono fun xs H1 ⟨vs, m1, F1, b1, r1⟩ => ?_
  have hh := b1.hold
  split at hh
  · rename_i ds e
    rw [ofO_ok] at hh
    split at hh
    · rename_i r hr
      exact ⟨F1, ds, r, b1.sto.sub, looks_ok b1.sto e r1, hr, hh.fin b1.sto⟩
    · exact hh.elim
  · exact hh.elim
theorem pf_blt {bt : Bt} {x : Str} {es : List Ex} {e1' : Expr} {es' : List Expr} {p : Pos} (S : XO ad n X N sc Wi lv) (hx : btNm bt = x) (hm : X.mg x = none) (hg : Gl X x) (ha : PA X (e1' :: es') (tEs X.K ad XR Wi W C es)) (hst : (e1' :: es').all (fun e => !starB e) = true) :
    PE X (.Call (.Name x p) (e1' :: es') [] pos) (tE X.K ad XR Wi W C (.blt bt es)) := by
  subst hx
  rw [List.all_cons, Bool.and_eq_true, Bool.not_eq_true'] at hst
  obtain ⟨h1, _, h3⟩ := okNm_of (bt_ok bt)
  have hc := blt_ok (ad := ad) S.calm S.grd S.room.u64 bt
  have hv := bt_boot bt
  have hE := star_each hst.1 es' X.env
  have hA := star_any hst.2 pos X.env
  have : PE X (.Call (.Name (btNm bt) p) (e1' :: es') [] pos) (tCB (rBlt X.K ad bt) (tEs X.K ad XR Wi W C es)) := by
    cases bt <;> first | exact pe_callB hc hg hm hv ha h3 h1 hE hA | exact pe_callTy hc hg hm hv ha h3 h1 hE hA
  exact this.imp fun σ H Q h => blt_read h
theorem isi_read {t : String} {Q : VK} (h : tE K ad XR Wi W C (.isi a t) σ H Q) : tCons (tE K ad XR Wi W C a) (tCons (tC (.ty t)) tNil) σ H fun vs H1 => rIsiD K ad t vs H1 Q := by
  obtain ⟨s, L, m, F, hs, hm, h⟩ := h
  simp only [ev] at h
  refine (tE_bind hs hm h).mono fun x H1 ⟨v, m1, F1, b1, r1⟩ => ?_
  have hh := b1.hold
  split at hh
  · rename_i d hd
    rw [ofO_ok] at hh
    split at hh
    · rename_i r hr
      exact ⟨F1, x, d, r, rfl, b1.sto.sub, r1.lk b1.sto hd, hr, (hh.fin b1.sto).bl b1.sto.sub⟩
    · exact hh.elim
  · exact hh.elim
theorem isi_boot : bootBuiltins ("isinstance" : Str) = some (.builtin "isinstance") := by decide +kernel
theorem pf_isi {t : String} {x y : Str} {p p3 : Pos} (hx : x = ("isinstance" : Str)) (hm : X.mg x = none) (hg : Gl X x) (hty : tyNms.contains (t, y) = true) (hmy : X.mg y = none) (hgy : Gl X y) (ha : PE X a' (tE X.K ad XR Wi W C a)) (hst : starB a' = false) :
    PE X (.Call (.Name x p) [a', .Name y p3] [] pos) (tE X.K ad XR Wi W C (.isi a t)) := by
  subst hx
  obtain ⟨q1, q2⟩ := ty_boot (t, y) (by simpa using hty)
  obtain ⟨h1, _, h3⟩ := okNm_of q2
  have hy : PE X (.Name y p3) (tC (.ty t)) := pe_bltn hgy hmy q1 rfl h3 h1
  refine (pe_callB (isi_ok (ad := ad) t) hg hm isi_boot (pa_cons ha (pa_cons hy pa_nil) (star_each hst _ _)) (by decide) (by decide) (star_each hst _ _) rfl).imp fun σ H Q h => isi_read h
/-! ### targets -/
variable (K ad) in
def gD (zw : Zt) (tg : Tg) : TG := fun v σ H Q => ∃ L F d s s', SltR K ad zw L F s σ ∧ Rp K ad F v d ∧ Sub F H ∧ tgD tg d s = some s' ∧ ∀ σ', SltR K ad zw L F s' σ' → (∀ vs : List Nat, (∀ i ∈ slotsOf tg, i ∈ vs) → wipe σ' vs = wipe σ vs) → Q σ' H
variable (K ad) in
def gDs (zw : Zt) (tgs : List Tg) : TGs := fun vs σ H Q => ∃ L F ds s s', SltR K ad zw L F s σ ∧ RpA K ad F vs ds ∧ Sub F H ∧ tgDs tgs ds s = some s' ∧ ∀ σ', SltR K ad zw L F s' σ' → (∀ vs : List Nat, (∀ i ∈ slotsOfs tgs, i ∈ vs) → wipe σ' vs = wipe σ vs) → Q σ' H
theorem SltR.set {i : Nat} {v : Vl} {x : V} (h : SltR K ad Wi.z L F s σ) (hi : i < s.length) (r : VlR K ad L F v x) : SltR K ad Wi.z L F (s.set i (some v)) (σ.set i (some x)) := by
  refine ⟨by rw [List.length_set, List.length_set]; exact h.len, fun j u e => ?_⟩
  by_cases q : i = j
  · subst q
    rw [List.getElem?_set_self hi] at e
    cases e
    exact ⟨x, List.getElem?_set_self (by rw [h.len]; exact hi), r.vz⟩
  · rw [List.getElem?_set_ne q] at e ⊢
    exact h.at_ j u e
theorem _root_.L2.PG.imp {X : Cx} {e : Expr} {t t' : TG} (h : PG X e t) (i : ∀ v σ H Q, t' v σ H Q → t v σ H Q) : PG X e t' := ⟨fun pins s σ H v u Q I r hw => h.run pins s σ H v u Q I r (i v σ H Q hw)⟩
theorem _root_.L2.PGs.imp {X : Cx} {e : List Expr} {t t' : TGs} (h : PGs X e t) (i : ∀ v σ H Q, t' v σ H Q → t v σ H Q) : PGs X e t' := ⟨fun pins s σ H v u Q I r hw => h.run pins s σ H v u Q I r (i v σ H Q hw)⟩
theorem XO.gl (S : XO ad n X N sc Wi lv) {x : Str} (h : glbB sc x = true) : Gl X x := by
  show X.env.scope.names.lookup x = _
  rw [S.es]
  exact isKind_of h
theorem XO.vis (S : XO ad n X N sc Wi lv) {x : Str} (h : visB sc x = true) : Vis X.env.scope x := by rw [S.es]; exact visB_of h
/-- the names of sc may be stored where X runs -/
def StB (X : Cx) (sc : Scope) : Prop := ∀ x, locB sc x = true → Loc X.env.scope x ∧ (X.fn x = true ∨ X.env.scope.names.lookup x = some .local)
theorem wipe_at (σ : L2.St) : ∀ (vs : List Nat) (i : Nat), (wipe σ vs)[i]? = if i ∈ vs ∧ i < σ.length then some none else σ[i]?
  | [], i => by simp [wipe]
  | v :: vs, i => by
    unfold wipe
    rw [List.getElem?_set, wipe_length, wipe_at σ vs i]
    by_cases h : v = i
    · subst h
      by_cases hl : v < σ.length
      · simp [hl]
      · simp [hl]
    · have : ¬ i = v := fun e => h e.symm
      simp [h, this]
theorem wipe_idem (σ : L2.St) (vs : List Nat) : wipe (wipe σ vs) vs = wipe σ vs := by
  apply List.ext_getElem?
  intro i
  rw [wipe_at, wipe_at, wipe_length]
  split <;> simp_all
theorem wipe_set (σ : L2.St) {vs : List Nat} {i : Nat} (h : i ∈ vs) (x : Option V) : wipe (σ.set i x) vs = wipe σ vs := by
  apply List.ext_getElem?
  intro j
  rw [wipe_at, wipe_at, List.length_set, List.getElem?_set]
  by_cases q : i = j
  · subst q
    by_cases hl : i < σ.length
    · simp [h, hl]
    · simp [hl]
  · simp [q]
theorem wipeS_at (s : Slots) : ∀ (vs : List Nat) (i : Nat), (wipeS s vs)[i]? = if i ∈ vs ∧ i < s.length then some none else s[i]?
  | [], i => by simp [wipeS]
  | v :: vs, i => by
    have hl : ∀ vs : List Nat, (wipeS s vs).length = s.length := fun vs => by
      induction vs with
      | nil => rfl
      | cons _ _ ih => unfold wipeS; rw [List.length_set, ih]
    unfold wipeS
    rw [List.getElem?_set, hl, wipeS_at s vs i]
    by_cases h : v = i
    · subst h
      by_cases hl : v < s.length
      · simp [hl]
      · simp [hl]
    · have : ¬ i = v := fun e => h e.symm
      simp [h, this]
theorem wipeS_len (s : Slots) (vs : List Nat) : (wipeS s vs).length = s.length := by
  induction vs with
  | nil => rfl
  | cons _ _ ih => unfold wipeS; rw [List.length_set, ih]
theorem SltR.wipe (h : SltR K ad Wi.z L F s σ) (vs : List Nat) : SltR K ad Wi.z L F (wipeS s vs) (L2.wipe σ vs) := by
  refine ⟨by rw [wipe_length, wipeS_len, h.len], fun i v e => ?_⟩
  rw [wipeS_at] at e
  split at e
  · cases e
  · rename_i q
    rw [wipe_at, if_neg (by rw [h.len]; exact q)]
    exact h.at_ i v e
theorem XO.at_ (S : XO ad n X N sc Wi lv) {i : Nat} {x : Str} (h : atB N i x = true) : X.N[i]? = some x := by rw [S.nm]; exact of_decide_eq_true h
theorem assign_plain {e : Expr} (h : starB e = false) (es : List Expr) (env : Env) : assignEach (e :: es) env = (false, assign e env) :: assignEach es env := by
  cases e <;> first | rfl | cases h
theorem matTg_star {t : Tg} {e : Expr} (h : matTg N sc t e = true) : starB e = false := by
  cases e <;> first | rfl | (cases t <;> simp [matTg] at h)
theorem matTgs_each : ∀ {ts : List Tg} {es : List Expr}, matTgs N sc ts es = true → ∀ env, (assignEach es env).length = ts.length ∧ (assignEach es env).findIdx? (·.1) = none
  | [], [], _, _ => ⟨rfl, rfl⟩
  | [], _ :: _, h, _ => by simp [matTgs] at h
  | _ :: _, [], h, _ => by simp [matTgs] at h
  | t :: ts, e :: es, h, env => by
    simp only [matTgs, Bool.and_eq_true] at h
    rw [assign_plain (matTg_star h.1)]
    obtain ⟨h1, h2⟩ := matTgs_each h.2 env
    refine ⟨by simp [h1], ?_⟩
    rw [List.findIdx?_cons]
    simp [h2]
theorem tgDs_len : ∀ {ts : List Tg} {ds : List D} {s s' : Slots}, tgDs ts ds s = some s' → ds.length = ts.length
  | [], [], _, _, _ => rfl
  | [], _ :: _, _, _, h => by simp [tgDs] at h
  | _ :: _, [], _, _, h => by simp [tgDs] at h
  | t :: ts, d :: ds, s, s', h => by
    simp only [tgDs] at h
    obtain ⟨s1, _, h2⟩ := Option.bind_eq_some_iff.mp h
    simp [tgDs_len h2]
mutual
theorem pg_d {sc0 : Scope} (S : XO ad n X N sc Wi lv) (B : StB X sc0) : ∀ (t : Tg) (e : Expr), matTg N sc0 t e = true → PG X e (gD X.K ad Wi.z t)
  | .nm i, .Name x p, h => by
    simp only [matTg, Bool.and_eq_true] at h
    obtain ⟨l1, l2⟩ := B _ h.2
    refine (pg_name (by rw [S.nm]; exact S.nd) (S.at_ h.1) l1 l2).imp fun v σ H Q ⟨L, F, d, s, s', hs, r, sub, e, q⟩ => ?_
    simp only [tgD] at e
    split at e
    · rename_i hi
      cases e
      exact q _ (hs.set hi r) fun vs hv => wipe_set σ (hv i (by simp [slotsOf])) _
    · cases e
  | .tp ts, .Tuple es k p, h => by
    simp only [matTg] at h
    obtain ⟨h1, h2⟩ := matTgs_each h X.env
    refine ⟨fun pins s σ H v u Q I r hw => ?_⟩
    obtain ⟨L, F, d, s0, s', hs, rd, sub, e, q⟩ := hw
    cases d with
    | tup xs =>
      simp only [tgD] at e
      cases rd with
      | tup a b => exact (pg_tup S.calm (pgs_d S B ts es h) h1 h2).run pins s σ H _ u Q I r ⟨_, _, rfl, SqT.mono sub a, by rw [b.len]; exact tgDs_len e, L, F, xs, s0, s', hs, b, sub, e, fun σ' h1 h2 => q σ' h1 fun vs hv => h2 vs (by simpa [slotsOf] using hv)⟩
    | lst xs =>
      simp only [tgD] at e
      cases rd with
      | lst a b => exact (pg_unl S.calm (pgs_d S B ts es h) h1 h2).run pins s σ H _ u Q I r ⟨_, _, rfl, SqL.of (sub _ _ a), by rw [b.len]; exact tgDs_len e, L, F, xs, s0, s', hs, b, sub, e, fun σ' h1 h2 => q σ' h1 fun vs hv => h2 vs (by simpa [slotsOf] using hv)⟩
    | _ => simp [tgD] at e
  | .nm i, .Tuple _ _ _, h => by simp [matTg] at h
  | .nm i, .BoolOp _ _ _, h => by simp [matTg] at h
  | .nm i, .NamedExpr _ _ _, h => by simp [matTg] at h
  | .nm i, .BinOp _ _ _ _, h => by simp [matTg] at h
  | .nm i, .UnaryOp _ _ _, h => by simp [matTg] at h
  | .nm i, .Lambda _ _ _ _, h => by simp [matTg] at h
  | .nm i, .IfExp _ _ _ _, h => by simp [matTg] at h
  | .nm i, .Dict _ _ _, h => by simp [matTg] at h
  | .nm i, .Set _ _ _, h => by simp [matTg] at h
  | .nm i, .ListComp _ _ _ _, h => by simp [matTg] at h
  | .nm i, .SetComp _ _ _ _, h => by simp [matTg] at h
  | .nm i, .DictComp _ _ _ _ _, h => by simp [matTg] at h
  | .nm i, .GeneratorExp _ _ _ _, h => by simp [matTg] at h
  | .nm i, .Await _ _, h => by simp [matTg] at h
  | .nm i, .Yield _ _, h => by simp [matTg] at h
  | .nm i, .YieldFrom _ _, h => by simp [matTg] at h
  | .nm i, .Compare _ _ _ _, h => by simp [matTg] at h
  | .nm i, .Call _ _ _ _, h => by simp [matTg] at h
  | .nm i, .FormattedValue _ _ _ _, h => by simp [matTg] at h
  | .nm i, .JoinedStr _ _, h => by simp [matTg] at h
  | .nm i, .Constant _ _ _, h => by simp [matTg] at h
  | .nm i, .Attribute _ _ _, h => by simp [matTg] at h
  | .nm i, .Subscript _ _ _, h => by simp [matTg] at h
  | .nm i, .Starred _ _, h => by simp [matTg] at h
  | .nm i, .List _ _, h => by simp [matTg] at h
  | .nm i, .Slice _ _ _ _, h => by simp [matTg] at h
  | .tp ts, .Name _ _, h => by simp [matTg] at h
  | .tp ts, .BoolOp _ _ _, h => by simp [matTg] at h
  | .tp ts, .NamedExpr _ _ _, h => by simp [matTg] at h
  | .tp ts, .BinOp _ _ _ _, h => by simp [matTg] at h
  | .tp ts, .UnaryOp _ _ _, h => by simp [matTg] at h
  | .tp ts, .Lambda _ _ _ _, h => by simp [matTg] at h
  | .tp ts, .IfExp _ _ _ _, h => by simp [matTg] at h
  | .tp ts, .Dict _ _ _, h => by simp [matTg] at h
  | .tp ts, .Set _ _ _, h => by simp [matTg] at h
  | .tp ts, .ListComp _ _ _ _, h => by simp [matTg] at h
  | .tp ts, .SetComp _ _ _ _, h => by simp [matTg] at h
  | .tp ts, .DictComp _ _ _ _ _, h => by simp [matTg] at h
  | .tp ts, .GeneratorExp _ _ _ _, h => by simp [matTg] at h
  | .tp ts, .Await _ _, h => by simp [matTg] at h
  | .tp ts, .Yield _ _, h => by simp [matTg] at h
  | .tp ts, .YieldFrom _ _, h => by simp [matTg] at h
  | .tp ts, .Compare _ _ _ _, h => by simp [matTg] at h
  | .tp ts, .Call _ _ _ _, h => by simp [matTg] at h
  | .tp ts, .FormattedValue _ _ _ _, h => by simp [matTg] at h
  | .tp ts, .JoinedStr _ _, h => by simp [matTg] at h
  | .tp ts, .Constant _ _ _, h => by simp [matTg] at h
  | .tp ts, .Attribute _ _ _, h => by simp [matTg] at h
  | .tp ts, .Subscript _ _ _, h => by simp [matTg] at h
  | .tp ts, .Starred _ _, h => by simp [matTg] at h
  | .tp ts, .List _ _, h => by simp [matTg] at h
  | .tp ts, .Slice _ _ _ _, h => by simp [matTg] at h
theorem pgs_d {sc0 : Scope} (S : XO ad n X N sc Wi lv) (B : StB X sc0) : ∀ (ts : List Tg) (es : List Expr), matTgs N sc0 ts es = true → PGs X es (gDs X.K ad Wi.z ts)
  | [], [], h => pgs_nil.imp fun v σ H Q ⟨L, F, ds, s, s', hs, r, sub, e, q⟩ => by
    have hl := tgDs_len e
    cases ds with
    | cons => simp at hl
    | nil =>
      cases r
      simp only [tgDs] at e
      cases e
      exact ⟨rfl, q _ hs fun _ _ => rfl⟩
  | t :: ts, e :: es, h => by
    simp only [matTgs, Bool.and_eq_true] at h
    refine (pgs_cons (pg_d S B t e h.1) (pgs_d S B ts es h.2) (by rw [assign_plain (matTg_star h.1)]; rfl)).imp fun v σ H Q ⟨L, F, ds, s, s', hs, r, sub, e, q⟩ => ?_
    cases ds with
    | nil => simp [tgDs] at e
    | cons d ds =>
      cases r with
      | cons r1 r2 =>
        simp only [tgDs] at e
        obtain ⟨s1, e1, e2⟩ := Option.bind_eq_some_iff.mp e
        exact ⟨_, _, rfl, L, F, d, s, s1, hs, r1, sub, e1, fun σ' hs' w1 => ⟨L, F, ds, s1, s', hs', r2, sub, e2, fun σ2 hs2 w2 => q σ2 hs2 fun vs hv => by
          rw [w2 vs fun i hi => hv i (by simp [slotsOfs, hi]), w1 vs fun i hi => hv i (by simp [slotsOfs, hi])]⟩⟩
  | [], _ :: _, h => by simp [matTgs] at h
  | _ :: _, [], h => by simp [matTgs] at h
end
end
end EV

set_option Elab.async false
set_option linter.all false
set_option maxRecDepth 100000
set_option maxHeartbeats 4000000
/-! EV, part 0: dicts with tuples as keys: d.items() walked, a display of one entry. -/
namespace L2
open PySem PySem.Spec PyProof.Rows
section
variable {X : Cx} {pins : List (Addr × Obj)} {σ : St} {H : Hp} {s : Shared} {d : Addr} {o : Obj}
theorem Inv.frzT2 {kvs : List (List Key × V)} (I : Inv X pins σ H s) (h : H d = some (.frz o (.dT kvs))) :
    (d == sysModules) = false ∧ s.heap.get? d = some o ∧ o.ExactDict ∧ ∃ (es : Array DictEntry) (ep : Nat), o.data = .dict es ep ∧ es.size = kvs.length ∧
      ∀ (i : Nat) (k : List Key) (v : V), kvs[i]? = some (k, v) → ∃ (en : DictEntry) (q : Addr), es[i]? = some en ∧ en.key = .ref q ∧ H q = some (.tup (k.map kV)) ∧ RelV v en.val := by
  obtain ⟨hd, z, hs, xs, pr, o', es, ep, ho, hx, hdt, he, _⟩ := I.hok d _ h
  rw [hd] at ho
  cases ho
  refine ⟨hs, hd, hx, es, ep, hdt, ?_, fun i k v e => ?_⟩
  · have l1 : es.size = xs.length := size_of_entries he
    have l2 : kvs.length = xs.length := Paired.length pr
    omega
  · obtain ⟨b, hb, e1, e2, e3⟩ := paired_get pr e
    have q := entry_at he i
    rw [hb] at q
    exact ⟨_, b.2.1, q, rfl, e2, e3⟩
end
/-- the pairs of a dict with tuples as keys, each a new tuple -/
def Itit (d : Addr) (o : Obj) (kvs : List (List Key × V)) : It :=
  ⟨fun i H => H d = some (.frz o (.dT kvs)) ∧ i < kvs.length, fun i H x H' => ∃ T k v q, kvs[i]? = some (k, v) ∧ H q = some (.tup (k.map kV)) ∧ x = .ref T ∧ H T = none ∧ H' = upd H T (.tup [.ref q, v]), fun i H => H d = some (.frz o (.dT kvs)) ∧ kvs.length ≤ i⟩
section
variable {P : Program} {w : World} {K : PySem.W.Frag} {tg : Expr} {d : Addr} {o : Obj} {es : Array DictEntry} {ep : Nat}
theorem turn_itemsT {kvs : List (List Key × V)} {elts : List Expr} {kk : Nat} {tpos : Pos} (it : Addr) (hod : o.data = .dict es ep) :
    Turn P w K (.Tuple elts kk tpos) (Itit d o kvs) [it] it (fun i h => ∃ ok ov, IsItemIter h it d i kvs.length ep ok ov) where
  mem := by simp
  obj := fun i h st b hb => by
    have e : b = it := by simpa using hb
    subst e
    obtain ⟨ok, ov, e⟩ := st
    exact ⟨_, e, fun v z => nomatch z⟩
  keep := fun i h h' st k => let ⟨ok, ov, e⟩ := st; ⟨ok, ov, k it (by simp) _ e⟩
  item := by
    intro X hP hw hK hc i pins s σ H E I hf st hg
    subst hP hw hK
    obtain ⟨hd, hi⟩ := hg
    obtain ⟨hs, hgd, hx, es', ep', hdt, hsz, ent⟩ := I.frzT2 hd
    obtain ⟨rfl, rfl⟩ := dict_ep hod hdt
    obtain ⟨⟨k, v⟩, hkv⟩ : ∃ p, kvs[i]? = some p := ⟨kvs[i], List.getElem?_eq_getElem hi⟩
    obtain ⟨en, q, hen, hkey, hq, ru⟩ := ent i k v hkv
    obtain ⟨ok, ov, he⟩ := st
    rw [← hsz] at he
    have hlt : it < s.heap.objs.size := Heap.lt_size he
    have hi' : i < es'.size := by omega
    have hen' : es'[i] = en := by rw [Array.getElem?_eq_getElem hi'] at hen; exact Option.some.inj hen
    refine wpAny_pyNext_items_item_raw he ⟨o, hgd, hx, hdt⟩ hi' fun h' ho hT hz hk => ?_
    rw [hen', hkey] at ho hT
    refine ⟨_, rfl, wpAny_letOwnedTupleGo_items (s := { s with heap := h' }) ho fun h'' he' sb => ?_⟩
    have hT2 : h''.get? s.heap.objs.size = some { cls := .type "tuple", data := .seq #[.ref q, en.val] } := (sb.2 _ (Nat.ne_of_gt hlt)).trans hT
    have new : ObjOk X.prog X.w (upd H s.heap.objs.size (.tup [.ref q, v])) h'' s.heap.objs.size (.tup [.ref q, v]) :=
      ⟨by show 2 ≤ sizeLine; decide, [.ref q, en.val], .cons rfl (.cons ru .nil), ⟨_, hT2, rfl, _, rfl⟩⟩
    have I1 : Inv X pins σ (upd H s.heap.objs.size (.tup [.ref q, v])) { s with heap := h'' } :=
      I.turnedNew (t' := s.toks) (ch := [it]) (fun b ob hb e => (sb.2 b (by simpa using hb)).trans (hk b ob (by simpa using hb) e)) hf (Nat.le_refl _) new
    refine ⟨.ref s.heap.objs.size, _, I1, rfl, ⟨_, k, v, q, hkv, hq, rfl, I.hok.fresh (Nat.le_refl _), rfl⟩, ⟨.ref q, en.val, ?_⟩, fun b hb => ?_⟩
    · rw [← hsz]; exact he'
    · have e : b = it := by simpa using hb
      rw [e, upd_ne (Nat.ne_of_lt hlt)]
      exact (hf it (by simp)).1
  done := by
    intro X hP hw hK hc i pins s σ H E I hf st hg
    subst hP hw hK
    obtain ⟨hd, hi⟩ := hg
    obtain ⟨f0, f1, f2, f3, f4, f5⟩ := hf it (by simp)
    obtain ⟨hs, hgd, hx, es', ep', hdt, hsz, ent⟩ := I.frzT2 hd
    obtain ⟨rfl, rfl⟩ := dict_ep hod hdt
    obtain ⟨ok, ov, he⟩ := st
    rw [← hsz] at he
    exact wpAny_pyNext_items_end_raw (I.ok.hd hc) he ⟨o, hgd, hx, hdt⟩ (by omega) fun h' eb => ⟨rfl, I.turned (t' := s.toks) (fun b ob hb e => eb b ob hb e) f0 f1 f3 f4 f5⟩
  self := fun A i s Q E st h => let ⟨_, _, e⟩ := st; PySem.W.kcp_self e h
end
def iItemsT (td : TE) : TI := fun σ H R => td σ H fun x H1 => ∃ d o kvs, x = .ref d ∧ H1 d = some (.frz o (.dT kvs)) ∧ R (Itit d o kvs) H1
/-- d.items(), either way -/
def iItemsA (td : TE) : TI := fun σ H R => td σ H fun x H1 => ∃ d o, x = .ref d ∧ ((∃ kvs, H1 d = some (.frz o (.dK kvs)) ∧ R (Iti d o kvs) H1) ∨ ∃ kvs, H1 d = some (.frz o (.dT kvs)) ∧ R (Itit d o kvs) H1)
section
variable {X : Cx} {tg e : Expr} {td : TE} {apos cpos : Pos}
theorem pi_itemsA {elts : List Expr} {kk : Nat} {tpos : Pos} (he : PE X e td) (hbase : attributeBase e "items" X.env (eval e X.env) = eval e X.env := by rfl) (hline : (apos.endLine == cpos.line) = true := by rfl) :
    PI X (.Tuple elts kk tpos) (.Call (.Attribute e "items" apos) [] [] cpos) (iItemsA td) := by
  refine ⟨fun pins s σ H R I h => ?_⟩
  refine wpAny_Call_method (T := "dict") (id := "dict.items") hbase rfl hline F.plainAttrs_dict F.slot_dict_items F.type_dict_items (thn (he.run pins s σ H _ I h) fun u s1 ⟨x, H1, I1, rx, d, o, ex, q⟩ => ?_)
  subst ex
  obtain rfl : u = Value.ref d := rx
  rcases q with ⟨kvs, hd, q⟩ | ⟨kvs, hd, q⟩
  · obtain ⟨hs, hgd, hx, es, ep, vs, hdt, hsz, kv, hm⟩ := I1.frzK hd
    have hl : kvs.length = vs.length := Paired.length kv
    refine ⟨hm.dictOf.typeIs, hm.dictOf.mapOf.noDict, ?_⟩
    have I2 : Inv X pins σ H1 { s1 with heap := s1.heap.push { cls := .type "dict_items", data := .fields #[.ref d] } } := I1.kept (t' := s1.toks) fun b ob q => Heap.get?_push_of_some _ q
    have fin : wpAny (model X.prog X.w) X.A (pyIter (.ref s1.heap.objs.size)) (PIE X pins σ (.Tuple elts kk tpos) R) X.xe { s1 with heap := s1.heap.push { cls := .type "dict_items", data := .fields #[.ref d] } } := by
      refine wpAny_pyIter_items (d := d) (knd := mixKind X.prog X.w) ⟨_, Heap.get?_push_size _ rfl, rfl, rfl⟩ (hm.push _) (pi_one (tk := s1.toks) I2 _ (turn_items _ hdt) ⟨.none, .none, ?_⟩ q)
      rw [hl]
      exact Heap.get?_push_size _ rfl
    show wpAny _ _ (callWith cpos (.builtin "dict.items") [.ref d] [] []) _ X.xe s1
    exact method_meetsIn F.slot_dict_items F.entry_dict_items rfl (PySem.evalArgs_none ⟨rfl, hm.dictOf.typeIs, F.args_dict_items_1 _, _, meets_dict_items (mixKind X.prog X.w) d hs, ⟨vs, hm.dictOf⟩, fin⟩)
  · obtain ⟨hs, hgd, hx, es, ep, hdt, hsz, ent⟩ := I1.frzT2 hd
    have hm : s1.heap.DictRaw d es ep := ⟨o, hgd, hx, hdt⟩
    refine ⟨hm.typeIs, fun b z => by cases z; exact ⟨o, hgd, hx.2.1⟩, ?_⟩
    have I2 : Inv X pins σ H1 { s1 with heap := s1.heap.push { cls := .type "dict_items", data := .fields #[.ref d] } } := I1.kept (t' := s1.toks) fun b ob q => Heap.get?_push_of_some _ q
    have fin : wpAny (model X.prog X.w) X.A (pyIter (.ref s1.heap.objs.size)) (PIE X pins σ (.Tuple elts kk tpos) R) X.xe { s1 with heap := s1.heap.push { cls := .type "dict_items", data := .fields #[.ref d] } } := by
      refine wpAny_pyIter_items_raw (d := d) (es := es) (ep := ep) ⟨_, Heap.get?_push_size _ rfl, rfl, rfl⟩ (hm.at fun _ q => Heap.get?_push_of_some _ q) (pi_one (tk := s1.toks) I2 _ (turn_itemsT _ hdt) ⟨.none, .none, ?_⟩ q)
      rw [← hsz]
      exact Heap.get?_push_size _ rfl
    show wpAny _ _ (callWith cpos (.builtin "dict.items") [.ref d] [] []) _ X.xe s1
    exact method_meetsIn F.slot_dict_items F.entry_dict_items rfl (PySem.evalArgs_none ⟨rfl, hm.typeIs, F.args_dict_items_1 _, _, meets_dict_items_raw d hs, ⟨es, ep, hm⟩, fin⟩)
/-- {k: v}, k a tuple -/
def tDisT1 (tk tv : TE) : TE := fun σ H Q => ∀ p, H p = none → tk σ (upd H p (.dT [])) fun x H1 => tv σ H1 fun y H2 => ∃ (k : List Key) (b : Addr), x = .ref b ∧ H2 b = some (.tup (k.map kV)) ∧ H2 p = some (.dT []) ∧ Q (.ref p) (upd H2 p (.dT [(k, y)]))
theorem pe_disT1 {k v : Expr} {tk tv : TE} {pos : Pos} (hu : X.A.units + 1 < cLine) (hk : PE X k tk) (hv : PE X v tv) : PE X (.Dict [some k] [v] pos) (tDisT1 tk tv) := by
  refine ⟨fun pins s σ H Q I q => ?_⟩
  have hn := I.hok.fresh (Nat.le_refl s.heap.objs.size)
  have I1 := I.laid (a := s.heap.objs.size) (o := .dT []) (h' := s.heap.push { cls := .type "dict", data := .dict #[] }) (t' := s.toks) (fun _ _ q => Heap.get?_push_of_some _ q) (Nat.le_refl _) (dt_empty s.heap I.big)
  have run := ((pps_cons (pos := pos) hk hv pps_nil).run pins _ σ _ (fun ps H2 => match ps with | [(x, y)] => ∃ (k : List Key) (b : Addr), x = .ref b ∧ H2 b = some (.tup (k.map kV)) ∧ H2 s.heap.objs.size = some (.dT []) ∧ Q (.ref s.heap.objs.size) (upd H2 s.heap.objs.size (.dT [(k, y)])) | _ => False) I1 (q _ hn))
  have hlen : (pairTrees [some k] [v] X.env pos).length ≤ 15 := by show 1 ≤ 15; decide
  have hshape : (evalEachOpt [some k] X.env).zip ((evalEach [v] X.env).map fun v => do let x ← v; standAt pos; pure x) = (pairTrees [some k] [v] X.env pos).map fun p => (some p.1, p.2) := rfl
  rw [arm_eval_Dict, hshape, dictDisplay_pairs _ (by intro z; cases z) (by omega)]
  refine wpAny_bind (wpAny_standAt (wpAny_bind (wpAny_subDictH (knd := tupleKind (mixKind X.prog X.w)) (Nat.lt_of_succ_lt hu) hlen (thn run fun ws s2 ⟨ps, H2, I2, rel, q3⟩ => ?_))))
  match ps, rel, q3 with
  | [(x, y)], rel, ⟨k0, b, ex, hb, he, q2⟩ =>
  subst ex
  obtain ⟨z, hd, xs, kt, dd⟩ := dt_of I2.hok he
  cases kt
  cases rel with
  | @cons _ w0 _ _ r1 r2 =>
  cases r2
  obtain ⟨r1, r3⟩ := r1
  obtain ⟨w1, w2⟩ := w0
  cases (show w1 = Value.ref b from r1)
  refine ⟨[(k0, b, w2)], ⟨rfl, rfl, key_of I2.hok hb, True.intro⟩, dd, fun h' tk dd' hs => wpAny_pure ⟨.ref s.heap.objs.size, _, ?_, rfl, q2⟩⟩
  have hz : ([(k0, y)] : List (List Key × V)).length ≤ sizeLine := by rw [sizeLine_eq]; show 1 ≤ _; decide
  have he' : ∃ q, h'.get? s.heap.objs.size = some q := let ⟨q, _, _, hq, _⟩ := dd'; ⟨q, hq⟩
  obtain ⟨o1, es1, ep1, g1, g2, g3, g4, g5, g6⟩ := dd'
  have nb : s.heap.objs.size ≠ b := fun e => by rw [← e, he] at hb; cases hb
  exact d_write I2 (by rw [he]; exact True.intro) hs he' ⟨hz, hd, [(k0, b, w2)], .cons ⟨rfl, (by show upd H2 s.heap.objs.size _ b = _; rw [upd_ne (Ne.symm nb)]; exact hb), r3⟩ .nil, o1, es1, ep1, g1, g2, g3, g4, g6⟩
end
end L2

set_option Elab.async false
set_option linter.all false
set_option maxRecDepth 100000
set_option maxHeartbeats 4000000
/-! EV, part H: what is walked; comprehensions; all expressions. -/
namespace EV
open PySem PySem.Spec PyProof.Rows L2
set_option maxHeartbeats 1000000 in
theorem meets_enumerate_newB1 {v : Value} {o : Obj} {H : Heap → Prop} (B : Begins v o H) :
    Meets (Builtin.«enumerate.__new__» ⟨[.type "enumerate", v], []⟩) (fun _ R s => H s.heap ∧
      R (.ok (.ret (.ref (s.heap.push o).objs.size))) { s with heap := (s.heap.push o).push { cls := .type "enumerate", data := .fields #[.none, .bool false, .ref s.heap.objs.size, rawInt 0, .none, .none] } }) :=
  .of_wp fun prog w A R s h => by
    obtain ⟨hp, g, d, tk, os⟩ := s; obtain ⟨h1, h⟩ := h
    have hsub := sub_enumerate
    have q1 : ∀ {A' : Around} {E : Value → Shared → Prop} {Q : Value → Shared → Prop}, Q (.ref hp.objs.size) ⟨hp.push o, g, d, tk, os⟩ → wpAny (model prog w) A' (pyIter v) Q E ⟨hp, g, d, tk, os⟩ :=
      fun q => B.iter prog w _ _ ⟨hp, g, d, tk, os⟩ _ h1 q
    wp_walk using q1
    refine wpAny_stack_any fun st => wpAny_pure ?_
    split
    · rename_i c _ _ _ _ _
      cases (c == Value.type "enumerate")
      · wp_walk using q1
        exact ⟨_, rfl, h⟩
      · wp_walk using q1
        exact ⟨_, rfl, h⟩
    · wp_walk using q1
      exact ⟨_, rfl, h⟩
section
variable {prog : Program} {w : World} {A : Around} {E : Value → Shared → Prop} {s : Shared}
theorem enum_begins1 {v : Value} {o : Obj} {H : Heap → Prop} {Q : Value → Shared → Prop} (B : Begins v o H) (h1 : H s.heap)
    (h : ∀ h', IsEnum h' (s.heap.objs.size + 1) s.heap.objs.size 0 .none → h'.get? s.heap.objs.size = some o → h'.objs.size = s.heap.objs.size + 2 →
      (∀ b o, s.heap.get? b = some o → h'.get? b = some o) → Q (.ref (s.heap.objs.size + 1)) { s with heap := h' }) :
    wpAny (model prog w) A (call (.type "enumerate") [v]) Q E s := by
  refine callType_new F.called_enumerate (by decide) (F.typeCall_enumerate_1 _) (F.newCall_enumerate_1 _) (fun obj => F.args_object_init_2 obj _) F.entry_enumerate_new
    (meets_enumerate_newB1 B) ⟨h1, ?_⟩
  have hz : (s.heap.push o).objs.size = s.heap.objs.size + 1 := Heap.size_push ..
  show _ ∧ _
  rw [hz]
  have he : IsEnum ((s.heap.push o).push { cls := .type "enumerate", data := .fields #[.none, .bool false, .ref s.heap.objs.size, rawInt 0, .none, .none] }) (s.heap.objs.size + 1) s.heap.objs.size 0 .none := by
    have := Heap.get?_push_size (s.heap.push o) (o := { cls := .type "enumerate", data := .fields #[.none, .bool false, .ref s.heap.objs.size, rawInt 0, .none, .none] }) rfl
    rw [hz] at this; exact this
  refine ⟨⟨_, he, rfl⟩, h _ he (Heap.get?_push_of_some _ (Heap.get?_push_size _ B.free)) (by rw [Heap.size_push, hz]) fun b o x => Heap.get?_push_of_some _ (Heap.get?_push_of_some _ x)⟩
theorem pyNext_enumT_end {e it l : Addr} {i : Nat} {items : Array Value} {old : Value} {Q : Option Value → Shared → Prop} (hh : A.handled = none)
    (he : IsEnum s.heap e it i old) (hit : s.heap.IsTupleIter it l i) (hl : s.heap.IsTuple l items) (hx : items[i]? = none)
    (hQ : ∀ h', Heap.ExtBut it s.heap h' → Q none { s with heap := h' }) : wpAny (model prog w) A (pyNext (.ref e)) Q E s := by
  have hT : s.TypeIs (.ref e) "enumerate" := ⟨_, he, rfl⟩
  unfold pyNext
  refine wpAny_bind (wpAny_attempt (wpAny_callSpecial?_slot (name := Str.ofString "__next__") hT F.slot_enumerate_next
    (wpAny_call_entry F.slot_enumerate_next hT F.entry_enumerate_next ?_ (F.args_enumerate_next_1 _))))
  show wpAny _ _ (field (.ref e) 2 >>= _) _ _ _
  refine wpAny_bind (wpAny_field he rfl (x := .ref it) rfl ?_)
  refine wpAny_bind (PySem.wpAny_nextOf_tuple_end hh hit hl hx fun h' x he' hx' => ?_)
  obtain ⟨o, ho, hc⟩ := hx'
  refine wpAny_bind (wpAny_isInstance (T := "StopIteration") (b := true) ⟨o, ho, hc⟩ isSubtype_stop ?_)
  exact wpAny_pure (hQ _ he')
end
/-! enumerate(tuple) -/
/-- the tuple at a as it stands at each turn, each item in a new pair -/
def IteT (K : PySem.W.Frag) (a : Addr) : It :=
  ⟨fun i H => ∃ (xs : List V) (x : V), SqT K H a xs ∧ xs[i]? = some x, fun i H v H' => ∃ T x, v = .ref T ∧ H T = none ∧ H' = upd H T (.tup [.int (i : Nat), x]) ∧ ∀ xs, SqT K H a xs → xs[i]? = some x, fun i H => ∃ xs : List V, SqT K H a xs ∧ xs.length ≤ i⟩
theorem turn_enumT {P : Program} {w : World} {K : PySem.W.Frag} {elts : List Expr} {kk : Nat} {tpos : Pos} (a e it : Addr) :
    Turn P w K (.Tuple elts kk tpos) (IteT K a) [e, it] e (fun i h => (∃ old, IsEnum h e it ((i : Nat) : Int) old) ∧ h.IsTupleIter it a i ∧ e ≠ it ∧ a ≠ it ∧ e ≠ a) where
  mem := by simp
  obj := fun i h st b hb => by
    obtain ⟨⟨old, he⟩, ⟨o, ho, hc, hd⟩, _⟩ := st
    have e' : b = e ∨ b = it := by simpa using hb
    rcases e' with z | z
    · rw [z]; exact ⟨_, he, fun v q => nomatch q⟩
    · rw [z]; exact ⟨o, ho, fun v q => by rw [hd] at q; cases q⟩
  keep := fun i h h' st k => let ⟨⟨old, he⟩, hi, hne⟩ := st; ⟨⟨old, k e (by simp) _ he⟩, hi.at fun o q => k it (by simp) o q, hne⟩
  item := by
    intro X hP hw hK hc i pins s σ H E I hf st hg
    subst hP hw hK
    obtain ⟨⟨old, he⟩, hit, hne, hai, hea⟩ := st
    obtain ⟨xs, x, hq, hx⟩ := hg
    obtain ⟨its, rv, p, hz⟩ := I.tuple hq
    obtain ⟨u, hu, ru⟩ := rv.get hx
    have hel : e < s.heap.objs.size := Heap.lt_size he
    have hil : it < s.heap.objs.size := by obtain ⟨_, q, _⟩ := hit; exact Heap.lt_size q
    have hli : i < its.toArray.size := by
      have := (List.getElem?_eq_some_iff.mp hu).1
      simpa using this
    refine wpAny_pyNext_enum_itemD (Draws.tuple (prog := X.prog) (w := X.w) (A := X.A.in1) (I.ok.hd hc) it a hai its.toArray) he ⟨hit, p⟩ hli hne (by simp [hne, hea]) fun u' h' tk hu' ho st' hT hsz hk => ?_
    have eu : u' = u := by
      have hu2 : its.toArray[i]? = some u := by simpa using hu
      exact Option.some.inj (hu'.symm.trans hu2)
    subst eu
    obtain ⟨hit', _⟩ := st'
    refine ⟨_, rfl, wpAny_letOwnedTupleGo_enum (s := { s with heap := h', toks := tk + 1 }) ho fun h'' he' sb => ?_⟩
    have hT2 : h''.get? s.heap.objs.size = some { cls := .type "tuple", data := .seq #[.int i tk, u'] } := (sb.2 _ (Nat.ne_of_gt hel)).trans hT
    have new : ObjOk X.prog X.w (upd H s.heap.objs.size (.tup [.int (i : Nat), x])) h'' s.heap.objs.size (.tup [.int (i : Nat), x]) :=
      ⟨by show 2 ≤ sizeLine; decide, [.int i tk, u'], .cons ⟨_, rfl⟩ (.cons ru .nil), ⟨_, hT2, rfl, _, rfl⟩⟩
    have I1 : Inv X pins σ (upd H s.heap.objs.size (.tup [.int (i : Nat), x])) { s with heap := h'', toks := tk + 1 } :=
      I.turnedNew (ch := [e, it]) (fun b ob hb q => (sb.2 b (fun z => hb (by simp [z]))).trans (hk b ob (fun z => hb (by simp [z])) (fun z => hb (by simp [z])) q)) hf (Nat.le_refl _) new
    refine ⟨.ref s.heap.objs.size, _, I1, rfl, ⟨_, x, rfl, I.hok.fresh (Nat.le_refl _), rfl, fun ys hy => by rw [I.tuple_inj hy hq]; exact hx⟩, ⟨⟨u', ?_⟩, hit'.at fun o q => (sb.2 it (Ne.symm hne)).trans q, hne, hai, hea⟩, fun b hb => ?_⟩
    · have e1 : ((i + 1 : Nat) : Int) = (i : Int) + 1 := by omega
      rw [e1]; exact he'
    · have hb' : b < s.heap.objs.size := by
        have e' : b = e ∨ b = it := by simpa using hb
        rcases e' with z | z
        · rw [z]; exact hel
        · rw [z]; exact hil
      rw [upd_ne (Nat.ne_of_lt hb')]
      exact (hf b hb).1
  done := by
    intro X hP hw hK hc i pins s σ H E I hf st hg
    subst hP hw hK
    obtain ⟨⟨old, he⟩, hit, hne, hai, hea⟩ := st
    obtain ⟨xs, hq, hx⟩ := hg
    obtain ⟨its, rv, p, hz⟩ := I.tuple hq
    obtain ⟨f0, f1, f2, f3, f4, f5⟩ := hf it (by simp)
    have hl := rv.length
    exact pyNext_enumT_end (I.ok.hd hc) he hit p (by simp; omega) fun h' eb => ⟨rfl, I.turned (t' := s.toks) (fun b o hb q => eb b o hb q) f0 f1 f3 f4 f5⟩
  self := fun A i s Q E st h => let ⟨⟨_, he⟩, _⟩ := st; wpAny_pyIter_enum he h
def iEnumA (K : PySem.W.Frag) (ta : TA) : TI := fun σ H R => ta σ H fun vs H1 => ∃ a xs, vs = [.ref a] ∧ ((SqL K H1 a xs ∧ R (Ite K a) H1) ∨ (SqT K H1 a xs ∧ R (IteT K a) H1))
theorem pi_enumA {X : Cx} {e : Expr} {ta : TA} {p pos tpos : Pos} {elts : List Expr} {kk : Nat} (hg : Gl X "enumerate") (hm : X.mg "enumerate" = none) (ha : PA X [e] ta) (hs : starEach [e] X.env = [(false, eval e X.env)] := by rfl) :
    PI X (.Tuple elts kk tpos) (.Call (.Name "enumerate" p) [e] [] pos) (iEnumA X.K ta) := by
  refine ⟨fun pins s σ H R I h => ?_⟩
  refine Call_ (ld_blt I hg hm boot_enumerate (PyProof.Rows.callWith_type1 (thn (ha.run pos pins s σ H _ I h) fun us s1 ⟨vs, H1, I1, r1, q1⟩ => ?_) hs rfl))
  obtain ⟨a, xs, ex, q1⟩ := q1
  subst ex
  cases r1 with
  | cons r rr =>
    cases rr
    cases r
    have fresh2 : ∀ b ∈ [s1.heap.objs.size + 1, s1.heap.objs.size], FpOk X pins H1 b := fun b hb => by
      have e' : b = s1.heap.objs.size + 1 ∨ b = s1.heap.objs.size := by simpa using hb
      have hle : s1.heap.objs.size ≤ b := by
        rcases e' with z | z
        · rw [z]; exact Nat.le_add_right _ _
        · rw [z]; exact Nat.le_refl _
      exact I1.fpOk hle (I1.hok.fresh hle)
    rcases q1 with ⟨hq, q⟩ | ⟨hq, q⟩
    · obtain ⟨its, rv, p', hz⟩ := I1.list hq
      refine call_enumerate_list p'.isList fun h' he hit hsz hk => wpAny_pyIter_enum he ?_
      have I2 : Inv X pins σ H1 { s1 with heap := h' } := I1.kept (t' := s1.toks) hk
      exact ⟨s1.heap.objs.size + 1, [s1.heap.objs.size + 1, s1.heap.objs.size], _, _, H1, rfl, I2, turn_enum a (s1.heap.objs.size + 1) s1.heap.objs.size, ⟨⟨.none, he⟩, hit, Nat.succ_ne_self _⟩, fresh2, q⟩
    · obtain ⟨its, rv, p', hz⟩ := I1.tuple hq
      obtain ⟨o1, ho1, _⟩ := id p'
      have hla : a < s1.heap.objs.size := Heap.lt_size ho1
      refine enum_begins1 (begins_tuple a its.toArray) (show s1.heap.IsTuple a its.toArray from p') fun h' he hit hsz hk => wpAny_pyIter_enum he ?_
      have I2 : Inv X pins σ H1 { s1 with heap := h' } := I1.kept (t' := s1.toks) hk
      exact ⟨s1.heap.objs.size + 1, [s1.heap.objs.size + 1, s1.heap.objs.size], _, _, H1, rfl, I2, turn_enumT a (s1.heap.objs.size + 1) s1.heap.objs.size, ⟨⟨.none, he⟩, ⟨_, hit, rfl, rfl⟩, Nat.succ_ne_self _, Nat.ne_of_lt hla, Nat.ne_of_gt (Nat.lt_succ_of_lt hla)⟩, fresh2, q⟩
section
variable (K : PySem.W.Frag) (ad : Adr) (XR : Xc → Value → Option Addr → Hp → Hp → Prop) (Wi : Wz) (W : Wd) (C : Cal)
/-- what J walks while F0 stands: these data -/
structure WkD (F0 : Hp) (J : It) (xs : List D) : Prop where
  goes : ∀ i H, i < xs.length → Sub F0 H → J.go i H
  stops : ∀ H, Sub F0 H → J.stop xs.length H
  yld : ∀ (i : Nat) (d : D) F H x H', xs[i]? = some d → Sub F0 F → Sub F H → J.yld i H x H' → ∃ F', Grow F H F' H' ∧ Rp K ad F' x d
def tI (ik : IK) (src : List Ex) : TI := fun σ H R => tEs K ad XR Wi W C src σ H fun vs H1 => ∃ F1 ds xs, Sub F1 H1 ∧ RpA K ad F1 vs ds ∧ walkD ik ds = some xs ∧ ∀ J, WkD K ad F1 J xs → R J H1
end
section
variable {K : PySem.W.Frag} {ad : Adr} {XR : Xc → Value → Option Addr → Hp → Hp → Prop} {Wi : Wz} {W : Wd} {C : Cal} {σ : L2.St} {H : Hp} {s : Slots} {L : List Addr} {m : Sto} {F F0 : Hp}
variable {X : Cx} {N : List Str} {sc : Scope} {lv : Nat} {n : Wn} {pos p2 : Pos} {e a b c : Ex} {t0 t1 : Tx} {a' b' c' tg' : Expr}
theorem _root_.L2.PI.imp {X : Cx} {tg e : Expr} {t t' : TI} (h : PI X tg e t) (i : ∀ σ H R, t' σ H R → t σ H R) : PI X tg e t' := ⟨fun pins s σ H R I hw => h.run pins s σ H R I (i σ H R hw)⟩
theorem wk_list {a : Addr} {vs : List V} {ds : List D} (h : F0 a = some (.lst vs)) (r : RpA K ad F0 vs ds) : WkD K ad F0 (Itl K a) ds where
  goes := fun i H hi sub => by
    obtain ⟨v, e, _⟩ := r.get (List.getElem?_eq_getElem hi)
    exact ⟨vs, v, SqL.of (sub _ _ h), e⟩
  stops := fun H sub => ⟨vs, SqL.of (sub _ _ h), by rw [r.len]; exact Nat.le_refl _⟩
  yld := fun i d F H x H' hd s1 s2 ⟨e, y⟩ => by
    subst e
    obtain ⟨v, e, rv⟩ := r.get hd
    have q := y vs (SqL.of (s2 _ _ (s1 _ _ h)))
    rw [e] at q; cases q
    exact ⟨F, .refl s2, rv.mono s1⟩
theorem wk_tup {a : Addr} {vs : List V} {ds : List D} (h : SqT K F0 a vs) (r : RpA K ad F0 vs ds) : WkD K ad F0 (Itt K a) ds where
  goes := fun i H hi sub => by
    obtain ⟨v, e, _⟩ := r.get (List.getElem?_eq_getElem hi)
    exact ⟨vs, v, SqT.mono sub h, e⟩
  stops := fun H sub => ⟨vs, SqT.mono sub h, by rw [r.len]; exact Nat.le_refl _⟩
  yld := fun i d F H x H' hd s1 s2 ⟨e, y⟩ => by
    subst e
    obtain ⟨v, e, rv⟩ := r.get hd
    have q := y vs (SqT.mono (s1.trans s2) h)
    rw [e] at q; cases q
    exact ⟨F, .refl s2, rv.mono s1⟩
theorem rngD_get {lo : Int} {k i : Nat} {d : D} (h : (rngD lo k)[i]? = some d) : d = .int (lo + (i : Nat)) := by
  unfold rngD at h
  rw [List.getElem?_map] at h
  obtain ⟨j, e, rfl⟩ := Option.map_eq_some_iff.mp h
  obtain ⟨h1, h2⟩ := List.getElem?_eq_some_iff.mp e
  simp at h2
  rw [← h2]
theorem wk_rng {lo : Int} {k : Nat} : WkD K ad F0 (Itr lo k) (rngD lo k) where
  goes := fun i H hi sub => by simpa [rngD, Itr] using hi
  stops := fun H sub => by simp [rngD, Itr]
  yld := fun i d F H x H' hd s1 s2 ⟨e, y⟩ => by
    subst e
    rw [rngD_get hd, y]
    exact ⟨F, .refl s2, .int _⟩
theorem pair_new {T : Addr} {x y : V} {d e : D} (s : Sub F H) (h : H T = none) (rx : Rp K ad F x d) (ry : Rp K ad F y e) : ∃ F', Grow F H F' (upd H T (.tup [x, y])) ∧ Rp K ad F' (.ref T) (.tup [d, e]) := by
  have g := Grow.new (o := .tup [x, y]) s h
  exact ⟨_, g, .tup (SqT.of upd_same) (.cons (rx.mono g.sub) (.cons (ry.mono g.sub) .nil))⟩
theorem zipIdx_get {ds : List D} {i : Nat} {d : D} (h : ((ds.zipIdx).map fun p => D.tup [.int (p.2 : Nat), p.1])[i]? = some d) : ∃ x, ds[i]? = some x ∧ d = .tup [.int (i : Nat), x] := by
  rw [List.getElem?_map] at h
  obtain ⟨p, e, rfl⟩ := Option.map_eq_some_iff.mp h
  rw [List.getElem?_zipIdx] at e
  obtain ⟨x, e1, rfl⟩ := Option.map_eq_some_iff.mp e
  exact ⟨x, e1, by simp⟩
theorem wk_enum {a : Addr} {vs : List V} {ds : List D} (h : F0 a = some (.lst vs)) (r : RpA K ad F0 vs ds) : WkD K ad F0 (Ite K a) ((ds.zipIdx).map fun p => D.tup [.int (p.2 : Nat), p.1]) where
  goes := fun i H hi sub => by
    have hi' : i < ds.length := by simpa using hi
    obtain ⟨v, e, _⟩ := r.get (List.getElem?_eq_getElem hi')
    exact ⟨vs, v, SqL.of (sub _ _ h), e⟩
  stops := fun H sub => ⟨vs, SqL.of (sub _ _ h), by rw [r.len]; simp⟩
  yld := fun i d F H x H' hd s1 s2 ⟨T, v, e1, e2, e3, y⟩ => by
    subst e1 e3
    obtain ⟨z, hz, rfl⟩ := zipIdx_get hd
    obtain ⟨w, e, rw'⟩ := r.get hz
    have q := y vs (SqL.of (s2 _ _ (s1 _ _ h)))
    rw [e] at q; cases q
    exact pair_new s2 e2 (.int _) (rw'.mono s1)
theorem wk_enumT {a : Addr} {vs : List V} {ds : List D} (h : SqT K F0 a vs) (r : RpA K ad F0 vs ds) : WkD K ad F0 (IteT K a) ((ds.zipIdx).map fun p => D.tup [.int (p.2 : Nat), p.1]) where
  goes := fun i H hi sub => by
    have hi' : i < ds.length := by simpa using hi
    obtain ⟨v, e, _⟩ := r.get (List.getElem?_eq_getElem hi')
    exact ⟨vs, v, SqT.mono sub h, e⟩
  stops := fun H sub => ⟨vs, SqT.mono sub h, by rw [r.len]; simp⟩
  yld := fun i d F H x H' hd s1 s2 ⟨T, v, e1, e2, e3, y⟩ => by
    subst e1 e3
    obtain ⟨z, hz, rfl⟩ := zipIdx_get hd
    obtain ⟨w, e, rw'⟩ := r.get hz
    have q := y vs (SqT.mono (s1.trans s2) h)
    rw [e] at q; cases q
    exact pair_new s2 e2 (.int _) (rw'.mono s1)
theorem zip_get {ds es : List D} {i : Nat} {d : D} (h : ((ds.zip es).map fun p => D.tup [p.1, p.2])[i]? = some d) : ∃ x y, ds[i]? = some x ∧ es[i]? = some y ∧ d = .tup [x, y] := by
  rw [List.getElem?_map] at h
  obtain ⟨p, e, rfl⟩ := Option.map_eq_some_iff.mp h
  rw [List.getElem?_zip_eq_some] at e
  exact ⟨p.1, p.2, e.1, e.2, rfl⟩
theorem wk_zipL {a b : Addr} {vs ws : List V} {ds es : List D} (h : F0 a = some (.lst vs)) (r : RpA K ad F0 vs ds) (h' : F0 b = some (.lst ws)) (r' : RpA K ad F0 ws es) : WkD K ad F0 (Itz K a b) ((ds.zip es).map fun p => D.tup [p.1, p.2]) where
  goes := fun i H hi sub => by
    have hi' : i < ds.length ∧ i < es.length := by simpa [Nat.lt_min] using hi
    obtain ⟨v, e, _⟩ := r.get (List.getElem?_eq_getElem hi'.1)
    obtain ⟨v', e', _⟩ := r'.get (List.getElem?_eq_getElem hi'.2)
    exact ⟨vs, ws, v, v', SqL.of (sub _ _ h), SqL.of (sub _ _ h'), e, e'⟩
  stops := fun H sub => ⟨vs, ws, SqL.of (sub _ _ h), SqL.of (sub _ _ h'), by rw [r.len, r'.len]; simp; omega⟩
  yld := fun i d F H x H' hd s1 s2 ⟨T, v, u, e1, e2, e3, y, y'⟩ => by
    subst e1 e3
    obtain ⟨z, z', hz, hz', rfl⟩ := zip_get hd
    obtain ⟨w, e, rw'⟩ := r.get hz
    obtain ⟨w', e', rw2⟩ := r'.get hz'
    have q := y vs (SqL.of (s2 _ _ (s1 _ _ h)))
    rw [e] at q; cases q
    have q := y' ws (SqL.of (s2 _ _ (s1 _ _ h')))
    rw [e'] at q; cases q
    exact pair_new s2 e2 (rw'.mono s1) (rw2.mono s1)
theorem wk_zipT {a b : Addr} {vs ws : List V} {ds es : List D} (h : SqT K F0 a vs) (r : RpA K ad F0 vs ds) (h' : SqT K F0 b ws) (r' : RpA K ad F0 ws es) : WkD K ad F0 (RZ.ItzT K a b) ((ds.zip es).map fun p => D.tup [p.1, p.2]) where
  goes := fun i H hi sub => by
    have hi' : i < ds.length ∧ i < es.length := by simpa [Nat.lt_min] using hi
    obtain ⟨v, e, _⟩ := r.get (List.getElem?_eq_getElem hi'.1)
    obtain ⟨v', e', _⟩ := r'.get (List.getElem?_eq_getElem hi'.2)
    exact ⟨vs, ws, v, v', SqT.mono sub h, SqT.mono sub h', e, e'⟩
  stops := fun H sub => ⟨vs, ws, SqT.mono sub h, SqT.mono sub h', by rw [r.len, r'.len]; simp; omega⟩
  yld := fun i d F H x H' hd s1 s2 ⟨T, v, u, e1, e2, e3, y, y'⟩ => by
    subst e1 e3
    obtain ⟨z, z', hz, hz', rfl⟩ := zip_get hd
    obtain ⟨w, e, rw'⟩ := r.get hz
    obtain ⟨w', e', rw2⟩ := r'.get hz'
    have q := y vs (SqT.mono (s1.trans s2) h)
    rw [e] at q; cases q
    have q := y' ws (SqT.mono (s1.trans s2) h')
    rw [e'] at q; cases q
    exact pair_new s2 e2 (rw'.mono s1) (rw2.mono s1)
theorem it_list {pins : List (Addr × Obj)} {s : Shared} {a : Addr} {xs : List V} {R : It → Hp → Prop} {E : Value → Shared → Prop} (I : L2.Inv X pins σ H s) (hq : SqL X.K H a xs) (q : R (Itl X.K a) H) : wpAny (model X.prog X.w) X.A (pyIter (.ref a)) (PIE X pins σ tg' R) E s := by
  obtain ⟨its, rv, p, hz⟩ := I.list hq
  exact wpAny_pyIter_list p.isList (pi_one (tk := s.toks) I _ (turn_list a _) ⟨_, Heap.get?_push_size _ rfl, rfl, rfl⟩ q)
theorem it_tup {pins : List (Addr × Obj)} {s : Shared} {a : Addr} {xs : List V} {R : It → Hp → Prop} {E : Value → Shared → Prop} (I : L2.Inv X pins σ H s) (hq : SqT X.K H a xs) (q : R (Itt X.K a) H) : wpAny (model X.prog X.w) X.A (pyIter (.ref a)) (PIE X pins σ tg' R) E s := by
  obtain ⟨its, rv, p, hz⟩ := I.tuple hq
  exact wpAny_pyIter_tuple (show s.heap.IsTuple a its.toArray from p) (pi_one (tk := s.toks) I _ (turn_tuple a _) ⟨_, Heap.get?_push_size _ rfl, rfl, rfl⟩ q)
theorem wk_str (x : Str) : WkD K ad F0 (Its x) (signs x) where
  goes := fun i H hi sub => by
    have hi' : i < x.cps.size := by simpa [signs] using hi
    exact hi'
  stops := fun H sub => by
    show x.cps.size ≤ (signs x).length
    simp [signs]
  yld := fun i d F H y H' hd s1 s2 ⟨e, c, hc, ey⟩ => by
    subst e ey
    have e2 : (signs x)[i]? = some (.str ⟨#[c]⟩) := by
      unfold signs
      rw [List.getElem?_map, Array.getElem?_toList, hc]
      rfl
    rw [e2] at hd
    cases hd
    exact ⟨F, .refl s2, .str _⟩
theorem it_str {pins : List (Addr × Obj)} {s : Shared} {x : Str} {t : Tok} {R : It → Hp → Prop} {E : Value → Shared → Prop} (I : L2.Inv X pins σ H s) (q : R (Its x) H) : wpAny (model X.prog X.w) X.A (pyIter (.str x t)) (PIE X pins σ tg' R) E s := by
  have one : ∀ ty, (ty = "str_ascii_iterator" ∨ ty = "str_iterator") → _ := fun ty hty => turn_str (P := X.prog) (w := X.w) (K := X.K) (tg := tg') s.heap.objs.size x t ty hty
  by_cases ha : x.cps.all (· < 128) = true
  · exact wpAny_pyIter_ascii ha (pi_one (tk := s.toks) I _ (one _ (.inl rfl)) ⟨_, Heap.get?_push_size _ rfl, rfl, rfl⟩ q)
  · exact wpAny_pyIter_wide (by simpa using ha) (pi_one (tk := s.toks) I _ (one _ (.inr rfl)) ⟨_, Heap.get?_push_size _ rfl, rfl, rfl⟩ q)
theorem tEs_one {Q : List V → Hp → Prop} (h : tEs K ad XR Wi W C [e] σ H Q) : tE K ad XR Wi W C e σ H fun x H1 => Q [x] H1 := by
  obtain ⟨s, L, m, F, hs, hm, h⟩ := h
  simp only [evs] at h
  refine (tE_bind hs hm h).mono fun x H1 ⟨v, m1, F1, b1, r1⟩ => ?_
  exact b1.hold.now (a := [v]) b1.sto (.refl b1.sto.sub) (.cons r1 .nil)
theorem pi_seq (ha : PE X a' (tE X.K ad XR Wi W C a)) : PI X tg' a' (tI X.K ad XR Wi W C .seq [a]) := by
  refine ⟨fun pins s₀ σ H R I h => ?_⟩
  refine thn (ha.run pins s₀ σ H _ I (tEs_one h)) fun v s1 ⟨x, H1, I1, r1, F1, ds, xs, sub, rs, hw, q⟩ => ?_
  cases rs with
  | cons r2 r3 =>
    cases r3
    cases r2 with
    | tup a b =>
      cases hw
      cases r1
      exact it_tup I1 (SqT.mono sub a) (q _ (wk_tup a b))
    | lst a b =>
      cases hw
      cases r1
      exact it_list I1 (SqL.of (sub _ _ a)) (q _ (wk_list a b))
    | non => cases hw
    | bl _ => cases hw
    | int _ => cases hw
    | str y =>
      cases hw
      obtain ⟨t, rfl⟩ := r1
      exact it_str I1 (q _ (wk_str y))
    | obj _ => cases hw
    | scr _ _ => cases hw
    | dct _ => cases hw
    | dK _ _ _ => cases hw
    | dT _ _ _ => cases hw
    | er0 _ => cases hw
    | er1 _ _ _ => cases hw
    | ktp a =>
      cases hw
      cases r1
      exact it_tup I1 (.inl (.inl (sub _ _ a))) (q _ (wk_tup (.inl (.inl a)) (rpa_keys _ _)))
theorem rp_key {F : Hp} (k : Key) : Rp K ad F (kV k) (dKey k) := by
  cases k with
  | inl i => exact .int i
  | inr x => exact .str x
theorem zipK_get {κ : Type} {ks : List κ} {ds : List D} {f : κ → D} {i : Nat} {d : D} (h : ((ks.zip ds).map fun p => D.tup [f p.1, p.2])[i]? = some d) : ∃ k y, ks[i]? = some k ∧ ds[i]? = some y ∧ d = .tup [f k, y] := by
  rw [List.getElem?_map] at h
  obtain ⟨p, e, rfl⟩ := Option.map_eq_some_iff.mp h
  rw [List.getElem?_zip_eq_some] at e
  exact ⟨p.1, p.2, e.1, e.2, rfl⟩
theorem wk_itemsK {a : Addr} {o : Obj} {ks : List Key} {vs : List V} {ds : List D} (h : F0 a = some (.frz o (.dK (ks.zip vs)))) (l : ks.length = vs.length) (r : RpA K ad F0 vs ds) :
    WkD K ad F0 (Iti a o (ks.zip vs)) ((ks.zip ds).map fun p => D.tup [dKey p.1, p.2]) where
  goes := fun i H hi sub => ⟨sub _ _ h, by rw [List.length_map, List.length_zip, ← r.len, ← List.length_zip] at hi; exact hi⟩
  stops := fun H sub => ⟨sub _ _ h, by rw [List.length_map, List.length_zip, List.length_zip, r.len]; exact Nat.le_refl _⟩
  yld := fun i d F H x H' hd s1 s2 ⟨T, k, v, hkv, e1, e2, e3⟩ => by
    subst e1 e3
    obtain ⟨k', z', hk, hz, rfl⟩ := zipK_get hd
    rw [List.getElem?_zip_eq_some] at hkv
    obtain ⟨hk2, hv2⟩ := hkv
    have e1 : k' = k := by rw [hk] at hk2; exact Option.some.inj hk2
    subst e1
    obtain ⟨w', e', rw2⟩ := r.get hz
    have e4 : w' = v := by rw [e'] at hv2; exact Option.some.inj hv2
    subst e4
    exact pair_new s2 e2 (rp_key _) (rw2.mono s1)
theorem wk_itemsT {a : Addr} {o : Obj} {ks : List (List Key)} {vs : List V} {ds : List D} (h : F0 a = some (.frz o (.dT (ks.zip vs)))) (l : ks.length = vs.length) (r : RpA K ad F0 vs ds) :
    WkD K ad F0 (Itit a o (ks.zip vs)) ((ks.zip ds).map fun p => D.tup [.ktp p.1, p.2]) where
  goes := fun i H hi sub => ⟨sub _ _ h, by rw [List.length_map, List.length_zip, ← r.len, ← List.length_zip] at hi; exact hi⟩
  stops := fun H sub => ⟨sub _ _ h, by rw [List.length_map, List.length_zip, List.length_zip, r.len]; exact Nat.le_refl _⟩
  yld := fun i d F H x H' hd s1 s2 ⟨T, k, v, q, hkv, hq, e1, e2, e3⟩ => by
    subst e1 e3
    obtain ⟨k', z', hk, hz, rfl⟩ := zipK_get (f := D.ktp) hd
    rw [List.getElem?_zip_eq_some] at hkv
    obtain ⟨hk2, hv2⟩ := hkv
    have e1 : k' = k := by rw [hk] at hk2; exact Option.some.inj hk2
    subst e1
    obtain ⟨w', e', rw2⟩ := r.get hz
    have e4 : w' = v := by rw [e'] at hv2; exact Option.some.inj hv2
    subst e4
    obtain ⟨F1, g1, hq1⟩ := Grow.know s2 hq
    obtain ⟨F2, g2, r2⟩ := pair_new g1.low e2 (.ktp hq1) ((rw2.mono s1).mono g1.sub)
    exact ⟨F2, g1.trans g2, r2⟩
theorem items_read {es : List Ex} {R : It → Hp → Prop} (h : tI K ad XR Wi W C .items [e] σ H R) : iItemsA (tE K ad XR Wi W C e) σ H R := by
  refine tE.mono (tEs_one h) fun x H1 ⟨F1, ds, xs, sub, rs, hw, q⟩ => ?_
  cases rs with
  | cons r1 r2 =>
    cases r2
    cases r1 with
    | dK a l b => cases hw; exact ⟨_, _, rfl, .inl ⟨_, sub _ _ a, q _ (wk_itemsK a l b)⟩⟩
    | dT a l b => cases hw; exact ⟨_, _, rfl, .inr ⟨_, sub _ _ a, q _ (wk_itemsT a l b)⟩⟩
    | _ => cases hw
theorem inRg_of {i : Int} (h : inRg i = true) : -(2 ^ 62) ≤ i ∧ i < 2 ^ 62 := by
  simp only [inRg, Bool.and_eq_true, decide_eq_true_eq] at h
  omega
theorem rng1_read {es : List Ex} {R : It → Hp → Prop} (h : tI K ad XR Wi W C .rng1 es σ H R) : iRng1 (tEs K ad XR Wi W C es) σ H R := by
  refine tEs.mono h fun vs H1 ⟨F1, ds, xs, sub, rs, hw, q⟩ => ?_
  unfold walkD at hw
  split at hw <;> try (cases hw; done)
  all_goals try contradiction
  split at hw
  · rename_i hr
    cases hw
    obtain ⟨h1, h2⟩ := inRg_of hr
    cases rs with
    | cons r2 r3 =>
      cases r3; cases r2
      exact ⟨_, rfl, h1, h2, q _ wk_rng⟩
  · cases hw
theorem rng2_read {es : List Ex} {R : It → Hp → Prop} (h : tI K ad XR Wi W C .rng2 es σ H R) : iRng2 (tEs K ad XR Wi W C es) σ H R := by
  refine tEs.mono h fun vs H1 ⟨F1, ds, xs, sub, rs, hw, q⟩ => ?_
  unfold walkD at hw
  split at hw <;> try (cases hw; done)
  all_goals try contradiction
  split at hw
  · rename_i hr
    cases hw
    rw [Bool.and_eq_true] at hr
    obtain ⟨h1, h2⟩ := inRg_of hr.1
    obtain ⟨h3, h4⟩ := inRg_of hr.2
    cases rs with
    | cons r2 r3 =>
      cases r2
      cases r3 with
      | cons r4 r5 =>
        cases r4; cases r5
        exact ⟨_, _, rfl, ⟨h1, h2, h3, h4⟩, q _ wk_rng⟩
  · cases hw
theorem items_of {F : Hp} {v : V} {d : D} {ys : List D} (r : Rp K ad F v d) (e : itemsD d = some ys) : ∃ a vs, v = .ref a ∧ RpA K ad F vs ys ∧ ((isLst d = true ∧ F a = some (.lst vs)) ∨ (isLst d = false ∧ SqT K F a vs)) := by
  cases r with
  | tup a b => cases e; exact ⟨_, _, rfl, b, .inr ⟨rfl, a⟩⟩
  | lst a b => cases e; exact ⟨_, _, rfl, b, .inl ⟨rfl, a⟩⟩
  | ktp a => cases e; exact ⟨_, _, rfl, rpa_keys _ _, .inr ⟨rfl, .inl (.inl a)⟩⟩
  | _ => cases e
theorem enum_read {es : List Ex} {R : It → Hp → Prop} (h : tI K ad XR Wi W C .enum es σ H R) : iEnumA K (tEs K ad XR Wi W C es) σ H R := by
  refine tEs.mono h fun vs H1 ⟨F1, ds, xs, sub, rs, hw, q⟩ => ?_
  unfold walkD at hw
  split at hw <;> try (cases hw; done)
  all_goals try contradiction
  obtain ⟨ys, e1, rfl⟩ := Option.map_eq_some_iff.mp hw
  cases rs with
  | cons r2 r3 =>
    cases r3
    obtain ⟨a, vs, rfl, b, ⟨_, w⟩ | ⟨_, w⟩⟩ := items_of r2 e1
    · exact ⟨_, _, rfl, .inl ⟨SqL.of (sub _ _ w), q _ (wk_enum w b)⟩⟩
    · exact ⟨_, _, rfl, .inr ⟨SqT.mono sub w, q _ (wk_enumT w b)⟩⟩
theorem zip_read {es : List Ex} {R : It → Hp → Prop} (h : tI K ad XR Wi W C .zip es σ H R) : RZ.iZipA K (tEs K ad XR Wi W C es) σ H R := by
  refine tEs.mono h fun vs H1 ⟨F1, ds, xs, sub, rs, hw, q⟩ => ?_
  unfold walkD at hw
  split at hw <;> try (cases hw; done)
  all_goals try contradiction
  split at hw
  · rename_i hl
    obtain ⟨ys, e1, hw⟩ := Option.bind_eq_some_iff.mp hw
    obtain ⟨zs, e2, rfl⟩ := Option.map_eq_some_iff.mp hw
    cases rs with
    | cons r2 r3 =>
      cases r3 with
      | cons r4 r5 =>
        cases r5
        obtain ⟨a, vs, rfl, b, w⟩ := items_of r2 e1
        obtain ⟨a', vs', rfl, b', w'⟩ := items_of r4 e2
        rcases w with ⟨i1, w⟩ | ⟨i1, w⟩ <;> rcases w' with ⟨i2, w'⟩ | ⟨i2, w'⟩
        · exact ⟨_, _, _, _, rfl, .inl ⟨SqL.of (sub _ _ w), SqL.of (sub _ _ w'), q _ (wk_zipL w b w' b')⟩⟩
        · rw [i1, i2] at hl; cases hl
        · rw [i1, i2] at hl; cases hl
        · exact ⟨_, _, _, _, rfl, .inr ⟨SqT.mono sub w, SqT.mono sub w', q _ (wk_zipT w b w' b')⟩⟩
  · cases hw
end
end EV

set_option Elab.async false
set_option linter.all false
set_option maxRecDepth 100000
set_option maxHeartbeats 4000000
/-! EV, part I: comprehensions; all expressions. -/
namespace EV
open PySem PySem.Spec PyProof.Rows L2
section
variable {K : PySem.W.Frag} {ad : Adr} {XR : Xc → Value → Option Addr → Hp → Hp → Prop} {Wi : Wz} {W : Wd} {C : Cal} {σ : L2.St} {H H1 : Hp} {s : Slots} {L : List Addr} {m m1 : Sto} {F F0 F1 : Hp}
variable {X : Cx} {N : List Str} {sc : Scope} {lv : Nat} {n : Wn} {pos p2 : Pos} {e a b c : Ex} {t0 t1 : Tx} {a' b' c' tg' : Expr}
/-- a new list, not frozen, written or made -/
theorem StoR.wr {p : Addr} {o : HO} {zs : List V} (s : StoR K ad L m F H) (n : ¬ Own L m p) (h1 : F p = none) (h2 : H p = some (.lst zs)) : StoR K ad L m F (upd H p o) :=
  ⟨fun a u e => (by
    have ne : a ≠ p := ne_of_none e h1
    rw [upd_ne ne]; exact s.sub _ _ e), fun i xs e nn => (by
    obtain ⟨a, vs, e1, e2, e3, e4⟩ := s.obj i xs e nn
    have ne : a ≠ p := fun z => n ⟨i, ⟨xs, e, nn⟩, z ▸ e1⟩
    exact ⟨a, vs, e1, e2, by rw [upd_ne ne]; exact e3, e4⟩), s.inj, s.len, tabs_wr s.tabs h2 (.lst _), s.nt⟩
theorem Ext.wr {p : Addr} {o : HO} (e : Ext L m F H m1 F1 H1) (h : H p = none) : Ext L m F H m1 F1 (upd H1 p o) :=
  ⟨e.sub, fun a u q n t => (by rw [upd_ne (ne_of_none q h)]; exact e.keep a u q n t), e.own, e.len, e.fresh, fun a u q t => (by rw [upd_ne (ne_of_none q h)]; exact e.there a u q t)⟩
/-- a wished datum from a new list -/
theorem frz_hold {r : R (List D)} {Q : VK} (st : StoR K ad L m F H) (h : Hold K ad XR Wi (relV K ad L) (r.bind fun ds m => .ok (.dat (.lst ds)) m) L m F H Q) : Hold K ad XR Wi (relN K ad H) r L m F H Q := by
  cases r with
  | ok ds m2 =>
    intro F' H' x ex st' ⟨p, vs, e, e1, e2, e3, e4⟩
    subst e
    exact h (upd F' p (.lst vs)) H' _ (ex.frz e2 e1 e3) (st'.frz (ex.notOwn st e2) e1 e3) (.lst upd_same (e4.mono (sub_upd e1)))
  | exc => exact h
  | bad => exact h
variable (K ad XR Wi W C) in
def tIfs (ifs : List Tx) : TT := fun σ H Q => ∃ s L m F, SltR K ad Wi.z L F s σ ∧ StoR K ad L m F H ∧ Hold K ad XR Wi relB (evIfs W C ifs s m) L m F H Q
variable (K ad XR Wi W C) in
/-- an expression that makes a new list -/
def tN (e : Ex) : TE := fun σ H Q => ∃ s L m F, SltR K ad Wi.z L F s σ ∧ StoR K ad L m F H ∧ Hold K ad XR Wi (relN K ad H) (evN W C e s m) L m F H Q
/-- behind i turns of a comprehension that began at (m1, F1, H1), its list at D0 -/
structure CI (K : PySem.W.Frag) (ad : Adr) (XR : Xc → Value → Option Addr → Hp → Hp → Prop) (Wi : Wz) (f : D → Sto → R (Option D)) (xs : List D) (L : List Addr) (m1 : Sto) (F1 H1 : Hp) (D0 : Addr) (Q : VK) (i : Nat) (m' : Sto) (F' : Hp) (acc : List D) (vs : List V) (H' : Hp) : Prop where
  ext : Ext L m1 F1 H1 m' F' H'
  sto : StoR K ad L m' F' H'
  fD : F' D0 = none
  hD : H' D0 = some (.lst vs)
  rep : RpA K ad F' vs acc
  len : acc.length ≤ i
  hold : Hold K ad XR Wi (relN K ad H1) (loopC f (xs.drop i) acc m') L m1 F1 H1 Q
theorem noX_ok {α : Type} {r : R α} {a : α} {m : Sto} (h : noX r = .ok a m) : r = .ok a m := by
  cases r with
  | ok => exact h
  | exc => cases h
  | bad => cases h
/-- a part that may not raise -/
theorem Hold.noX {α β : Type} {rel : Hp → Hp → α → β → Prop} {r : R α} {Q : β → Hp → Prop} {Wx : XK} (h : ∀ a m', EV.noX r = .ok a m' → ∀ F' H' x, Ext L m F H m' F' H' → StoR K ad L m' F' H' → rel F' H' a x → Q x H') (hb : EV.noX r ≠ .bad) : Hold K ad XR Wx rel r L m F H Q := by
  cases r with
  | ok a m' => exact h a m' rfl
  | exc => exact absurd rfl hb
  | bad => exact absurd rfl hb
theorem comp_read {tg : Tg} {ik : IK} {src : List Ex} {ifs : List Tx} {elt : Ex} {Q : VK} (hs : SltR K ad Wi.z L F s σ) (hm : StoR K ad L m F H)
    (h : Hold K ad XR Wi (relN K ad H) (evC W C tg ik src ifs elt s m) L m F H Q) :
    tLc (tI K ad XR Wi W C ik src) (gD K ad Wi.z tg) (tIfs K ad XR Wi.no W C ifs) (tE K ad XR Wi.no W C elt) (slotsOf tg) σ H Q := by
  unfold evC at h
  have hb := h.bh (relVs K ad L)
  refine ⟨s, L, m, F, hs, hm, hb.mono fun vsV H1 ⟨vs, m1, F1, b1, r1⟩ => ?_⟩
  have hh := b1.hold
  cases e1 : datsOf vs with
  | none => rw [e1] at hh; exact hh.elim
  | some ds =>
  rw [e1] at hh
  dsimp only at hh
  cases e2 : walkD ik ds with
  | none => rw [e2] at hh; exact hh.elim
  | some xs =>
  rw [e2] at hh
  dsimp only at hh
  split at hh
  case isFalse => exact hh.elim
  case isTrue hz =>
  refine ⟨F1, ds, xs, b1.sto.sub, datsOf_ok e1 r1, e2, fun J wk D0 hD0 => ?_⟩
  have hF0 : F1 D0 = none := by
    cases q : F1 D0 with
    | none => rfl
    | some u => rw [b1.sto.sub _ _ q] at hD0; cases hD0
  -- the wish at the comprehension's own start
  have hh1 : Hold K ad XR Wi (relN K ad H1) (loopC (turnC W C tg ifs elt s) xs [] m1) L m1 F1 H1 Q := by
    have hnone : ∀ p, Nt H1 p → Nt H p := fun p hp => b1.ext.nt hp
    cases hr : loopC (turnC W C tg ifs elt s) xs [] m1 with
    | ok ds' m2 =>
      rw [hr] at hh
      exact fun F' H' x ex st ⟨p, vs, e, e1, e2, e3, e4⟩ => hh F' H' x ex st ⟨p, vs, e, e1, hnone p e2, e3, e4⟩
    | exc => rw [hr] at hh; exact hh
    | bad => rw [hr] at hh; exact hh
  have hs1 := hs.mono b1.ext.sub
  refine lc_it (n := xs.length) (G := fun H => Sub F1 H) (Y := J.yld) ⟨wk.goes, wk.stops, fun _ _ _ _ _ _ h => h⟩
    (fun i H' => ∃ m' F' acc vs', CI K ad XR Wi (turnC W C tg ifs elt s) xs L m1 F1 H1 D0 Q i m' F' acc vs' H') ?_ ?_ ?_ ?_
  · have g := Grow.bare (o := .lst []) b1.sto.sub hD0
    exact ⟨m1, F1, [], [], g.ext, g.sto b1.sto, hF0, upd_same, .nil, Nat.le_refl _, hh1⟩
  · rintro i H' hi ⟨m', F', acc, vs', c⟩
    exact c.ext.sub.trans c.sto.sub
  · rintro i x H' H'' hi ⟨m', F', acc, vs', c⟩ hy
    obtain ⟨d, hd⟩ : ∃ d, xs[i]? = some d := ⟨_, List.getElem?_eq_getElem hi⟩
    obtain ⟨F2, g, rx⟩ := wk.yld i d F' H' x H'' hd c.ext.sub c.sto.sub hy
    have st2 : StoR K ad L m' F2 H'' := g.sto c.sto
    have ex2 : Ext L m1 F1 H1 m' F2 H'' := c.ext.trans g.ext
    have hdrop : xs.drop i = d :: xs.drop (i + 1) := by
      obtain ⟨h1, h2⟩ := List.getElem?_eq_some_iff.mp hd
      rw [List.drop_eq_getElem_cons h1, h2]
    have hold := c.hold
    rw [hdrop] at hold
    unfold loopC at hold
    have hD2 : H'' D0 = some (.lst vs') := g.grow _ _ c.hD
    have fD2 : F2 D0 = none := by
      rcases g.fresh D0 with q | q | q
      · rw [q]; exact c.fD
      · rw [c.hD] at q; cases q
      · exact (q.lst g.low hD2).elim
    have nD : ∀ {mm : Sto} {FF HH : Hp}, Ext L m1 F1 H1 mm FF HH → ¬ Own L mm D0 := fun ex => ex.notOwn b1.sto (nt_of hD0)
    cases et : tgD tg d (wipeS s (slotsOf tg)) with
    | none =>
      exfalso
      simp only [turnC, et] at hold
      exact hold
    | some s' =>
    simp only [turnC, et] at hold
    have hsw : SltR K ad Wi.z L F2 (wipeS s (slotsOf tg)) (wipe σ (slotsOf tg)) := (hs1.mono (c.ext.sub.trans g.sub)).wipe _
    refine ⟨L, F2, d, _, s', hsw, rx, g.low, et, fun σ2 hs2 hw2 => ⟨?_, ?_⟩⟩
    · rw [hw2 _ fun i hi => hi, wipe_idem]
    -- the tests
    refine ⟨s', L, m', F2, hs2, st2, Hold.noX (fun b m3 er F3 H3 z ex3 st3 rz => ?_) fun er => ?_⟩
    · subst rz
      rw [er] at hold
      simp only [R.bind_ok] at hold
      have ex13 := ex2.trans ex3
      have hD3 : H3 D0 = some (.lst vs') := ex3.keep _ _ hD2 (nD ex2) fun _ z => by cases z
      have fD3 : F3 D0 = none := by
        rcases ex3.fresh D0 with q | q | q
        · rw [q]; exact fD2
        · exact (q.lst hD2).elim
        · exact (q.lst st3.sub hD3).elim
      cases b with
      | false =>
        refine iteF ?_
        simp only [Bool.false_eq_true, if_false, R.bind_ok] at hold
        exact ⟨m3, F3, acc, vs', ex13, st3, fD3, hD3, c.rep.mono (g.sub.trans ex3.sub), Nat.le_succ_of_le c.len, hold⟩
      | true =>
        refine iteT ?_
        simp only [if_true] at hold
        refine ⟨s', L, m3, F3, hs2.mono ex3.sub, st3, Hold.noX (fun v m4 er4 F4 H4 y ex4 st4 ry => ?_) fun er4 => ?_⟩
        · rw [er4] at hold
          simp only [R.bind_ok] at hold
          cases v with
          | loc k => exact hold.elim
          | fns _ => exact hold.elim
          | dat yd =>
            simp only [R.bind_ok] at hold
            have ex14 := ex13.trans ex4
            have hD4 : H4 D0 = some (.lst vs') := ex4.keep _ _ hD3 (nD ex13) fun _ z => by cases z
            have fD4 : F4 D0 = none := by
              rcases ex4.fresh D0 with q | q | q
              · rw [q]; exact fD3
              · exact (q.lst hD3).elim
              · exact (q.lst st4.sub hD4).elim
            have hlen := c.rep.len
            have hz' := le_of_sz hz
            have hcl := c.len
            refine ⟨vs', hD4, by rw [hlen]; omega, m4, F4, acc ++ [yd], vs' ++ [y], ex14.wr hD0, st4.wr (nD ex14) fD4 hD4, fD4, upd_same, (c.rep.mono ((g.sub.trans ex3.sub).trans ex4.sub)).app (.cons ry .nil), ?_, hold⟩
            rw [List.length_append]
            exact Nat.add_le_add hcl (Nat.le_refl 1)
        · rw [er4] at hold
          exact hold
    · rw [er] at hold
      exact hold
  · rintro H' ⟨m', F', acc, vs', c⟩
    have hold := c.hold
    rw [List.drop_length] at hold
    exact hold F' H' _ c.ext c.sto ⟨D0, vs', rfl, c.fD, nt_of hD0, c.hD, c.rep⟩
theorem pf_compN {tg : Tg} {ik : IK} {src : List Ex} {ifs : List Tx} {elt : Ex} {iter' elt' : Expr} {ifs' : List Expr} {scope : Scope} {own : List (Str × Nat)} (S : XO ad n X N sc Wi lv) (hi : PI X tg' iter' (tI X.K ad XR Wi W C ik src)) (ok : BlkOk X.N X.env.scope scope own) (ho : own.map (·.2) = slotsOf tg)
    (hg : ∀ (s : Shared) (H : Hp) (C : Addr) (cl : List (Str × Addr)) (fp : List Addr), PG (X.blk s H scope (compEnvC scope cl C X.env) fp) tg' (gD X.K ad Wi.z tg))
    (ht : ∀ (s : Shared) (H : Hp) (C0 : Addr) (cl : List (Str × Addr)) (fp : List Addr), PTs (X.blk s H scope (compEnvC scope cl C0 X.env) fp) ifs' (tIfs X.K ad XR Wi.no W C ifs))
    (he : ∀ (s : Shared) (H : Hp) (C0 : Addr) (cl : List (Str × Addr)) (fp : List Addr), PE (X.blk s H scope (compEnvC scope cl C0 X.env) fp) elt' (tE X.K ad XR Wi.no W C elt))
    (hs : ∀ x, foldedSetIterable iter' X.env x = pure x) : PE X (.ListComp elt' [⟨tg', iter', ifs', 0⟩] scope pos) (tN X.K ad XR Wi W C (.comp tg ik src ifs elt)) := by
  have h0 := pe_lc (pos := pos) S.calm (by rw [S.nm]; exact S.nd) hi ok hg ht he hs
  rw [ho] at h0
  exact h0.imp fun σ H Q ⟨s, L, m, F, h1, h2, h⟩ => comp_read h1 h2 h
end
end EV

set_option Elab.async false
set_option linter.all false
set_option maxRecDepth 100000
set_option maxHeartbeats 4000000
/-! EV, part X: dicts that are written, ends that are told, exceptions that are raised. -/
namespace EV
open PySem PySem.Spec PyProof.Rows L2
section
variable {K : PySem.W.Frag} {ad : Adr} {XR : Xc → Value → Option Addr → Hp → Hp → Prop} {Wi : Wz} {W : Wd} {C : Cal} {σ : L2.St} {H H1 : Hp} {s : Slots} {L : List Addr} {m m1 : Sto} {F F0 F1 : Hp}
variable {X : Cx} {N : List Str} {sc : Scope} {lv : Nat} {n : Wn} {pos p2 : Pos} {e a b c : Ex}
theorem pf_dct0 : PE X (.Dict [] [] pos) (tE X.K ad XR Wi W C (.dct [])) := by
  refine pe_dnewK.imp fun σ H Q ⟨s, L, m, F, hs, hm, h⟩ p hp => ?_
  simp only [ev] at h
  exact h.now hm (Grow.new hm.sub hp) (.dct upd_same)
theorem pf_dct1 {k v : Int} {j1 j2 : Nat} {q1 q2 : Pos} : PE X (.Dict [some (.Constant (.int k) j1 q1)] [.Constant (.int v) j2 q2] pos) (tE X.K ad XR Wi W C (.dct [(k, v)])) := by
  refine (pe_disp (pps_cons pe_int pe_int pps_nil) rfl rfl (by simp) (by simp)).imp fun σ H Q ⟨s, L, m, F, hs, hm, h⟩ p hp => ?_
  simp only [ev] at h
  refine ⟨upd_same, [(Sum.inl k, V.int v)], rfl, by simp, ?_⟩
  have e : upd (upd H p (.dK [])) p (.dK (mergeK [] [(Sum.inl k, V.int v)])) = upd H p (.dK [(Sum.inl k, V.int v)]) := by
    funext q
    by_cases z : q = p
    · subst z; rw [upd_same, upd_same]; rfl
    · rw [upd_ne z, upd_ne z, upd_ne z]
  rw [e]
  exact h.now hm (Grow.new hm.sub hp) (.dct upd_same)
/-- the clauses of a telling def: their readings, and what they tell -/
theorem clauses_ok {P : Program} {mg : Str → Option Value} {Ng : List Str} {sg : Scope} (hbs : ∀ x, n.bs.contains x = true → mg x = none) (nd : Ng.Nodup) (hex : ∀ (k : Nat) (x : Xk), W.xk[k]? = some x → ExcF K ad P mg k x)
    (hem : ∀ i j : Nat, i < W.xk.length → j < W.xk.length → PySem.W.exmOne K (.ref (ad.ex i)) (.ref (ad.ex j)) = some (decide (i = j))) : ∀ (cs : List Tc) (hds : List ExceptHandler), matCs W n.bs Ng sg cs hds = true → ∃ ls : List Cl,
      (∀ (w : World) (base : Heap) (q : Str) (g : Addr) (cdv : Value) (A : Around) (st : List Env) (s : Shared) (H : Hp), A.guards = some [] → A.units + 3 + 64 < cLine → CLs (cxOf C8.CX0 P w K mg base Ng q sg g cdv A st s H C8.E0) hds ls) ∧
      ∀ (x : Xc) (y : Str) (cls : Value) (d : Option Addr) (F2 H2 : Hp) (τ : L2.St) (D : Ends), tellC cs x = some y → xrE K ad W x cls d F2 H2 → Sub F2 H2 → (∀ F' H', Grow F2 H2 F' H' → D.rt (.str y) H') → Ng.length = τ.length → wCl K (fun _ _ _ _ => False) D ls cls d τ H2
  | [], hds, h => by
    cases hds with
    | cons => cases h
    | nil => exact ⟨[], fun _ _ _ _ _ _ _ _ _ _ _ => .nil, fun x y cls d F2 H2 τ D ht => by cases ht⟩
  | c :: cs, hds, h => by
    cases hds with
    | nil => cases h
    | cons hd hds =>
    simp only [matCs, Bool.and_eq_true] at h
    obtain ⟨h1, h2⟩ := h
    obtain ⟨ls, c1, c2⟩ := clauses_ok hbs nd hex hem cs hds h2
    unfold matC at h1
    split at h1
    case h_2 => cases h1
    case h_1 yn p1 nm e p3 p4 =>
    split at h1
    case h_2 => cases h1
    case h_1 k hk =>
    simp only [Bool.and_eq_true, decide_eq_true_eq] at h1
    obtain ⟨⟨⟨rfl, g1⟩, g2⟩, h1⟩ := h1
    have xf := hex c.cls k hk
    have hlt : c.cls < W.xk.length := (List.getElem?_eq_some_iff.mp hk).1
    have nam : ∀ (w : World) (base : Heap) (q : Str) (g : Addr) (cdv : Value) (A : Around) (st : List Env) (s : Shared) (H : Hp), Names (cxOf C8.CX0 P w K mg base Ng q sg g cdv A st s H C8.E0) k.g (.ref (ad.ex c.cls)) :=
      fun w base q g cdv A st s H => ⟨isKind_of (sc := sg) g1, (okNm_of g2).1, .inl xf.mg⟩
    -- the step from one clause to the rest
    have go : ∀ (i : Option Nat) (ts : Addr → Value → Option Addr → TS),
        (∀ (x : Xc) (y : Str) (cls : Value) (d : Option Addr) (F2 H2 : Hp) (τ : L2.St) (D : Ends), x.cls = c.cls → tellC (c :: cs) x = some y → xrE K ad W x cls d F2 H2 → Sub F2 H2 → (∀ F' H', Grow F2 H2 F' H' → D.rt (.str y) H') → Ng.length = τ.length → ∀ a, H2 a = none → ts a cls d (offD i D) (onS i a τ) H2) →
        ∀ (x : Xc) (y : Str) (cls : Value) (d : Option Addr) (F2 H2 : Hp) (τ : L2.St) (D : Ends), tellC (c :: cs) x = some y → xrE K ad W x cls d F2 H2 → Sub F2 H2 → (∀ F' H', Grow F2 H2 F' H' → D.rt (.str y) H') → Ng.length = τ.length →
          wCl K (fun _ _ _ _ => False) D (⟨.ref (ad.ex c.cls), i, ts⟩ :: ls) cls d τ H2 := by
      intro i ts hts x y cls d F2 H2 τ D ht hx sub hq hl
      obtain ⟨e1, k', hk', _⟩ := id hx
      have hlx : x.cls < W.xk.length := (List.getElem?_eq_some_iff.mp hk').1
      refine ⟨decide (x.cls = c.cls), by rw [e1]; exact hem _ _ hlx hlt, fun he a na => ?_, fun he => ?_⟩
      · exact hts x y cls d F2 H2 τ D (of_decide_eq_true he) ht hx sub hq hl a na
      · have ne : ¬ x.cls = c.cls := of_decide_eq_false he
        simp only [tellC, if_neg ne] at ht
        exact c2 x y cls d F2 H2 τ D ht hx sub hq hl
    split at h1
    · -- a plain clause
      rename_i z j1 j2
      simp only [Bool.and_eq_true, Bool.not_eq_true', decide_eq_true_eq] at h1
      obtain ⟨hkp, rfl⟩ := h1
      refine ⟨⟨.ref (ad.ex c.cls), none, fun a cls d => tRet (tC (.str c.pre))⟩ :: ls, fun w base q g cdv A st s H hg hu => .cons (nam w base q g cdv A st s H) .no (fun a oe cls d pn hz hf => pss_one (ps_ret pe_str)) (c1 w base q g cdv A st s H hg hu), ?_⟩
      refine go none _ fun x y cls d F2 H2 τ D he ht hx sub hq hl a na => ?_
      simp only [tellC, if_pos he, hkp, Bool.false_eq_true, if_false] at ht
      cases ht
      exact hq F2 H2 (.refl sub)
    · -- a clause with a name
      rename_i v z j1 j2 r q1 v' q2 f q3 q4 q5
      simp only [Bool.and_eq_true, decide_eq_true_eq] at h1
      obtain ⟨⟨⟨⟨⟨⟨⟨⟨⟨⟨hkp, rfl⟩, rfl⟩, hr1⟩, hr2⟩, rfl⟩, rfl⟩, hfp⟩, hok⟩, hloc⟩, hmem⟩ := h1
      obtain ⟨i, hi⟩ := List.mem_iff_getElem?.mp hmem
      obtain ⟨fp, efp⟩ := Option.isSome_iff_exists.mp hfp
      obtain ⟨_, _, _, _, _, _, _, _, _, _, _, _, _, _, _, _, _, _, _, _, _, _, _, _, _, _, _, _, _, _, _, _, _, _, _, _, _, _, _, _, _, _, _, _, _, _, _, _, _, _, _, _, xfc, xno⟩ := xf.ini fp efp
      refine ⟨⟨.ref (ad.ex c.cls), some i, fun a cls d => tRet (tOp (rBin K ad .Add) (tC (.str c.pre)) (tCB (rBlt K ad .repr) (tCons (tXf a cls d (ad.ex c.cls) k.fld (tVar i)) tNil)))⟩ :: ls, fun w base q g cdv A st s H hg hu => ?_, ?_⟩
      · refine .cons (nam w base q g cdv A st s H) (.yes hi (isKind_of (sc := sg) hloc)) (fun a oe cls d pn hz hf => ?_) (c1 w base q g cdv A st s H hg hu)
        have o1 := okNm_of hok
        have pv : PE ((cxOf C8.CX0 P w K mg base Ng q sg g cdv A st s H C8.E0).suite a ((a, oe) :: pn)) (.Name v' q2) (tVar i) := pe_var hi (.inl (isKind_of (sc := sg) hloc)) o1.1 o1.2.1
        have px := pe_xf (X := cxOf C8.CX0 P w K mg base Ng q sg g cdv A st s H C8.E0) (pos := q3) xfc xno hz hf pv
        have pr := pe_callB (pos := q4) (p := q1) (x := "repr") (call_reprD (X := (cxOf C8.CX0 P w K mg base Ng q sg g cdv A st s H C8.E0).suite a ((a, oe) :: pn)) (ad := ad) hg (by show A.units + 3 + 64 < cLine; exact hu)) (isKind_of (sc := sg) hr2) (hbs _ hr1) (bt_boot .repr) (pa_cons px pa_nil) (by decide) (by decide) rfl rfl
        exact pss_one (ps_ret (pe_op (op_bin (X := (cxOf C8.CX0 P w K mg base Ng q sg g cdv A st s H C8.E0).suite a ((a, oe) :: pn)) (ad := ad) .Add) pe_str pr))
      · refine go (some i) _ fun x y cls d F2 H2 τ D he ht hx sub hq hl a na => ?_
        simp only [tellC, if_pos he, hkp, if_true] at ht
        obtain ⟨v, ev, ht⟩ := Option.bind_eq_some_iff.mp ht
        obtain ⟨yr, er, ht⟩ := Option.bind_eq_some_iff.mp ht
        split at ht
        case isFalse => cases ht
        case isTrue hsz =>
        cases ht
        obtain ⟨e1, k', hk', hx⟩ := hx
        rw [he, hk] at hk'
        cases hk'
        rw [ev] at hx
        obtain ⟨dx, yv, rfl, fx, rv⟩ := hx
        have hlt2 : i < τ.length := by rw [← hl]; exact (List.getElem?_eq_some_iff.mp hi).1
        refine ⟨.ref a, List.getElem?_set_self hlt2, rfl, by rw [e1, he], dx, [(k.fld, yv)], yv, rfl, sub _ _ fx, by simp [List.lookup], F2, [v], .str yr, sub, .cons (rv.lk sub) .nil, by simp [bltD, er], fun F' H' z g r => ?_⟩
        cases r
        refine ⟨F', .str c.pre, .str yr, .str (c.pre ++ yr), g.low, .str _, .str _, by simp [binD, hsz], fun F'' H'' z g2 r => ?_⟩
        cases r
        exact hq F'' H'' (g.trans g2)
    · cases h1
/-- x(lambda: e), x a def that tells how the call ends -/
theorem pf_told {t : Nat} {x : Str} {params : Arguments} {body' : Expr} {scope : Scope} {lpos p : Pos} (G : GO X.K ad XR W C X.prog X.w X.mg X.base n lv) (S : XO ad n X N sc Wi lv) (hlm : n.lm = true) (hmk : makerB sc = true) (ht : n.tnm[t]? = some x) (hgl : Gl X x) (hok : okNm x = true)
    (hls : LamX.lamSB sc scope = true) (hnp : noParB params = true) (run : ∀ (X' : Cx) (E : Wz), XO ad n.in_ X' N scope E lv → GO X'.K ad XR W C X'.prog X'.w X'.mg X'.base n.in_ lv → PE X' body' (tE X'.K ad XR E W C e)) :
    PE X (.Call (.Name x p) [.Lambda params body' scope lpos] [] pos) (tE X.K ad XR Wi W C (.told t e)) := by
  refine ⟨fun pins s0 σ H Q I ⟨s, L, m, F, hs, hm, h⟩ => ?_⟩
  simp only [ev] at h
  cases eT : W.tl[t]? with
  | none => rw [eT] at h; exact h.elim
  | some T =>
  rw [eT] at h
  dsimp only at h
  obtain ⟨g, a, Ng, pg, bg, sg, dV, kV, doc, pm, cdv, ct, oc, an, od, osl, t1, t2, t3, t4, t5, t6, t7, t8, t9, t10⟩ := G.tld t T x eT ht
  unfold matTl at t10
  split at t10
  case h_2 => cases t10
  case h_1 a' q1 q2 q3 h0 hds q4 z kc q5 q6 =>
  simp only [Bool.and_eq_true, decide_eq_true_eq] at t10
  obtain ⟨⟨rfl, rfl⟩, t10⟩ := t10
  obtain ⟨ls, c1, c2⟩ := clauses_ok (P := X.prog) G.bs t6.nd G.exc (fun i j hi hj => by rw [← G.tlx t T eT i j hi hj]; exact G.exm i j hi hj) T.cs (h0 :: hds) t10
  obtain ⟨hr, c, P, l1, l2, l3, l4⟩ := S.lam hlm hmk
  have L0 : LamX.LamS X.env.scope scope := by rw [S.es]; exact LamX.lamS_by hls
  have nm : makerB scope = false := by
    unfold makerB
    rw [List.any_eq_false]
    intro y hy
    obtain ⟨h1, h2⟩ := L0.own y hy
    simp [h1, h2]
  rw [noPar_of hnp]
  have o1 := okNm_of hok
  have o2 := okNm_of t9
  have hu : X.A.units + 3 + 64 < cLine := by
    have := hr.un
    omega
  refine (pe_told (T := ad.tb) (te := fun E => tE X.K ad XR (Wi.to E) W C e) (j := 3 * lv + 1) hgl t1 t2 t3 t4 t5 t6 t7 t8 (fun s H => c1 X.w X.base x g cdv X.A X.stack s H S.grd hu) l2 l1 l3 l4 hr L0 rfl (fun _ _ _ _ _ => rfl)
    (fun s1 f c' s2 H2 E => run _ (Wi.to E) ⟨S.nm, rfl, S.nd, rfl, (hr.deeper (hEnv x sg s1 g cdv)).deeper _, fun _ z => (by rw [nm] at z; cases z), (fun _ z => Bool.noConfusion z), S.grd, takes_of rfl rfl rfl rfl⟩ G.in_) o1.1 o2.1 o2.2.1).run pins s0 σ H Q I ⟨hm.tabs, fun H1 eN T1 => ?_⟩
  have st1 : StoR X.K ad L m F H1 := ⟨fun a o q => eN a o (hm.sub a o q) fun ps z => hm.nt a ps (by rw [← z]; exact q), fun i xs q nn => (by
    obtain ⟨p, vs, e1, e2, e3, e4⟩ := hm.obj i xs q nn
    exact ⟨p, vs, e1, e2, eN _ _ e3 e4.isCell.ntb, e4⟩), hm.inj, hm.len, T1, hm.nt⟩
  have ex1 : Ext L m F H m F H1 := ⟨Sub.refl _, fun a o q _ t => eN a o q t, fun _ => Iff.rfl, rfl, fun _ => .inl rfl, fun a o q t => ⟨o, eN a o q t, t⟩⟩
  refine ⟨fun cls d H2 => ∃ F2 xc m2, ev W C e s m = .exc xc m2 ∧ Ext L m F H1 m2 F2 H2 ∧ StoR X.K ad L m2 F2 H2 ∧ XR xc cls d F2 H2, ⟨s, L, m, F, hs, st1, ?_⟩, fun cls d H2 f D hD ⟨F2, xc, m2, q, ex, st, xr⟩ => ?_⟩
  · cases q : ev W C e s m with
    | ok v m2 =>
      rw [q] at h
      exact fun F2 H2 y ex st r => h F2 H2 (.str T.fine) (ex1.trans ex) st (.str _)
    | exc xc m2 => exact fun F2 H2 cls d ex st xr => ⟨F2, xc, m2, rfl, ex, st, xr⟩
    | bad => rw [q] at h; exact h
  · rw [q] at h
    dsimp only at h
    cases ty : tellC T.cs xc with
    | none => rw [ty] at h; exact h.elim
    | some y =>
      rw [ty] at h
      have xr' : xrE X.K ad W xc cls d F2 H2 := by rw [← G.xre]; exact xr
      have hlen : Ng.length = (L2.start Ng [V.ref f]).length := by
        have : 0 < Ng.length := (List.getElem?_eq_some_iff.mp t7).1
        simp [L2.start]
        omega
      exact c2 xc y cls d F2 H2 _ D ty xr' st.sub (fun F' H' g => by rw [hD]; exact h F' H' _ ((ex1.trans ex).trans g.ext) (g.sto st) (.str _)) hlen
/-- C(e), C's __init__ keeps its argument -/
theorem pmk_ini {x : Str} {k : Nat} {kx : Xk} {fp : List FP} {e' : Expr} {te : TE} {p : Pos} (xf : ExcF X.K ad X.prog X.mg k kx) (hfp : kx.fp = some fp) (hx : kx.g = x) (hgl : Gl X x) (hok : okNm x = true) (hgd : X.A.guards = some []) (hr : Room 0 X.A) (he : PE X e' te) (hst : starB e' = false) :
    PMk X (.Call (.Name x p) [e'] [] pos) (fun σ H Q => te σ H fun v H1 => ∃ F d, Sub F H1 ∧ Lk X.K ad F H1 v d ∧ fpsOk (reprD d) (plainD d) Str.empty fp = true ∧ ∀ dx, H1 dx = none → Q (.ref (ad.ex k)) (some dx) (upd H1 dx (.xd [(kx.fld, v)]))) := by
  subst hx
  intro pins s σ H Q I h
  obtain ⟨O, B, newId, initId, bmB, fI, cc, cda, x0, x1, name, qual, params, body, scope, dV, kV, doc, pm, ct, oc, ccl, cl, an, od, cdd, cld, osl, ccs, csl, vs, file, tf, cdD, ar, FB, SF, KF, TK, lk, hcd, hcode, hvs, hfile, hcell, hcls, hbody, hsc, har, har2, hbind, htop, _, _⟩ := xf.ini fp hfp
  refine wpAny_Call_Name_kw (ld_glob I hgl xf.mg (PySem.W.callWith_K (h₀ := X.base) I.ok.mod.kin xf.kp (thn ((pa_cons he pa_nil (star_each hst _ _)).run pos pins s σ H _ I (show tCons te tNil σ H (fun vs H1 => match vs with
    | [v] => ∃ F d, Sub F H1 ∧ Lk X.K ad F H1 v d ∧ fpsOk (reprD d) (plainD d) Str.empty fp = true ∧ ∀ dx, H1 dx = none → Q (.ref (ad.ex k)) (some dx) (upd H1 dx (.xd [(kx.fld, v)]))
    | _ => False) from h)) fun us s1 hh => ?_) (star_each hst _ _) (star_any (by simp [hst]) _ _)) (okNm_of hok).1)
  obtain ⟨vs', H1, I1, r1, q⟩ := hh
  match vs', r1, q with
  | [v], r1, q =>
    obtain ⟨u, rfl, ru⟩ := vals1 r1
    obtain ⟨F, d, sub, l, hfo, q⟩ := q
    refine ⟨I1.kIn, ?_⟩
    obtain ⟨mb, hmb, hbt⟩ := I1.mod.blt
    have nol := I1.nolimit
    have fresh : ∀ b, s1.heap.objs.size ≤ b → H1 b = none := fun b z => I1.hok.fresh z
    have sh := fun env : Env => shows_d (ad := ad) (A := (X.A.under (.builtin "type.__call__" ⟨[.ref (ad.ex k), u], []⟩)).deeper env) I1 sub l ru (by first | exact hgd | (simp [Around.under, Around.deeper, Code.weight, Code.isCreation, Code.isGuard, Code.isCaller, Code.frames, Code.isFrame, guardIds]; exact hgd))
      (by
        have e1 : ((X.A.under (.builtin "type.__call__" ⟨[.ref (ad.ex k), u], []⟩)).deeper env).units = (X.A.under (.builtin "type.__call__" ⟨[.ref (ad.ex k), u], []⟩)).units + 3 := rfl
        rw [e1, make_units]
        have := hr.un
        omega)
    have hmg := I1.mod.glob.keeps I1.bk
    have hmb' := hmb.keeps I1.bk
    have kin := I1.kIn
    obtain ⟨hp, g, dr, tk, os⟩ := s1
    refine ini_call FB SF KF TK kin lk hcd hcode hvs hfile hcell hcls hbody hsc har har2 hbind htop (by have := hr.dp; omega) hmg hmb' hbt nol hfo sh fun ea t1 dx h' tk' kh ge gd ne e1 e2 => ?_
    have k2 : ∀ b o, hp.get? b = some o → (PySem.W.hideAll h' [ea]).get? b = some o := fun b o z => PySem.W.hideAll_get _ (kh b o z) (fun w => by
      have lt : @LT.lt Nat _ b hp.objs.size := Heap.lt_size z
      have w' : @Eq Nat b ea := List.mem_singleton.mp w
      have ge' : @LE.le Nat _ hp.objs.size ea := ge
      omega)
    have hns : (PySem.W.hideAll h' [ea]).Ns1 dx (fun y => if y = kx.fld then some u else none) := e2.at fun o z => PySem.W.hideAll_get _ z (fun w => ne (List.mem_singleton.mp w))
    have J := I1.laid (t' := tk') (a := dx) (o := .xd [(kx.fld, v)]) (h' := PySem.W.hideAll h' [ea]) k2 gd ⟨_, hns, relO_put (fs := []) ru fun _ => True.intro⟩
    refine ⟨ea, _, _, _, _, .ref (ad.ex k), some dx, rfl, J, fun b o z => PySem.W.of_hideAll _ z, PySem.W.hideAll_none _ (by simp), e1, ⟨rfl, rfl⟩, rfl, rfl, ?_, rfl, I1.bare, raises_own xf.sb xf.ty, q dx (fresh dx gd)⟩
    rw [upd_ne (Ne.symm ne)]
    exact fresh ea ge
  | [], r1, q => exact q.elim
  | _ :: _ :: _, r1, q => exact q.elim
end
end EV

set_option Elab.async false
set_option linter.all false
set_option maxRecDepth 100000
set_option maxHeartbeats 4000000
/-! EV, part 1: lists of lambdas: their objects, a comprehension that calls them. -/
namespace EV
open PySem PySem.Spec PyProof.Rows L2 LamX
section
variable {X : Cx} {pins : List (Addr × Obj)} {σ : L2.St} {H : Hp} {s : Shared}
theorem lamO_in {P : Program} {w : World} {h : Heap} {f c' : Addr} {q : Str} {params : Arguments} {body : Expr} {scope : Scope} {cells : List (Str × Addr)} {pm ctv : Value}
    (e : h.get? f = some (PySem.W.kla_obj "<lambda>" q params body scope (cloFrom cells scope.names []) pm c' ctv)) : ObjOk P w H h f (LamO f q params body scope cells pm c' ctv) := by
  show ObjOk P w H h f (.ext fun h => h.get? f = some (PySem.W.kla_obj "<lambda>" q params body scope (cloFrom cells scope.names []) pm c' ctv))
  exact ⟨e, ⟨_, e⟩, fun h1 h2 z k => k _ z⟩
theorem lamO_of {P : Program} {w : World} {h : Heap} {f c' : Addr} {q : Str} {params : Arguments} {body : Expr} {scope : Scope} {cells : List (Str × Addr)} {pm ctv : Value} (k : HOk P w H h) (e : H f = some (LamO f q params body scope cells pm c' ctv)) :
    h.get? f = some (PySem.W.kla_obj "<lambda>" q params body scope (cloFrom cells scope.names []) pm c' ctv) := by
  have x : ObjOk P w H h f (.ext fun h => h.get? f = some (PySem.W.kla_obj "<lambda>" q params body scope (cloFrom cells scope.names []) pm c' ctv)) := k f _ e
  exact x.1
theorem lamO_ntb {f c' : Addr} {q : Str} {params : Arguments} {body : Expr} {scope : Scope} {cells : List (Str × Addr)} {pm ctv : Value} (ps : Array Value) : LamO f q params body scope cells pm c' ctv ≠ .tbl ps := fun z => by
  unfold LamO at z
  cases z
/-- what a lambda wishes as a value: its object is known from then on -/
def tLamV (T : List (Addr × Str)) (q : Str) (params : Arguments) (body : Expr) (scope : Scope) (cells : List (Str × Addr)) : TE := fun _ H Q => Tabs T H ∧
  ∀ (f c' : Addr) (pm ctv : Value) (H0 : Hp), ExtN H H0 → Tabs T H0 → H f = none → H0 f = none → H0 c' = some (CodeO c' q) → Q (.ref f) (upd H0 f (LamO f q params body scope cells pm c' ctv))
theorem pe_lamV {T : List (Addr × Str)} {c P : Addr} {params : Arguments} {body : Expr} {scope : Scope} {pos : Pos} (TB : TabB X.base X.mg c P) (hcode : X.env.code = .ref c) (hm : (P, X.env.qual ++ "<lambda>") ∈ T)
    (hu : ∀ p ∈ T, p.1 = P → p.2 = X.env.qual ++ "<lambda>") (hdef : defaultsOf params X.env = ([], [])) (L : LamS X.env.scope scope) : PE X (.Lambda params body scope pos) (tLamV T (X.env.qual ++ "<lambda>") params body scope X.env.cells) := by
  refine ⟨fun pins s σ H Q I ⟨hT, k⟩ => PySem.W.kla_eval hdef ?_⟩
  have free := L.has I.ok
  obtain ⟨ps, tP, tri, known⟩ := hT _ hm
  have gP : s.heap.get? P = some { cls := .none, data := .fields ps } := I.hok P _ tP
  have blt : s.heap.BuiltinsAt X.mg P := TB.bm.keeps I.bk
  have glob := I.mod.glob.keeps I.bk
  cases among : codeAmong pos ps.toList with
  | some cv =>
    obtain ⟨c', rfl, isC⟩ := known pos cv among
    refine PySem.W.kla_makeFunctionHit (mg := X.mg) (c := c) (P := P) (ps := ps) (closure_ok free) I.ok.glob glob hcode (TB.code.keeps I.bk) gP tri among blt fun ctv h' tk old big => ?_
    have J := (I.kept (t' := tk) old).laid (t' := tk) (a := h'.objs.size) (o := LamO h'.objs.size (X.env.qual ++ "<lambda>") params body scope X.env.cells ((X.mg "__name__").getD .none) c' ctv) (fun b o e => Heap.get?_push_of_some _ e) (Nat.le_refl _) (lamO_in (Heap.get?_push_size _ rfl))
    exact ⟨.ref h'.objs.size, _, J, rfl, k _ _ _ _ H (ExtN.refl H) hT (I.hok.fresh big) (I.hok.fresh big) isC⟩
  | none =>
    refine PySem.W.kla_makeFunction (mg := X.mg) (c := c) (P := P) (ps := ps) (closure_ok free) I.ok.glob glob hcode (TB.code.keeps I.bk) gP tri among TB.gP blt fun c' ctv h' tk old low high isR isT => ?_
    obtain ⟨c2, oc, vs, t, ec, g1, g2, g3⟩ := isR
    cases ec
    have big : s.heap.objs.size ≤ h'.objs.size := Nat.le_trans low (Nat.le_of_lt high)
    have none' : H c' = none := I.hok.fresh low
    have J0 := inv_table (t' := tk) (more := #[rawInt pos.line, rawInt pos.col, .ref c']) (h' := h') I tP (fun b o hb e => old b o hb e) isT low ⟨oc, vs, t, g1, g2, g3⟩
    have J := J0.laid (t' := tk) (a := h'.objs.size) (o := LamO h'.objs.size (X.env.qual ++ "<lambda>") params body scope X.env.cells ((X.mg "__name__").getD .none) c' ctv) (fun b o e => Heap.get?_push_of_some _ e) (Nat.le_refl _) (lamO_in (Heap.get?_push_size _ rfl))
    have ext : ExtN H (upd (upd H P (.tbl (ps ++ #[rawInt pos.line, rawInt pos.col, .ref c']))) c' (CodeO c' (X.env.qual ++ "<lambda>"))) := fun b o e n => by
      have b1 : b ≠ c' := ne_of_none e none'
      have b2 : b ≠ P := fun z => n ps (by rw [z, tP] at e; exact (Option.some.inj e).symm)
      rw [upd_ne b1, upd_ne b2]
      exact e
    have sh : (ps ++ #[rawInt pos.line, rawInt pos.col, .ref c']).toList = ps.toList ++ [rawInt pos.line, rawInt pos.col, .ref c'] := by simp
    refine ⟨.ref h'.objs.size, _, J, rfl, k _ c' _ _ _ ext (fun p hp => ?_) (I.hok.fresh big) ?_ upd_same⟩
    · by_cases hb : p.1 = P
      · have hq := hu p hp hb
        rw [hq, hb]
        refine ⟨_, by rw [upd_ne (ne_of_none tP none'), upd_same], by rw [sh]; exact PySem.TriplesOk_snoc _ _ _ _ tri, fun p' cv hcv => ?_⟩
        rw [sh] at hcv
        rcases among_app _ tri hcv with z | z
        · obtain ⟨c0, z1, z2⟩ := known p' cv z
          exact ⟨c0, z1, ext _ _ z2 codeO_ne⟩
        · exact ⟨c', z, upd_same⟩
      · obtain ⟨ps', a1, a2, a3⟩ := hT p hp
        refine ⟨ps', by rw [upd_ne (ne_of_none a1 none'), upd_ne hb]; exact a1, a2, fun p' cv hcv => ?_⟩
        obtain ⟨c0, z1, z2⟩ := a3 p' cv hcv
        exact ⟨c0, z1, ext _ _ z2 codeO_ne⟩
    · exact J0.hok.fresh (Nat.le_refl _)
/-- a comprehension's list, the block's parts told with what holds of the def ahead of it -/
theorem pe_lcI {elt tg iter : Expr} {scope : Scope} {own : List (Str × Nat)} {pos : Pos} {wi : TI} {g : TG} {te : L2.St → TE} (calm : X.calm = true) (nod : X.N.Nodup) (src : PI X tg iter wi) (ok : BlkOk X.N X.env.scope scope own)
    (hg : ∀ (s : Shared) (H : Hp) (C : Addr) (cl : List (Str × Addr)) (fp : List Addr), PG (X.blk s H scope (compEnvC scope cl C X.env) fp) tg g)
    (he : ∀ (pins : List (Addr × Obj)) (σ : L2.St) (s : Shared) (H : Hp) (C : Addr) (cl : List (Str × Addr)) (fp : List Addr), (∀ (pl : List (Addr × Obj)) (σ1 : L2.St) (H1 : Hp) (s1 : Shared), Inv (X.blk s H scope (compEnvC scope cl C X.env) fp) pl σ1 H1 s1 → Inv X pins σ H1 s1) →
      ∀ (pl : List (Addr × Obj)) (s1 : Shared) (σ1 : L2.St) (H1 : Hp) (Q : VK), Inv (X.blk s H scope (compEnvC scope cl C X.env) fp) pl σ1 H1 s1 → te σ σ1 H1 Q →
      wpAny (model X.prog X.w) X.A (eval elt (compEnvC scope cl C X.env)) (fun u s2 => EP (X.blk s H scope (compEnvC scope cl C X.env) fp) pl σ1 Q u s2) (fun _ _ => False) s1)
    (plain : ∀ x, foldedSetIterable iter X.env x = pure x) :
    PE X (.ListComp elt [⟨tg, iter, [], 0⟩] scope pos) (fun σ H Q => wi σ H fun J H1 => ∀ D, H1 D = none → ∃ W : Nat → Nat → Hp → Prop, (∃ m, W 0 m (upd H1 D (.lst []))) ∧ ∀ i m H, W i m H →
      (J.stop i H ∧ Q (.ref D) H) ∨ (J.go i H ∧ ∃ Nx : Hp → Prop, (∀ H', Nx H' → ∃ m', m' < m ∧ W (i + 1) m' H') ∧ ∀ x H', J.yld i H x H' → g x (wipe σ (own.map (·.2))) H' fun σ2 H2 => wipe σ2 (own.map (·.2)) = wipe σ (own.map (·.2)) ∧
        te σ σ2 H2 fun y H4 => ∃ acc, H4 D = some (.lst acc) ∧ acc.length < sizeLine ∧ Nx (upd H4 D (.lst (acc ++ [y]))))) := by
  refine ⟨fun pins s σ H Q I h => ?_⟩
  rw [eval_ListComp]
  have free : ∀ y ∈ scope.names, y.2 = .free → ∃ c, X.env.cells.lookup y.1 = some c := fun y hy e => (ok.free y hy e).elim (fun k => I.ok.has _ (.inl k)) fun k => I.ok.has _ (.inr k)
  refine wpAny_comprehension_free (use := none) rfl plain (closure_ok free) ok.kind (fun y hy e => by rw [ok.uniq y hy, e]) (thn (src.run pins s σ H _ I h) fun xv sA zA => thn zA fun itv sB zB => ?_)
  obtain ⟨it, fp, tn, J, HB, rfl, IB, T, tB, fB, wish⟩ := zB
  refine wpAny_newObj_type (newEnv_comp ?_) (by show 0 ≤ sizeLine; decide)
  obtain ⟨D, eD⟩ : ∃ D, D = sB.heap.objs.size := ⟨_, rfl⟩
  rw [← eD]
  have noD : HB D = none := IB.hok.fresh (Nat.le_of_eq eD.symm)
  obtain ⟨W, ⟨m0, w0⟩, turn⟩ := wish D noD
  obtain ⟨sC, eC⟩ : ∃ sC : Shared, sC = { sB with heap := sB.heap.push { cls := .type "list", data := .seq ([] : List Value).toArray } } := ⟨_, rfl⟩
  have hC : sC.heap = sB.heap.push { cls := .type "list", data := .seq ([] : List Value).toArray } := by rw [eC]
  have IC : Inv X pins σ (upd HB D (.lst [])) sC := by
    subst eC
    exact IB.laid (t' := sB.toks) (fun b o e => Heap.get?_push_of_some _ e) (Nat.le_of_eq eD.symm) ⟨Nat.zero_le _, [], 0, .nil, by subst eD; exact Heap.get?_push_size _ rfl⟩
  have below : ∀ b ∈ fp, b < sB.heap.objs.size := fun b hb => let ⟨_, e, _⟩ := T.obj _ _ tB b hb; Heap.lt_size e
  have fC : ∀ b ∈ fp, FpOk X pins (upd HB D (.lst [])) b ∧ b < sC.heap.objs.size := fun b hb => by
    have lt := below b hb
    refine ⟨⟨?_, (fB b hb).2⟩, by rw [hC, Heap.size_push]; exact Nat.lt_succ_of_lt lt⟩
    have ne : b ≠ D := by subst eD; exact Nat.ne_of_lt lt
    rw [upd_ne ne]
    exact (fB b hb).1
  have tC : tn 0 sC.heap := T.keep _ _ _ tB fun b _ o e => by rw [hC]; exact Heap.get?_push_of_some _ e
  have ID := block_start IC ok nod fC
  obtain ⟨HC, eHC⟩ : ∃ HC, HC = upd HB D (.lst []) := ⟨_, rfl⟩
  rw [← eHC] at IC fC w0 ID
  have pg := hg sC HC sC.heap.objs.size (cellsFrom (sC.heap.objs.size + 1) scope.names (cloFrom X.env.cells scope.names [])) fp
  have pe := he pins σ sC HC sC.heap.objs.size (cellsFrom (sC.heap.objs.size + 1) scope.names (cloFrom X.env.cells scope.names [])) fp fun _ _ _ _ IF => IC.call' (ch := fp) IF.os IF.base IF.hok IF.bare fun b hb => ⟨(fC b hb).1.2.2.2.1, (fC b hb).1.2.1, (fC b hb).1.2.2.2.2.1, (fC b hb).1.2.2.2.2.2⟩
  rw [← eC]
  have gone : ∀ b ∈ fp, HC b = none := fun b hb => (fC b hb).1.1
  show codeAny (model X.prog X.w) X.A (.compStart (.ListComp elt [⟨tg, iter, [], 0⟩] scope pos) 0 (.ref it) (.ref D) (compEnvC scope (cellsFrom (sC.heap.objs.size + 1) scope.names (cloFrom X.env.cells scope.names [])) sC.heap.objs.size X.env))
    (compPost (model X.prog X.w) X.A X.xe none (fun u s' => EP X pins σ Q u s') (.ref D) sC.heap.objs.size) { sC with heap := pushCells (sC.heap.push { cls := .type "dict", data := .dict #[] }) scope.names }
  obtain ⟨ce, ece⟩ : ∃ ce, ce = compEnvC scope (cellsFrom (sC.heap.objs.size + 1) scope.names (cloFrom X.env.cells scope.names [])) sC.heap.objs.size X.env := ⟨_, rfl⟩
  rw [← ece] at ID pg pe ⊢
  have loc : ce.locals = sC.heap.objs.size := by rw [ece]; rfl
  obtain ⟨sD, eD2⟩ : ∃ sD : Shared, sD = { sC with heap := pushCells (sC.heap.push { cls := .type "dict", data := .dict #[] }) scope.names } := ⟨_, rfl⟩
  rw [← eD2] at ID ⊢
  have tD : tn 0 sD.heap := T.keep _ _ _ tC fun b _ o e => by rw [eD2]; exact pushCells_keeps _ _ _ _ (Heap.get?_push_of_some _ e)
  have fps : ∀ {σ' : L2.St} {H' : Hp} {s' : Shared}, Inv (X.blk sC HC scope ce fp) [] σ' H' s' → (∀ b ∈ fp, H' b = none) → ∀ b ∈ fp, FpOk (X.blk sC HC scope ce fp) [] H' b := fun {σ' H' s'} I' hn b hb =>
    ⟨hn b hb, (I'.ok.exf b hb).1, I'.ok.exfs b hb, .inl hb, fun x c e => (I'.ok.exf b hb).2 x c e, fun p hp => absurd (show p ∈ ([] : List (Addr × Obj)) ++ [] from hp) (by simp)⟩
  have round : codeAny (model X.prog X.w) X.A (.compLoop (.ListComp elt [⟨tg, iter, [], 0⟩] scope pos) 0 (.ref it) (.ref D) ce)
      (compPost (model X.prog X.w) X.A X.xe none (fun u s' => EP X pins σ Q u s') (.ref D) sC.heap.objs.size) sD := by
    refine compLoop_any (fun n s' => ∃ i H', Inv (X.blk sC HC scope ce fp) [] (wipe σ (own.map (·.2))) H' s' ∧ tn i s'.heap ∧ (∀ b ∈ fp, H' b = none) ∧ W i n H') ?_ m0 ⟨0, HC, ID, tD, gone, w0⟩
    rintro n sE ⟨i, HE, IE, tE, nE, wE⟩
    rcases turn i n HE wE with ⟨stop, fin⟩ | ⟨go, Nx, down, step⟩
    · refine thnF (T.done (X.blk sC HC scope ce fp) rfl rfl rfl calm i [] sE _ HE (fun _ _ => False) IE (fps IE nE) tE stop) fun r sF ⟨er, IF⟩ => ?_
      subst er
      have back : Inv X pins σ HE sF := IC.call' (ch := fp) IF.os IF.base IF.hok IF.bare fun b hb => ⟨(fC b hb).1.2.2.2.1, (fC b hb).1.2.1, (fC b hb).1.2.2.2.2.1, (fC b hb).1.2.2.2.2.2⟩
      have none0 : HE sC.heap.objs.size = none := by
        have z : HE ce.locals = none := IF.free
        rw [loc] at z; exact z
      obtain ⟨m, ns, _⟩ := IF.loc
      have ns : sF.heap.Ns ce.locals m := ns
      rw [loc] at ns
      obtain ⟨f0, f1, _, f3, f4, f5⟩ := IC.fpOk (Nat.le_refl _) none0
      refine ⟨m, ns, fun h'' sb => ⟨.ref D, HE, back.turned (t' := sF.toks) (fun b o hb e => (sb.2 b hb).trans e) f0 f1 f3 f4 f5, rfl, fin⟩⟩
    · refine thnF (T.item (X.blk sC HC scope ce fp) rfl rfl rfl calm i [] sE _ HE (fun _ _ => False) IE (fps IE nE) tE go) fun r sF ⟨u, er, zF⟩ => ?_
      subst er
      refine thnF zF fun _ sG ⟨x, HG, IG, rG, yG, tG, nG⟩ => ?_
      refine thnF (pg.run _ sG _ HG x u _ (IG.pinned (fps IG nG) (T.obj _ _ tG)) rG (step x HG yG)) fun _ sH ⟨σH, HH, IH, hw, qH⟩ => ?_
      have len : (wipe σ (own.map (·.2))).length = σH.length := by rw [← hw, wipe_length]
      refine thnF ((pts_nil (X := X.blk sC HC scope ce fp)).run _ sH σH HH (fun b H' => b = true ∧ H' = HH) IH ⟨rfl, rfl⟩) fun b sI ⟨HI, II, eb, eHI⟩ => ?_
      subst eb
      rw [eHI] at II
      simp only [if_true]
      refine thnF (pe _ sI σH HH _ II qH) fun z sJ ⟨yv, HJ, IJ, rJ, acc, aD, az, nx⟩ => ?_
      refine app_ok (X := X.blk sC HC scope ce fp) IJ aD az rJ fun sK IK => ?_
      obtain ⟨m', lt, w'⟩ := down _ nx
      have keep : ∀ b ∈ fp, ∀ o, sG.heap.get? b = some o → sK.heap.get? b = some o ∧ (upd HJ D (.lst (acc ++ [yv]))) b = none := fun b hb o e =>
        let z := IK.pin (b, o) (List.mem_append_right _ (List.mem_append_right _ (mem_pinsAt hb e)))
        ⟨z.1, z.2.1⟩
      refine ⟨m', lt, i + 1, _, (IK.unpinned (pins := [])).weak len (fun j v e => by rw [← hw] at e; exact (wipe_some e).1), T.keep _ _ _ tG fun b hb o e => (keep b hb o e).1, fun b hb => ?_, w'⟩
      obtain ⟨o, e, _⟩ := T.obj _ _ tG b hb
      exact (keep b hb o e).2
  exact codeAny_compStart_list round (T.self X.A 0 _ _ _ tD round)
/-- the call of what a telling def was handed, where its object is known -/
theorem pe_handO {Ng : List Str} {qg : Str} {sg : Scope} {g f c' : Addr} {cdg pm ctv : Value} {params : Arguments} {body : Expr} {scope : Scope} {j i : Nat} {a : Str} {pn : List (Addr × Obj)} {xe : Value → Shared → Prop} {W : WX} {E : XK} {tb : TE} {p1 p2 : Pos}
    (I : Inv X pins σ H s) (L : LamS X.env.scope scope)
    (bind : bindArgs (PySem.W.kla_fn "<lambda>" (X.env.qual ++ "<lambda>") params body scope (cloFrom X.env.cells scope.names []) pm (.ref c') ctv) ⟨[], []⟩ = pure [])
    (tk : Takes ((cxOf C8.CX0 X.prog X.w X.K X.mg X.base Ng qg sg g cdg X.A X.stack s H C8.E0).tr pn xe) W) (room : Room j (X.A.deeper (hEnv qg sg s g cdg)))
    (run : ∀ (s1 : Shared) (H1 : Hp), PE (lamCx X (X.A.deeper (hEnv qg sg s g cdg)) (hEnv qg sg s g cdg :: X.stack) s1 H1 E scope f c') body tb)
    (hN : Ng[i]? = some a) (hv : Vis sg a) (h1 : (a == ("__debug__" : Str)) = false) (h2 : (a == ("__classdict__" : Str)) = false) :
    PE ((cxOf C8.CX0 X.prog X.w X.K X.mg X.base Ng qg sg g cdg X.A X.stack s H C8.E0).tr pn xe) (.Call (.Name a p1) [] [] p2) (fun τ HZ Q => τ[i]? = some (some (.ref f)) ∧ HZ f = some (LamO f (X.env.qual ++ "<lambda>") params body scope X.env.cells pm c' ctv) ∧
      HZ c' = some (CodeO c' (X.env.qual ++ "<lambda>")) ∧ (∀ cls d H', E cls d H' → W cls d τ H') ∧ tb σ HZ Q) := by
  refine ⟨fun pins2 s2 τ H2 Q I2 ⟨slot, hfo, hco, hW, ht⟩ => wpAny_Call_Name_kw (thn ((pe_var (pos := p1) (i := i) hN hv h1 h2).run pins2 s2 τ H2 (fun v H3 => v = .ref f ∧ H3 = H2) I2 ⟨.ref f, slot, rfl, rfl⟩) fun u s1 got => ?_)⟩
  obtain ⟨_, H3, I1, ru, rfl, eH⟩ := got
  rw [eH] at I1
  obtain rfl : u = Value.ref f := ru
  have un : Un (frs X.stack) [] H H2 s.heap s1.heap := I1.base
  have lf1 := lamO_of I1.hok hfo
  obtain ⟨⟨oc, vs, tk0, hoc, hdc, hvc⟩, _, _⟩ := I1.hok c' _ hco
  refine PySem.W.callWith_F0 ⟨_, _, _, _, lf1⟩ (wpAny_call (codeAny_mono (R := CR (L2.CX X.prog X.w) (hEnv qg sg s g cdg :: X.stack) X.prog X.w H2 s1 Q E) ?_ fun r s3 hr => ?_))
  · show codeAny (model X.prog X.w) (X.A.deeper (hEnv qg sg s g cdg)) (.call (.ref f) ⟨[], []⟩) _ s1
    refine PySem.W.kla_callFunE room.depth lf1 rfl L.co L.gen rfl ⟨c', oc, vs, tk0, rfl, hoc, hdc, hvc⟩ ?_
    rw [bind]
    refine wpAny_pure (wpAny_newFunctionEnv (fun y hy => (L.own y hy).2) (fun y hy => absurd hy (by simp)) (fun h₁ hns hsb => ⟨I1.nolimit.fresh _ hsb, ?_⟩) L.kind)
    show codeAny _ _ (.expr body (lamEnv X scope s1.heap.objs.size f c')) _ _
    have J := lam_start2 (f := f) (c' := c') (E := E) (tk := s1.toks + ([] : List (Str × Value)).length) I L I1.env0 room.hd un hns fun b o e => hsb.extBut b o (Nat.ne_of_lt (Heap.lt_size e)) (Heap.get?_push_of_some _ e)
    refine PySem.W.kla_codeExpr (wpAny_mono ((run s1 H2).run [] _ _ H2 Q J ht) (fun v s4 hq => ?_) fun _ _ hq => hq)
    exact let ⟨_, _, J4, rv, q⟩ := hq; ⟨_, _, J4.os, J4.bare, J4.base, J4.hok, rv, q⟩
  · cases r with
    | error e => exact tk _ _ (XE.of_call I1 hW hr)
    | ok fl =>
      cases fl with
      | ret u => exact I1.after hr
      | next => exact hr.elim
      | brk => exact hr.elim
      | cont => exact hr.elim
/-- x(z), z a name of a comprehension that holds a lambda of the def, x a telling def -/
theorem told_at {Ng : List Str} {x a fine z : Str} {g f c' : Addr} {cdv pm ctv dV kV doc pmg ct oc : Value} {an od : Option Addr} {osl : Array (Option Value)} {j kc jz : Nat} {pg params : Arguments} {sg lsc scope : Scope} {body : Expr} {h0 : ExceptHandler} {hds : List ExceptHandler} {ls : List Cl} {te : TE} {E : XK}
    {s0 : Shared} {H0 : Hp} {C : Addr} {cl0 : List (Str × Addr)} {fp : List Addr} {pl : List (Addr × Obj)} {σ1 : L2.St} {s1 : Shared} {H1 : Hp} {Q : VK} {p pz pos q1 q2 q3 q4 q5 q6 : Pos}
    (up : ∀ (pl : List (Addr × Obj)) (σ1 : L2.St) (H1 : Hp) (s1 : Shared), Inv (X.blk s0 H0 scope (compEnvC scope cl0 C X.env) fp) pl σ1 H1 s1 → Inv X pins σ H1 s1) (IY : Inv (X.blk s0 H0 scope (compEnvC scope cl0 C X.env) fp) pl σ1 H1 s1)
    (hg : Gl (X.blk s0 H0 scope (compEnvC scope cl0 C X.env) fp) x) (hm : X.mg x = some (.ref g)) (hk : PySem.W.keepIn X.K (.ref g) = true)
    (lk : X.K.lookup g = some ⟨oc, od, .func (PySem.W.fnOf x x pg [.Try [.Expr (.Call (.Name a q1) [] [] q2) q3] (h0 :: hds) [] [] q4, .Return (some (.Constant (.str fine) kc q5)) q6] sg dV kV doc pmg an cdv ct), osl⟩)
    (hcg : PySem.W.codeIn X.K cdv x = true) (hb : L2.Binds X.K (PySem.W.fnOf x x pg [.Try [.Expr (.Call (.Name a q1) [] [] q2) q3] (h0 :: hds) [] [] q4, .Return (some (.Constant (.str fine) kc q5)) q6] sg dV kV doc pmg an cdv ct) [a] []) (Sg : FnScope Ng [a] sg) (hNg : Ng[0]? = some a) (hva : Vis sg a)
    (cl : ∀ (s : Shared) (H : Hp), CLs (cxOf C8.CX0 X.prog X.w X.K X.mg X.base Ng x sg g cdv X.A X.stack s H C8.E0) (h0 :: hds) ls) (room : Room (j + 1) X.A) (L : LamS X.env.scope lsc)
    (hbind : ∀ (q : Str) (cl : List (Str × Addr)) (pm cv ctv : Value), bindArgs (PySem.W.kla_fn "<lambda>" q params body lsc cl pm cv ctv) ⟨[], []⟩ = pure [])
    (run : ∀ (s : Shared) (s1 : Shared) (H1 : Hp), PE (lamCx X (X.A.deeper (hEnv x sg s g cdv)) (hEnv x sg s g cdv :: X.stack) s1 H1 E lsc f c') body te)
    (hNz : X.N[jz]? = some z) (hvz : Vis (compEnvC scope cl0 C X.env).scope z) (hz : σ1[jz]? = some (some (.ref f))) (hfo : H1 f = some (LamO f (X.env.qual ++ "<lambda>") params body lsc X.env.cells pm c' ctv)) (hco : H1 c' = some (CodeO c' (X.env.qual ++ "<lambda>")))
    (ht : te σ H1 (fun _ H2 => Q (.str fine) H2)) (hx : ∀ cls d H2 (D : Ends), D.rt = Q → E cls d H2 → wCl X.K (fun _ _ _ _ => False) D ls cls d (L2.start Ng [.ref f]) H2)
    (d1 : (x == ("__debug__" : Str)) = false) (d2 : (a == ("__debug__" : Str)) = false) (d3 : (a == ("__classdict__" : Str)) = false) (d4 : (z == ("__debug__" : Str)) = false) (d5 : (z == ("__classdict__" : Str)) = false) :
    wpAny (model X.prog X.w) X.A (eval (.Call (.Name x p) [.Name z pz] [] pos) (compEnvC scope cl0 C X.env)) (fun u s2 => EP (X.blk s0 H0 scope (compEnvC scope cl0 C X.env) fp) pl σ1 Q u s2) (fun _ _ => False) s1 := by
  refine wpAny_Call_Name_kw (ld_glob IY hg hm (PySem.W.callWith_K (h₀ := X.base) IY.ok.mod.kin hk ?_ (by rfl) (by rfl)) d1)
  show wpAny _ _ (spliced ((false, eval (.Name z pz) (compEnvC scope cl0 C X.env)) :: backTo pos (starEach [] (compEnvC scope cl0 C X.env)))) _ _ s1
  refine Calls.spliced_cons (thn ((pe_var (X := X.blk s0 H0 scope (compEnvC scope cl0 C X.env) fp) (pos := pz) (i := jz) hNz hvz d4 d5).run pl s1 σ1 H1 (fun v H3 => v = .ref f ∧ H3 = H1) IY ⟨.ref f, hz, rfl, rfl⟩) fun u s' got => Calls.spliced_nil ?_)
  obtain ⟨_, H3, I1, ru, rfl, eH⟩ := got
  rw [eH] at I1
  obtain rfl : u = Value.ref f := ru
  have IX := up _ _ _ _ I1
  refine ⟨I1.kIn, ?_⟩
  refine wpAny_call (codeAny_mono (R := CR C8.CX0 X.stack X.prog X.w H1 s' Q C8.E0) ?_ fun r s2 hq => ?_)
  · refine run_ofS (N := Ng) (ps := [a]) (us := [.ref f]) (vs := [.ref f]) lk hcg Sg room IX.env0 (hb s' [.ref f] I1.kIn rfl) (.cons rfl .nil) rfl fun room2 => ?_
    have s00 : (L2.start Ng [V.ref f])[0]? = some (some (V.ref f)) := by
      simp [L2.start]
    refine ⟨_, (pss_cons (ps_try_cl (Wo := fun _ _ _ _ => False) (tb := fun W D τ H2 => τ[0]? = some (some (.ref f)) ∧ H2 f = some (LamO f (X.env.qual ++ "<lambda>") params body lsc X.env.cells pm c' ctv) ∧ H2 c' = some (CodeO c' (X.env.qual ++ "<lambda>")) ∧ (∀ cls d H', E cls d H' → W cls d τ H') ∧ te σ H2 fun _ H3 => D.nx τ H3) rfl rfl Sg.nd takes0 (fun W pn xe tk _ => ?_) (cl s' H1))
      (pss_one (ps_ret (pos := q6) pe_str))), ?_⟩
    · exact pss_one (ps_expr (pos := q3) (pe_handO (i := 0) (E := E) (tb := te) IX L (hbind _ _ _ _ _) tk room2 (fun s1 H1 => run s' s1 H1) hNg hva d2 d3 (p1 := q1) (p2 := q2)))
    · exact ⟨s00, hfo, hco, fun cls d H' q => hx cls d H' _ rfl q, ht⟩
  · cases r with
    | error e => exact (show False from hq).elim
    | ok fl =>
      cases fl with
      | ret u => exact I1.after hq
      | next => exact hq.elim
      | brk => exact hq.elim
      | cont => exact hq.elim
end
end EV

set_option Elab.async false
set_option linter.all false
set_option maxRecDepth 100000
set_option maxHeartbeats 4000000
/-! EV, part 5: exception objects as values: made, looked at, read; texts parted. -/
namespace EV
open PySem PySem.Spec PyProof.Rows L2
theorem kit_of_exm {K : PySem.W.Frag} {t c : Value} {b : Bool} (h : PySem.W.exmOne K t c = some b) : PySem.W.kitCls K t c = some b := by
  unfold PySem.W.exmOne at h
  split at h
  · exact h
  · cases h
theorem lookup_mem {α β : Type} [BEq α] [LawfulBEq α] : ∀ {l : List (α × β)} {a : α} {b : β}, l.lookup a = some b → (a, b) ∈ l
  | [], _, _, h => by cases h
  | (x, y) :: r, a, b, h => by
    rw [List.lookup_cons] at h
    split at h
    · rename_i q
      have q' := beq_iff_eq.mp q
      cases h
      subst q'
      exact List.mem_cons_self ..
    · exact List.mem_cons_of_mem _ (lookup_mem h)
theorem kit_ref {K : PySem.W.Frag} {t : Value} {C : Addr} {b : Bool} (h : PySem.W.kitCls K t (.ref C) = some b) : PySem.W.subIn K t (.ref C) = some b := by
  have h' : (if ((PySem.W.clsIn K C).isSome && PySem.W.typeIn K (.ref C) == some (.type "type")) = true then PySem.W.subIn K t (.ref C) else none) = some b := h
  split at h'
  · exact h'
  · cases h'
theorem kit_type {K : PySem.W.Frag} {t : Value} {T : String} (h : PySem.W.kitMeta T = true) : PySem.W.kitCls K t (.type T) = PySem.W.subIn K t (.type T) := by
  show (if PySem.W.kitMeta T = true then PySem.W.subIn K t (.type T) else none) = _
  rw [if_pos h]
theorem ex_meta : ∀ p ∈ exNms, PySem.W.kitMeta p.1 = true := by decide +kernel
section
variable {K : PySem.W.Frag} {ad : Adr} {XR : Xc → Value → Option Addr → Hp → Hp → Prop} {Wi : Wz} {W : Wd} {C : Cal} {σ : L2.St} {H H1 : Hp} {s : Slots} {L : List Addr} {m m1 : Sto} {F F0 F1 : Hp}
variable {X : Cx} {N : List Str} {sc : Scope} {lv : Nat} {n : Wn} {pos p2 : Pos} {e a b c : Ex} {e' : Expr}
/-- the object of an error that is held -/
theorem inst0 {pins : List (Addr × Obj)} {s : Shared} {a C : Addr} (I : L2.Inv X pins σ H s) (e : H a = some (ExO (.ref C) a)) : ∃ ox, PySem.W.InstAt s.heap a ox C none := by
  obtain ⟨⟨oe, vs, ho, hz, hd, _, _, _⟩, _, _⟩ := I.hok a _ e
  exact ⟨oe, ho, hz.1, by unfold PySem.W.notCls; rw [hd] <;> rfl, by rw [hz.2]; trivial⟩
theorem inst1 {pins : List (Addr × Obj)} {s : Shared} {a dx C : Addr} {fs : List (Str × V)} (I : L2.Inv X pins σ H s) (e : H a = some (ErO C dx a)) (e2 : H dx = some (.xd fs)) :
    ∃ ox od, PySem.W.InstAt s.heap a ox C (some od) ∧ ∀ (f : Str) (v : V), fs.lookup f = some v → ∃ u, PySem.W.lookIn f od = some (some u) ∧ RelV v u := by
  obtain ⟨⟨oe, ho, h1, h2, vs, hd⟩, _, _⟩ := I.hok a _ e
  obtain ⟨mA, hns, hr⟩ := I.hok dx _ e2
  obtain ⟨od, hod, hl⟩ := lookIn_ns hns
  refine ⟨oe, od, ⟨ho, h1, by unfold PySem.W.notCls; rw [hd] <;> rfl, by rw [h2]; exact hod⟩, fun f v l => ?_⟩
  obtain ⟨u, hu, ru⟩ := RelO.some_of (v := v) (o := mA f) (by rw [← l]; exact hr f)
  exact ⟨u, by rw [hl, hu], ru⟩
/-- isinstance(e, c), e an error that is held, of the class at C -/
def rIsX (K : PySem.W.Frag) (cv : Value) (C : Addr) (ans : Bool) : List V → Hp → VK → Prop := fun xs H Q => ∃ (a : Addr) (c : V), xs = [.ref a, c] ∧ (H a = some (ExO (.ref C) a) ∨ ∃ dx fs, H a = some (ErO C dx a) ∧ H dx = some (.xd fs)) ∧ (∀ u, RelV c u → u = cv) ∧ Q (.bl ans) H
theorem call_isX {D : Addr} {cv : Value} {ans : Bool} (C : ExcC X.K D) (hcl : (PySem.W.clsIn X.K D).isSome = true) (hk : PySem.W.kitOne X.K (.ref D) cv = some ans) : CallR X (.builtin "isinstance") (rIsX X.K cv D ans) := by
  intro pins s σ H xs us Q I r h
  obtain ⟨a, c, rfl, ha, hcv, q⟩ := h
  cases r with
  | cons rx rr =>
    cases rr with
    | cons rt rr =>
      cases rr
      cases rx
      have ec := hcv _ rt
      subst ec
      have fin : ∀ tk : Nat, EP X pins σ Q (.bool ans) { s with toks := tk } := fun tk => ⟨.bl ans, H, I.kept (t' := tk) fun _ _ z => z, rfl, q⟩
      rcases ha with ha | ⟨dx, fs, ha, hx⟩
      · obtain ⟨ox, J⟩ := inst0 I ha
        exact PySem.W.kia_one (PySem.W.kitx_exc hcl C.hg C.hk C.hs C.ha C.hn C.ht C.hm) I.kIn J hk (fun z => nomatch z) fin
      · obtain ⟨ox, od, J, _⟩ := inst1 I ha hx
        exact PySem.W.kia_one (PySem.W.kitx_exc hcl C.hg C.hk C.hs C.ha C.hn C.ht C.hm) I.kIn J hk (fun z => nomatch z) fin
/-- C(e), as a value -/
theorem pe_mkI {x : Str} {k : Nat} {kx : Xk} {fp : List FP} {te : TE} {p : Pos} (xf : ExcF X.K ad X.prog X.mg k kx) (hfp : kx.fp = some fp) (hx : kx.g = x) (hgl : Gl X x) (hok : okNm x = true) (hgd : X.A.guards = some []) (hr : Room 0 X.A) (he : PE X e' te) (hst : starB e' = false) :
    PE X (.Call (.Name x p) [e'] [] pos) (fun σ H Q => te σ H fun v H1 => ∃ F d, Sub F H1 ∧ Lk X.K ad F H1 v d ∧ fpsOk (reprD d) (plainD d) Str.empty fp = true ∧ ∀ dx ea, H1 dx = none → H1 ea = none → ea ≠ dx → Q (.ref ea) (upd (upd H1 dx (.xd [(kx.fld, v)])) ea (ErO (ad.ex k) dx ea))) := by
  subst hx
  refine ⟨fun pins s σ H Q I h => ?_⟩
  obtain ⟨O, B, newId, initId, bmB, fI, cc, cda, x0, x1, name, qual, params, body, scope, dV, kV, doc, pm, ct, oc, ccl, cl, an, od, cdd, cld, osl, ccs, csl, vs, file, tf, cdD, ar, FB, SF, KF, TK, lk, hcd, hcode, hvs, hfile, hcell, hcls, hbody, hsc, har, har2, hbind, htop, _, _⟩ := xf.ini fp hfp
  refine wpAny_Call_Name_kw (ld_glob I hgl xf.mg (PySem.W.callWith_K (h₀ := X.base) I.ok.mod.kin xf.kp (thn ((pa_cons he pa_nil (star_each hst _ _)).run pos pins s σ H _ I (show tCons te tNil σ H (fun vs H1 => match vs with
    | [v] => ∃ F d, Sub F H1 ∧ Lk X.K ad F H1 v d ∧ fpsOk (reprD d) (plainD d) Str.empty fp = true ∧ ∀ dx ea, H1 dx = none → H1 ea = none → ea ≠ dx → Q (.ref ea) (upd (upd H1 dx (.xd [(kx.fld, v)])) ea (ErO (ad.ex k) dx ea))
    | _ => False) from h)) fun us s1 hh => ?_) (star_each hst _ _) (star_any (by simp [hst]) _ _)) (okNm_of hok).1)
  obtain ⟨vs', H1, I1, r1, q⟩ := hh
  match vs', r1, q with
  | [v], r1, q =>
    obtain ⟨u, rfl, ru⟩ := vals1 r1
    obtain ⟨F, d, sub, l, hfo, q⟩ := q
    refine ⟨I1.kIn, ?_⟩
    obtain ⟨mb, hmb, hbt⟩ := I1.mod.blt
    have nol := I1.nolimit
    have fresh : ∀ b, s1.heap.objs.size ≤ b → H1 b = none := fun b z => I1.hok.fresh z
    have sh := fun env : Env => shows_d (ad := ad) (A := (X.A.under (.builtin "type.__call__" ⟨[.ref (ad.ex k), u], []⟩)).deeper env) I1 sub l ru (by first | exact hgd | (simp [Around.under, Around.deeper, Code.weight, Code.isCreation, Code.isGuard, Code.isCaller, Code.frames, Code.isFrame, guardIds]; exact hgd))
      (by
        have e1 : ((X.A.under (.builtin "type.__call__" ⟨[.ref (ad.ex k), u], []⟩)).deeper env).units = (X.A.under (.builtin "type.__call__" ⟨[.ref (ad.ex k), u], []⟩)).units + 3 := rfl
        rw [e1, make_units]
        have := hr.un
        omega)
    have hmg := I1.mod.glob.keeps I1.bk
    have hmb' := hmb.keeps I1.bk
    have kin := I1.kIn
    obtain ⟨hp, g, dr, tk, os⟩ := s1
    refine ini_call FB SF KF TK kin lk hcd hcode hvs hfile hcell hcls hbody hsc har har2 hbind htop (by have := hr.dp; omega) hmg hmb' hbt nol hfo sh fun ea t1 dx h' tk' kh ge gd ne e1 e2 => ?_
    have k2 : ∀ b o, hp.get? b = some o → (PySem.W.hideAll h' [ea]).get? b = some o := fun b o z => PySem.W.hideAll_get _ (kh b o z) (fun w => by
      have lt : @LT.lt Nat _ b hp.objs.size := Heap.lt_size z
      have w' : @Eq Nat b ea := List.mem_singleton.mp w
      have ge' : @LE.le Nat _ hp.objs.size ea := ge
      omega)
    have hns : (PySem.W.hideAll h' [ea]).Ns1 dx (fun y => if y = kx.fld then some u else none) := e2.at fun o z => PySem.W.hideAll_get _ z (fun w => ne (List.mem_singleton.mp w))
    have J := I1.laid (t' := tk') (a := dx) (o := .xd [(kx.fld, v)]) (h' := PySem.W.hideAll h' [ea]) k2 gd ⟨_, hns, relO_put (fs := []) ru fun _ => True.intro⟩
    have hen : (upd H1 dx (.xd [(kx.fld, v)])) ea = none := by
      rw [upd_ne (Ne.symm ne)]
      exact fresh ea ge
    refine ⟨.ref ea, _, J.laidN (h' := h') (a := ea) (o := ErO (ad.ex k) dx ea) (t' := tk') (fun b o z => PySem.W.of_hideAll _ z) (PySem.W.hideAll_none _ (by simp)) hen ?_, rfl, q dx ea (fresh dx gd) (fresh ea ge) (Ne.symm ne)⟩
    exact ⟨⟨_, e1, rfl, rfl, _, rfl⟩, ⟨_, e1⟩, fun h1 h2 ⟨o, z1, z2⟩ kk => ⟨o, kk o z1, z2⟩⟩
  | [], r1, q => exact q.elim
  | _ :: _ :: _, r1, q => exact q.elim
theorem GO.cls (G : GO X.K ad XR W C X.prog X.w X.mg X.base n lv) {k : Nat} {x : Str} (h : n.xg[k]? = some x) : ∃ kx, W.xk[k]? = some kx ∧ kx.g = x ∧ ExcF X.K ad X.prog X.mg k kx := by
  rw [G.xgn, List.getElem?_map] at h
  obtain ⟨kx, e, rfl⟩ := Option.map_eq_some_iff.mp h
  exact ⟨kx, e, rfl, G.exc k kx e⟩
theorem pf_mk0 {k : Nat} {x : Str} {p : Pos} (G : GO X.K ad XR W C X.prog X.w X.mg X.base n lv) (hk : n.xg[k]? = some x) (hgl : Gl X x) (hok : okNm x = true) (he : PE X e' (tE X.K ad XR Wi W C e)) (hst : starB e' = false) :
    PE X (.Call (.Name x p) [e'] [] pos) (tE X.K ad XR Wi W C (.mk0 k e)) := by
  obtain ⟨kx, ek, rfl, xf⟩ := G.cls hk
  by_cases hp : kx.fp = none
  · obtain ⟨B, newId, initId, bmB, FB, q⟩ := xf.pl hp
    refine (pe_exc1 FB q xf.mg xf.kp hgl he (star_each hst _ _) (okNm_of hok).1).imp fun σ H Q h => ?_
    obtain ⟨s, L, m, F, hs, hm, h⟩ := h
    simp only [ev] at h
    refine (tE_bind hs hm h).mono fun y H1 ⟨v, m1, F1, b1, r1⟩ a ha => ?_
    have hh := b1.hold
    split at hh
    · exact (hh.fin b1.sto) _ _ _ (.new b1.sto.sub ha (by intro _ z; cases z)) (.er0 upd_same)
    · exact hh.elim
  · refine ⟨fun pins s0 σ H Q I h => ?_⟩
    obtain ⟨s, L, m, F, hs, hm, h⟩ := h
    simp only [ev] at h
    have pb : plainB W k = false := by
      unfold plainB
      rw [ek]
      dsimp only
      cases q : kx.fp with
      | none => exact absurd q hp
      | some _ => rfl
    refine wpAny_Call_Name_kw (ld_glob I hgl xf.mg (PySem.W.callWith_K (h₀ := X.base) I.ok.mod.kin xf.kp (thn ((pa_cons he pa_nil (star_each hst _ _)).run pos pins s0 σ H (fun _ _ => False) I ?_) fun us s1 hh => ?_) (star_each hst _ _) (star_any (by simp [hst]) _ _)) (okNm_of hok).1)
    · refine (tE_bind hs hm h).mono fun y H1 ⟨v, m1, F1, b1, r1⟩ => ?_
      have hh := b1.hold
      rw [pb, if_neg Bool.false_ne_true] at hh
      exact hh.elim
    · obtain ⟨_, _, _, _, z⟩ := hh
      exact z.elim
theorem pf_mk1 {k : Nat} {x : Str} {p : Pos} (G : GO X.K ad XR W C X.prog X.w X.mg X.base n lv) (S : XO ad n X N sc Wi lv) (hk : n.xg[k]? = some x) (hgl : Gl X x) (hok : okNm x = true) (he : PE X e' (tE X.K ad XR Wi W C e)) (hst : starB e' = false) :
    PE X (.Call (.Name x p) [e'] [] pos) (tE X.K ad XR Wi W C (.mk1 k e)) := by
  obtain ⟨kx, ek, rfl, xf⟩ := G.cls hk
  have hr : Room 0 X.A := ⟨S.room.hd, by have := S.room.dp; omega, by have := S.room.un; omega⟩
  cases hp : kx.fp with
  | some fp =>
    refine (pe_mkI (ad := ad) xf hp rfl hgl hok S.grd hr he hst).imp fun σ H Q h => ?_
    obtain ⟨s, L, m, F, hs, hm, h⟩ := h
    simp only [ev] at h
    refine (tE_bind hs hm h).mono fun y H1 ⟨v, m1, F1, b1, r1⟩ => ?_
    have hh := b1.hold
    rw [ek] at hh
    cases v with
    | loc _ => exact hh.elim
    | fns _ => exact hh.elim
    | dat d =>
      dsimp only at hh
      split at hh
      case isFalse => exact hh.elim
      case isTrue kb =>
      have kb' : fpsOk (reprD d) (plainD d) Str.empty fp = true := by
        unfold keepB at kb
        rw [ek] at kb
        dsimp only at kb
        rw [hp] at kb
        exact kb
      have r1' : Rp X.K ad F1 y d := r1
      refine ⟨F1, d, b1.sto.sub, Rp.lk b1.sto.sub r1', kb', fun dx ea h1 h2 ne => ?_⟩
      have g1 : Grow F1 H1 (upd F1 dx (.xd [(kx.fld, y)])) (upd H1 dx (.xd [(kx.fld, y)])) := .new b1.sto.sub h1
      have g2 := g1.trans (Grow.new (p := ea) (o := ErO (ad.ex k) dx ea) g1.low (by rw [upd_ne ne]; exact h2) (by intro _ z; cases z))
      exact (hh.fin b1.sto) _ _ _ g2 (.er1 upd_same (by rw [upd_ne (Ne.symm ne)]; exact upd_same) (r1'.mono g2.sub))
  | none =>
    refine ⟨fun pins s0 σ H Q I h => ?_⟩
    obtain ⟨s, L, m, F, hs, hm, h⟩ := h
    simp only [ev] at h
    refine wpAny_Call_Name_kw (ld_glob I hgl xf.mg (PySem.W.callWith_K (h₀ := X.base) I.ok.mod.kin xf.kp (thn ((pa_cons he pa_nil (star_each hst _ _)).run pos pins s0 σ H (fun _ _ => False) I ?_) fun us s1 hh => ?_) (star_each hst _ _) (star_any (by simp [hst]) _ _)) (okNm_of hok).1)
    · refine (tE_bind hs hm h).mono fun y H1 ⟨v, m1, F1, b1, r1⟩ => ?_
      have hh := b1.hold
      rw [ek] at hh
      cases v with
      | loc _ => exact hh.elim
      | fns _ => exact hh.elim
      | dat d =>
        dsimp only at hh
        have kb : keepB W k d = false := by
          unfold keepB
          rw [ek]
          dsimp only
          rw [hp]
        rw [kb, if_neg Bool.false_ne_true] at hh
        exact hh.elim
    · obtain ⟨_, _, _, _, z⟩ := hh
      exact z.elim
theorem pf_att {f : Str} (G : GO X.K ad XR W C X.prog X.w X.mg X.base n lv) (hb : baseB e' = true) (he : PE X e' (tE X.K ad XR Wi W C e)) : PE X (.Attribute e' f pos) (tE X.K ad XR Wi W C (.att e f)) := by
  refine ⟨fun pins s0 σ H Q I h => ?_⟩
  obtain ⟨s, L, m, F, hs, hm, h⟩ := h
  simp only [ev] at h
  refine attr_of (base_of hb f X.env) (thn (he.run pins s0 σ H _ I (tE_bind hs hm h)) fun u s1 hh => ?_)
  obtain ⟨y, H1, I1, rx, v, m1, F1, b1, r1⟩ := hh
  have hh := b1.hold
  split at hh
  case h_2 => exact hh.elim
  case h_1 k g d =>
  split at hh
  case h_2 => exact hh.elim
  case h_1 kx ek =>
  split at hh
  case isFalse => exact hh.elim
  case isTrue hf =>
  simp only [Bool.and_eq_true, decide_eq_true_eq] at hf
  obtain ⟨⟨rfl, hf⟩, hfp⟩ := hf
  have r1' : Rp X.K ad F1 y (.er1 k f d) := r1
  cases r1' with
  | @er1 a dx _ _ w _ e1 e2 r2 =>
    cases rx
    have xf := G.exc k kx ek
    cases hp : kx.fp with
    | none =>
      rw [hp] at hfp
      cases hfp
    | some fp =>
      obtain ⟨_, _, _, _, _, _, _, _, _, _, _, _, _, _, _, _, _, _, _, _, _, _, _, _, _, _, _, _, _, _, _, _, _, _, _, _, _, _, _, _, _, _, _, _, _, _, _, _, _, _, _, _, xfc, xno⟩ := xf.ini fp hp
      obtain ⟨ox, od, J, hl⟩ := inst1 I1 (b1.sto.sub _ _ e1) (b1.sto.sub _ _ e2)
      obtain ⟨u, l1, ru⟩ := hl f w (by simp [List.lookup])
      rw [hf] at xno
      exact HandSPX.exc_get I1.kIn J xfc.ga xfc.gg xfc.exC (PySem.W.findObj_own xfc.hdC xno rfl l1) (handed_of ru) ⟨w, H1, I1.tok _, ru, hh.now b1.sto (.refl b1.sto.sub) r2⟩
theorem excf_cls {k : Nat} {kx : Xk} (xf : ExcF X.K ad X.prog X.mg k kx) : (PySem.W.clsIn X.K (ad.ex k)).isSome = true := by
  obtain ⟨cd, hc, _⟩ := PySem.W.any_some xf.ec.hd
  rw [hc]; rfl
theorem pf_isG {cv : Value} {y : Str} {w0 : V} {p p3 : Pos} {xi : Str} {ex : Ex} (f : Nat → Option Bool) (hx : xi = ("isinstance" : Str)) (hm : X.mg xi = none) (hg : Gl X xi) (hst : starB e' = false)
    (G : GO X.K ad XR W C X.prog X.w X.mg X.base n lv) (hy : PE X (.Name y p3) (tC w0)) (hw : ∀ u, RelV w0 u → u = cv) (he : PE X e' (tE X.K ad XR Wi W C e))
    (hf : ∀ (k : Nat) (ans : Bool), f k = some ans → ∃ kx, W.xk[k]? = some kx ∧ PySem.W.kitOne X.K (.ref (ad.ex k)) cv = some ans)
    (hev : ∀ s m, ev W C ex s m = (ev W C e s m).bind fun v m => isK v f m) :
    PE X (.Call (.Name xi p) [e', .Name y p3] [] pos) (tE X.K ad XR Wi W C ex) := by
  subst hx
  have rule : CallR X (.builtin "isinstance") (fun xs H Q => ∃ (k : Nat) (ans : Bool), f k = some ans ∧ rIsX X.K cv (ad.ex k) ans xs H Q) := by
    intro pins s σ H xs us Q I r ⟨k, ans, e1, h⟩
    obtain ⟨kx, e2, e3⟩ := hf k ans e1
    have xf := G.exc k kx e2
    exact call_isX xf.ec (excf_cls xf) e3 pins s σ H xs us Q I r h
  refine (pe_callB rule hg hm isi_boot (pa_cons he (pa_cons hy pa_nil) (star_each hst _ _)) (by decide) (by decide) (star_each hst _ _) rfl).imp fun σ H Q h => ?_
  obtain ⟨s, L, m, F, hs, hm, h⟩ := h
  rw [hev] at h
  refine (tE_bind hs hm h).mono fun x H1 ⟨v, m1, F1, b1, r1⟩ => ?_
  have hh := b1.hold
  unfold isK at hh
  split at hh
  case h_3 => exact hh.elim
  case h_1 k =>
    split at hh
    case h_2 => exact hh.elim
    case h_1 ans ea =>
    have r1' : Rp X.K ad F1 x (.er0 k) := r1
    cases r1' with
    | er0 e1 => exact ⟨k, ans, ea, _, w0, rfl, .inl (b1.sto.sub _ _ e1), hw, (hh.fin b1.sto).bl b1.sto.sub⟩
  case h_2 k f' d' =>
    split at hh
    case h_2 => exact hh.elim
    case h_1 ans ea =>
    have r1' : Rp X.K ad F1 x (.er1 k f' d') := r1
    cases r1' with
    | er1 e1 e2 r2 => exact ⟨k, ans, ea, _, w0, rfl, .inr ⟨_, _, b1.sto.sub _ _ e1, b1.sto.sub _ _ e2⟩, hw, (hh.fin b1.sto).bl b1.sto.sub⟩
theorem pf_isx {c : Nat} {y xi : Str} {p p3 : Pos} (hx : xi = ("isinstance" : Str)) (hm : X.mg xi = none) (hg : Gl X xi) (hst : starB e' = false) (G : GO X.K ad XR W C X.prog X.w X.mg X.base n lv) (hk : n.xg[c]? = some y) (hgl : Gl X y) (hok : okNm y = true) (he : PE X e' (tE X.K ad XR Wi W C e)) :
    PE X (.Call (.Name xi p) [e', .Name y p3] [] pos) (tE X.K ad XR Wi W C (.isx e c)) := by
  obtain ⟨kc, ec, rfl, xc⟩ := G.cls hk
  refine pf_isG (cv := .ref (ad.ex c)) (w0 := .ref (ad.ex c)) (clsB W c) hx hm hg hst G (pe_glob hgl xc.mg rfl (okNm_of hok).1) (fun u r => r) he (fun k ans ha => ?_) (fun s m => by simp only [ev])
  · unfold clsB at ha
    split at ha
    case isFalse => cases ha
    case isTrue hl =>
    cases ha
    simp only [Bool.and_eq_true, decide_eq_true_eq] at hl
    obtain ⟨kx, ek⟩ : ∃ kx, W.xk[k]? = some kx := ⟨_, List.getElem?_eq_getElem hl.1⟩
    have e1 := G.exm k c hl.1 hl.2
    refine ⟨kx, ek, ?_⟩
    unfold PySem.W.kitOne
    by_cases q : ad.ex k = ad.ex c
    · rw [if_pos (by rw [q]; exact beq_self_eq_true _)]
      have e2 := kit_ref (kit_of_exm e1)
      have xf := (G.exc k kx ek).self
      rw [q] at e2 xf
      rw [xf] at e2
      exact e2
    · rw [if_neg (by simpa using q)]
      exact kit_of_exm e1
theorem pf_isb {t : String} {y xi : Str} {p p3 : Pos} (hx : xi = ("isinstance" : Str)) (hm : X.mg xi = none) (hg : Gl X xi) (hst : starB e' = false) (G : GO X.K ad XR W C X.prog X.w X.mg X.base n lv) (hty : exNms.contains (t, y) = true) (hmy : X.mg y = none) (hgl : Gl X y) (he : PE X e' (tE X.K ad XR Wi W C e)) :
    PE X (.Call (.Name xi p) [e', .Name y p3] [] pos) (tE X.K ad XR Wi W C (.isb e t)) := by
  have mem : (t, y) ∈ exNms := by simpa using hty
  obtain ⟨q1, q2⟩ := ex_boot (t, y) mem
  obtain ⟨h1, _, h3⟩ := okNm_of q2
  refine pf_isG (cv := .type t) (w0 := .ty t) (bltB W t) hx hm hg hst G (pe_bltn hgl hmy q1 rfl h3 h1) (fun u r => r) he (fun k ans ha => ?_) (fun s m => by simp only [ev])
  · obtain ⟨kx, ek, el⟩ := Option.bind_eq_some_iff.mp ha
    refine ⟨kx, ek, ?_⟩
    have bt := (G.exc k kx ek).bt (t, ans) (lookup_mem el)
    unfold PySem.W.kitOne
    rw [if_neg (by simp)]
    rw [kit_type (ex_meta (t, y) mem)]
    exact bt
theorem splS_eq {x y : Str} (h : sepOk y = true) : Txt.split x y = splS x y := by
  simp only [sepOk, Bool.and_eq_true, decide_eq_true_eq] at h
  obtain ⟨h1, h2⟩ := h
  have hy : TL.tl y ≠ [] := fun z => by
    have : y.length = 0 := by
      obtain ⟨⟨l⟩⟩ := y
      have z' : l = [] := z
      subst z'
      rfl
    omega
  have hk : ¬ Builtin.Str.strKind x < Builtin.Str.strKind y := TL.kind_ok (by
    rw [Array.all_eq_true] at h2 ⊢
    intro i hi
    have := h2 i hi
    simp only [decide_eq_true_eq] at this ⊢
    omega)
  have e := TL.split_spl x y hy hk
  unfold splS
  have e' : TL.spl y.cps.toList 0 [] x.cps.toList = (Txt.split x y).map TL.tl := e.symm
  rw [e', List.map_map]
  have q : ∀ l : List Str, l = l.map ((fun l => (⟨l.toArray⟩ : Str)) ∘ TL.tl) := fun l => by
    induction l with
    | nil => rfl
    | cons z r ih =>
      rw [List.map_cons, ← ih]
      obtain ⟨⟨z⟩⟩ := z
      rfl
  exact q _
theorem pf_spl {y : Str} {k : Nat} {ap cp p3 : Pos} (hb : baseB e' = true) (hl : (ap.endLine == cp.line) = true) (he : PE X e' (tE X.K ad XR Wi W C e)) :
    PE X (.Call (.Attribute e' "split" ap) [.Constant (.str y) k p3] [] cp) (tE X.K ad XR Wi W C (.spl e y)) := by
  refine (pe_split he pe_str rfl (base_of hb _ _) hl).imp fun σ H Q h => ?_
  obtain ⟨s, L, m, F, hs, hm, h⟩ := h
  simp only [ev] at h
  refine (tE_bind hs hm h).mono fun z H1 ⟨v, m1, F1, b1, r1⟩ => ?_
  have hh := b1.hold
  split at hh
  case h_2 => exact hh.elim
  case h_1 x =>
  split at hh
  case isFalse => exact hh.elim
  case isTrue hz =>
  simp only [Bool.and_eq_true, decide_eq_true_eq] at hz
  have r1' : Rp X.K ad F1 z (.str x) := r1
  cases r1'
  have hy1 : (y.length == 0) = false := by
    have := hz.1
    simp only [sepOk, Bool.and_eq_true, decide_eq_true_eq] at this
    rw [this.1]; rfl
  refine ⟨⟨x, rfl⟩, x, y, rfl, rfl, hy1, by rw [sizeLine_eq]; omega, fun p hp => ?_⟩
  rw [splS_eq hz.1]
  exact (hh.fin b1.sto).lst b1.sto.sub (rpa_strs F1 _) p hp
end
end EV

set_option Elab.async false
set_option linter.all false
set_option maxRecDepth 100000
set_option maxHeartbeats 4000000
/-! EV, part J: all expressions at once. -/
namespace EV
open PySem PySem.Spec PyProof.Rows L2
section
variable {ad : Adr} {XR : Xc → Value → Option Addr → Hp → Hp → Prop} {W : Wd} {C : Cal} {n : Wn} {N : List Str} {lv : Nat}
theorem XO.blk {X : Cx} {sc : Scope} {Wi : Wz} (S : XO ad n X N sc Wi lv) (hm : n.lm = true → makerB sc = true) (s : Shared) (H : Hp) (scope : Scope) (C0 : Addr) (cl : List (Str × Addr)) (fp : List Addr) :
    XO ad n.in_ (X.blk s H scope (compEnvC scope cl C0 X.env) fp) N (inScope scope sc) Wi.no lv where
  nm := S.nm
  es := by
    show relabel scope X.env = _
    unfold relabel inScope Env.kindOf
    rw [S.es]
  nd := S.nd
  calm := S.calm
  room := S.room
  lam := fun hl _ => let ⟨r, m⟩ := S.lam hl (hm hl); ⟨r, m⟩
  zz := fun _ z => Bool.noConfusion z
  grd := S.grd
  tk := fun u s' ⟨_, _, _, _, _, _, _, _, _, _, _, _, _, _, _, _, z⟩ => z.elim
theorem StB.blk {X : Cx} (s : Shared) (H : Hp) (scope : Scope) (C0 : Addr) (cl : List (Str × Addr)) (fp : List Addr) : StB (X.blk s H scope (compEnvC scope cl C0 X.env) fp) scope := by
  intro x h
  have keep : ∀ k : NameKind, k ≠ .free → scope.names.lookup x = some k → (relabel scope X.env).names.lookup x = some k := fun k hk hl => lookup_relS_keep (sc := X.env.scope) hk hl
  simp only [locB, Bool.or_eq_true] at h
  rcases h with h | h
  · have := keep .local (by decide) (isKind_of h)
    exact ⟨.inl this, .inr this⟩
  · have := keep .cell (by decide) (isKind_of h)
    refine ⟨.inr this, .inl ?_⟩
    show (scope.names.lookup x == some NameKind.cell) = true
    rw [isKind_of h]
    decide
theorem matEs_star : ∀ {es : List Ex} {sc : Scope} {es' : List Expr}, matEs n N es sc es' = true → es'.all (fun e => !starB e) = true ∧ (es' = [] → es = [])
  | [], _, [], _ => ⟨rfl, fun _ => rfl⟩
  | [], _, _ :: _, h => by simp [matEs] at h
  | _ :: _, _, [], h => by simp [matEs] at h
  | e :: es, sc, e' :: es', h => by
    simp only [matEs, Bool.and_eq_true] at h
    refine ⟨?_, fun z => by cases z⟩
    rw [List.all_cons, h.1.1, (matEs_star h.2).1]
    rfl
theorem fnm_of {n : Wn} {k : Nat} {x : Str} (h : (match n.fnm[k]? with | some y => decide (y = x) | none => false) = true) : n.fnm[k]? = some x := by
  split at h
  · rename_i y e
    rw [e, of_decide_eq_true h]
  · cases h
theorem bad_slc {X : Cx} {e : Expr} {t : TE} (h : ∀ σ H Q, t σ H Q → False) : PE X e t := ⟨fun _ _ _ _ _ _ q => (h _ _ _ q).elim⟩
theorem bad_pw {X : Cx} {e : Expr} {t : TT} (h : ∀ σ H Q, t σ H Q → False) : PW X e t := ⟨fun _ _ _ _ _ _ _ q => (h _ _ _ q).elim⟩
theorem pts_imp {X : Cx} {es : List Expr} {t t' : TT} (h : PTs X es t) (i : ∀ σ H Q, t' σ H Q → t σ H Q) : PTs X es t' := ⟨fun pins s σ H Q I hw => h.run pins s σ H Q I (i σ H Q hw)⟩
theorem matE_star {e : Ex} {sc : Scope} {e' : Expr} (h : matE n N e sc e' = true) : starB e' = false := by
  cases e' with
  | Starred x p =>
    exfalso
    cases e with
    | cst d => cases d <;> simp [matE] at h
    | slc k a es => cases k <;> simp [matE] at h
    | _ => simp [matE] at h
  | _ => rfl
theorem inv_rev {a : Ex} {sc : Scope} {e' : Expr} (h : matE n N (.rev a) sc e' = true) : ∃ a' k p1 p2 p3 p, e' = .Subscript a' (.Slice none none (some (.UnaryOp .USub (.Constant (.int 1) k p1) p2)) p3) p ∧ matE n N a sc a' = true := by
  unfold matE at h
  split at h <;> first | contradiction | skip
  cases ‹Ex.rev _ = Ex.rev _›
  exact ⟨_, _, _, _, _, _, rfl, h⟩
theorem inv_isi {a : Ex} {t : String} {sc : Scope} {e' : Expr} (h : matE n N (.isi a t) sc e' = true) : ∃ x p1 a' y p2 p, e' = .Call (.Name x p1) [a', .Name y p2] [] p ∧ x = ("isinstance" : Str) ∧ n.bs.contains x = true ∧ glbB sc x = true ∧ matE n N a sc a' = true ∧ tyNms.contains (t, y) = true ∧ n.bs.contains y = true ∧ glbB sc y = true := by
  unfold matE at h
  split at h <;> first | contradiction | skip
  cases ‹Ex.isi _ _ = Ex.isi _ _›
  simp only [Bool.and_eq_true, decide_eq_true_eq] at h
  obtain ⟨⟨⟨⟨⟨⟨h1, h2⟩, h3⟩, h4⟩, h5⟩, h6⟩, h7⟩ := h
  exact ⟨_, _, _, _, _, _, rfl, h1, h2, h3, h4, h5, h6, h7⟩
theorem mk_of {a b : Bool} (h : (!a || b) = true) : a = true → b = true := by
  cases a <;> cases b <;> simp_all
theorem inv_dct {kvs : List (Int × Int)} {sc : Scope} {e' : Expr} (h : matE n N (.dct kvs) sc e' = true) :
    (kvs = [] ∧ ∃ p, e' = .Dict [] [] p) ∨ ∃ k v j1 q1 j2 q2 p, kvs = [(k, v)] ∧ e' = .Dict [some (.Constant (.int k) j1 q1)] [.Constant (.int v) j2 q2] p := by
  unfold matE at h
  split at h <;> first | contradiction | skip
  · cases ‹Ex.dct _ = Ex.dct _›
    exact .inl ⟨rfl, _, rfl⟩
  · cases ‹Ex.dct _ = Ex.dct _›
    simp only [Bool.and_eq_true, decide_eq_true_eq] at h
    obtain ⟨h1, h2⟩ := h
    subst h1 h2
    exact .inr ⟨_, _, _, _, _, _, _, rfl, rfl⟩
theorem inv_told {t : Nat} {e : Ex} {sc : Scope} {e' : Expr} (h : matE n N (.told t e) sc e' = true) :
    ∃ x p1 params body scope lp p, e' = .Call (.Name x p1) [.Lambda params body scope lp] [] p ∧ n.lm = true ∧ makerB sc = true ∧ n.tnm[t]? = some x ∧ glbB sc x = true ∧ okNm x = true ∧ LamX.lamSB sc scope = true ∧ noParB params = true ∧ matE n.in_ N e scope body = true := by
  unfold matE at h
  split at h <;> first | contradiction | skip
  cases ‹Ex.told _ _ = Ex.told _ _›
  simp only [Bool.and_eq_true, decide_eq_true_eq] at h
  obtain ⟨⟨⟨⟨⟨⟨⟨h1, h2⟩, h3⟩, h4⟩, h5⟩, h6⟩, h7⟩, h8⟩ := h
  exact ⟨_, _, _, _, _, _, _, rfl, h1, h2, h3, h4, h5, h6, h7, h8⟩
theorem inv_dget {a k e : Ex} {sc : Scope} {e' : Expr} (h : matE n N (.dget a k e) sc e' = true) :
    ∃ x p1 ap k' e1 p, e' = .Call (.Attribute (.Name x p1) "get" ap) [k', e1] [] p ∧ (ap.endLine == p.line) = true ∧ starB k' = false ∧ starB e1 = false ∧ matE n N a sc (.Name x p1) = true ∧ matE n N k sc k' = true ∧ matE n N e sc e1 = true := by
  unfold matE at h
  split at h <;> first | contradiction | skip
  cases ‹Ex.dget _ _ _ = Ex.dget _ _ _›
  simp only [Bool.and_eq_true, Bool.not_eq_true', decide_eq_true_eq] at h
  obtain ⟨⟨⟨⟨⟨⟨h1, h2⟩, h3⟩, h4⟩, h5⟩, h6⟩, h7⟩ := h
  subst h1
  exact ⟨_, _, _, _, _, _, rfl, h2, h3, h4, h5, h6, h7⟩
theorem inv_pop {i : Nat} {sc : Scope} {e' : Expr} (h : matE n N (.pop i) sc e' = true) :
    ∃ x p1 ap p, e' = .Call (.Attribute (.Name x p1) "pop" ap) [] [] p ∧ (ap.endLine == p.line) = true ∧ atB N i x = true ∧ visB sc x = true ∧ okNm x = true := by
  unfold matE at h
  split at h <;> first | contradiction | skip
  cases ‹Ex.pop _ = Ex.pop _›
  simp only [Bool.and_eq_true, Bool.not_eq_true', decide_eq_true_eq] at h
  obtain ⟨⟨⟨⟨h1, h2⟩, h3⟩, h4⟩, h5⟩ := h
  subst h1
  exact ⟨_, _, _, _, rfl, h2, h3, h4, h5⟩
theorem inv_tups {fl : List Bool} {es : List Ex} {sc : Scope} {e' : Expr} (h : matE n N (.tups fl es) sc e' = true) : ∃ es' k p, e' = .Tuple es' k p ∧ matEd n N fl es sc es' = true := by
  unfold matE at h
  split at h <;> first | contradiction | skip
  cases ‹Ex.tups _ _ = Ex.tups _ _›
  exact ⟨_, _, _, rfl, h⟩
theorem inv_ktr {e : Ex} {sc : Scope} {e' : Expr} (h : matE n N (.ktr e) sc e' = true) :
    ∃ p1 p2 p3 e1 p, e' = .Call (.Name "tuple" p1) [.Call (.Name "range" p2) [e1] [] p3] [] p ∧ n.bs.contains ("tuple" : Str) = true ∧ glbB sc "tuple" = true ∧ n.bs.contains ("range" : Str) = true ∧ glbB sc "range" = true ∧ starB e1 = false ∧ matE n N e sc e1 = true := by
  unfold matE at h
  split at h <;> first | contradiction | skip
  cases ‹Ex.ktr _ = Ex.ktr _›
  simp only [Bool.and_eq_true, Bool.not_eq_true', decide_eq_true_eq] at h
  obtain ⟨⟨⟨⟨⟨⟨⟨h1, h2⟩, h3⟩, h4⟩, h5⟩, h6⟩, h7⟩, h8⟩ := h
  subst h1 h4
  exact ⟨_, _, _, _, _, rfl, h2, h3, h5, h6, h7, h8⟩
theorem inv_mk0 {k : Nat} {a : Ex} {sc : Scope} {e' : Expr} (h : matE n N (.mk0 k a) sc e' = true) : ∃ x p1 e1 p, e' = .Call (.Name x p1) [e1] [] p ∧ n.xg[k]? = some x ∧ glbB sc x = true ∧ okNm x = true ∧ starB e1 = false ∧ matE n N a sc e1 = true := by
  unfold matE at h
  split at h <;> first | contradiction | skip
  cases ‹Ex.mk0 _ _ = Ex.mk0 _ _›
  simp only [Bool.and_eq_true, Bool.not_eq_true', decide_eq_true_eq] at h
  obtain ⟨⟨⟨⟨h1, h2⟩, h3⟩, h4⟩, h5⟩ := h
  exact ⟨_, _, _, _, rfl, h1, h2, h3, h4, h5⟩
theorem inv_mk1 {k : Nat} {a : Ex} {sc : Scope} {e' : Expr} (h : matE n N (.mk1 k a) sc e' = true) : ∃ x p1 e1 p, e' = .Call (.Name x p1) [e1] [] p ∧ n.xg[k]? = some x ∧ glbB sc x = true ∧ okNm x = true ∧ starB e1 = false ∧ matE n N a sc e1 = true := by
  unfold matE at h
  split at h <;> first | contradiction | skip
  cases ‹Ex.mk1 _ _ = Ex.mk1 _ _›
  simp only [Bool.and_eq_true, Bool.not_eq_true', decide_eq_true_eq] at h
  obtain ⟨⟨⟨⟨h1, h2⟩, h3⟩, h4⟩, h5⟩ := h
  exact ⟨_, _, _, _, rfl, h1, h2, h3, h4, h5⟩
theorem inv_att {a : Ex} {f : Str} {sc : Scope} {e' : Expr} (h : matE n N (.att a f) sc e' = true) : ∃ e1 p, e' = .Attribute e1 f p ∧ baseB e1 = true ∧ matE n N a sc e1 = true := by
  unfold matE at h
  split at h <;> first | contradiction | skip
  cases ‹Ex.att _ _ = Ex.att _ _›
  simp only [Bool.and_eq_true, decide_eq_true_eq] at h
  obtain ⟨⟨rfl, h2⟩, h3⟩ := h
  exact ⟨_, _, rfl, h2, h3⟩
theorem inv_isx {a : Ex} {c : Nat} {sc : Scope} {e' : Expr} (h : matE n N (.isx a c) sc e' = true) : ∃ x y p1 p2 e1 p, e' = .Call (.Name x p1) [e1, .Name y p2] [] p ∧ x = ("isinstance" : Str) ∧ n.bs.contains x = true ∧ glbB sc x = true ∧ starB e1 = false ∧ matE n N a sc e1 = true ∧ n.xg[c]? = some y ∧ glbB sc y = true ∧ okNm y = true := by
  unfold matE at h
  split at h <;> first | contradiction | skip
  cases ‹Ex.isx _ _ = Ex.isx _ _›
  simp only [Bool.and_eq_true, Bool.not_eq_true', decide_eq_true_eq] at h
  obtain ⟨⟨⟨⟨⟨⟨⟨h1, h2⟩, h3⟩, h4⟩, h5⟩, h6⟩, h7⟩, h8⟩ := h
  exact ⟨_, _, _, _, _, _, rfl, h1, h2, h3, h4, h5, h6, h7, h8⟩
theorem inv_isb {a : Ex} {t : String} {sc : Scope} {e' : Expr} (h : matE n N (.isb a t) sc e' = true) : ∃ x y p1 p2 e1 p, e' = .Call (.Name x p1) [e1, .Name y p2] [] p ∧ x = ("isinstance" : Str) ∧ n.bs.contains x = true ∧ glbB sc x = true ∧ starB e1 = false ∧ matE n N a sc e1 = true ∧ exNms.contains (t, y) = true ∧ n.bs.contains y = true ∧ glbB sc y = true := by
  unfold matE at h
  split at h <;> first | contradiction | skip
  cases ‹Ex.isb _ _ = Ex.isb _ _›
  simp only [Bool.and_eq_true, Bool.not_eq_true', decide_eq_true_eq] at h
  obtain ⟨⟨⟨⟨⟨⟨⟨h1, h2⟩, h3⟩, h4⟩, h5⟩, h6⟩, h7⟩, h8⟩ := h
  exact ⟨_, _, _, _, _, _, rfl, h1, h2, h3, h4, h5, h6, h7, h8⟩
theorem inv_spl {a : Ex} {y : Str} {sc : Scope} {e' : Expr} (h : matE n N (.spl a y) sc e' = true) : ∃ e1 ap k p1 p, e' = .Call (.Attribute e1 "split" ap) [.Constant (.str y) k p1] [] p ∧ (ap.endLine == p.line) = true ∧ baseB e1 = true ∧ matE n N a sc e1 = true := by
  unfold matE at h
  split at h <;> first | contradiction | skip
  cases ‹Ex.spl _ _ = Ex.spl _ _›
  simp only [Bool.and_eq_true, decide_eq_true_eq] at h
  obtain ⟨⟨⟨⟨h1, h2⟩, h3⟩, h4⟩, h5⟩ := h
  subst h1 h3
  exact ⟨_, _, _, _, _, rfl, h2, h4, h5⟩
theorem inv_ktp {k : List Key} {sc : Scope} {e' : Expr} (h : matE n N (.cst (.ktp k)) sc e' = true) : k = [] ∧ ∃ j p, e' = .Tuple [] j p := by
  cases k with
  | nil =>
    cases e' with
    | Tuple es j p =>
      cases es with
      | nil => exact ⟨rfl, _, _, rfl⟩
      | cons => simp [matE] at h
    | _ => simp [matE] at h
  | cons => simp [matE] at h
theorem inv_items {sc : Scope} {e' : Expr} {tp : Bool} (h : matItH n sc .items e' tp = true) : ∃ x p1 ap p, e' = .Call (.Attribute (.Name x p1) "items" ap) [] [] p ∧ tp = true ∧ (ap.endLine == p.line) = true := by
  unfold matItH at h
  split at h <;> first | contradiction | skip
  simp only [Bool.and_eq_true, decide_eq_true_eq] at h
  obtain ⟨⟨h1, h2⟩, h3⟩ := h
  subst h2
  exact ⟨_, _, _, _, rfl, h1, h3⟩
theorem len1 {l : List Expr} (h : l.length = 1) : ∃ a, l = [a] := by
  match l, h with
  | [a], _ => exact ⟨a, rfl⟩
theorem len2 {l : List Expr} (h : l.length = 2) : ∃ a b, l = [a, b] := by
  match l, h with
  | [a, b], _ => exact ⟨a, b, rfl⟩
theorem tup_of {e : Expr} (h : isTupE e = true) : ∃ es k p, e = .Tuple es k p := by
  cases e <;> first | exact ⟨_, _, _, rfl⟩ | cases h
theorem pi_all {X : Cx} {sc : Scope} {Wi : Wz} {ik : IK} {src : List Ex} {tg' e' : Expr} (S : XO ad n X N sc Wi lv) (G : GO X.K ad XR W C X.prog X.w X.mg X.base n lv) (h : matItH n sc ik e' (isTupE tg') = true) (h5 : matEs n N src sc (itExprs ik e') = true)
    (ha : PA X (itExprs ik e') (tEs X.K ad XR Wi W C src)) (h1 : ∀ e', matEs n N src sc [e'] = true → ∃ a, src = [a] ∧ PE X e' (tE X.K ad XR Wi W C a)) : PI X tg' e' (tI X.K ad XR Wi W C ik src) := by
  by_cases hik : ik = .seq
  · subst hik
    obtain ⟨a, rfl, he⟩ := h1 e' h5
    exact pi_seq he
  · by_cases hit : ik = .items
    · subst hit
      obtain ⟨x, p1, ap, p, rfl, h2, h3⟩ := inv_items h
      obtain ⟨a, rfl, he⟩ := h1 _ h5
      obtain ⟨es, k, p, rfl⟩ := tup_of h2
      exact (pi_itemsA he rfl h3).imp fun σ H R h => items_read (es := []) h
    cases e' with
    | Call f es kws p =>
      cases f with
      | Name x p1 =>
        cases kws with
        | nil =>
          have h' : (decide (x = itNm ik) && decide (es.length = itLen ik) && n.bs.contains x && glbB sc x && (isTupE tg' || decide (ik = .rng1) || decide (ik = .rng2))) = true := by
            cases ik <;> first | exact absurd rfl hik | exact absurd rfl hit | exact h
          simp only [Bool.and_eq_true, decide_eq_true_eq] at h'
          obtain ⟨⟨⟨⟨g1, g2⟩, g3⟩, g4⟩, g5⟩ := h'
          have ha' : PA X es (tEs X.K ad XR Wi W C src) := by cases ik <;> first | exact absurd rfl hik | exact absurd rfl hit | exact ha
          have hst : es.all (fun e => !starB e) = true := (matEs_star (by cases ik <;> first | exact absurd rfl hik | exact absurd rfl hit | exact h5)).1
          have hg := S.gl g4
          have hm := G.bs _ g3
          subst g1
          cases ik with
          | seq => exact absurd rfl hik
          | items => exact absurd rfl hit
          | rng1 =>
            obtain ⟨a, rfl⟩ := len1 g2
            simp only [List.all_cons, Bool.and_eq_true, Bool.not_eq_true', List.all_nil, and_true] at hst
            exact (pi_range1 hg hm ha' (star_each hst [] _)).imp fun σ H R h => rng1_read h
          | rng2 =>
            obtain ⟨a, b, rfl⟩ := len2 g2
            simp only [List.all_cons, Bool.and_eq_true, Bool.not_eq_true', List.all_nil, and_true] at hst
            exact (pi_range2 hg hm ha' (by rw [star_each hst.1, star_each hst.2]; rfl) (star_each hst.2 [] _)).imp fun σ H R h => rng2_read h
          | enum =>
            obtain ⟨a, rfl⟩ := len1 g2
            simp only [List.all_cons, Bool.and_eq_true, Bool.not_eq_true', List.all_nil, and_true] at hst
            obtain ⟨es, k, p, rfl⟩ := tup_of (by simpa using g5)
            exact (pi_enumA hg hm ha' (star_each hst [] _)).imp fun σ H R h => enum_read h
          | zip =>
            obtain ⟨a, b, rfl⟩ := len2 g2
            obtain ⟨es, k, p, rfl⟩ := tup_of (by simpa using g5)
            have hst2 : [b].all (fun e => !starB e) = true := by
              simp only [List.all_cons, Bool.and_eq_true] at hst ⊢
              exact hst.2
            simp only [List.all_cons, Bool.and_eq_true, Bool.not_eq_true', List.all_nil, and_true] at hst
            exact (RZ.pi_zipA hg hm ha' (star_each hst.1 _ _) (star_any hst2 _ _)).imp fun σ H R h => zip_read h
        | cons => cases ik <;> first | exact absurd rfl hit | (simp [matItH] at h hik; done)
      | _ => cases ik <;> first | exact absurd rfl hit | (simp [matItH] at h hik; done)
    | _ => cases ik <;> first | exact absurd rfl hit | (simp [matItH] at h hik; done)
mutual
theorem snd_E : ∀ (e : Ex) (n : Wn) (X : Cx) (sc : Scope) (Wi : Wz), XO ad n X N sc Wi lv → GO X.K ad XR W C X.prog X.w X.mg X.base n lv → ∀ e' : Expr, matE n N e sc e' = true → PE X e' (tE X.K ad XR Wi W C e)
  | .var i, n, X, sc, Wi, S, G, e', h => by
    cases e' with
    | Name x p =>
      simp only [matE, Bool.and_eq_true] at h
      exact pf_var (S.at_ h.1.1) (S.vis h.1.2) h.2
    | _ => simp [matE] at h
  | .cst d, n, X, sc, Wi, S, G, e', h => by
    by_cases hk : ∃ k, d = .ktp k
    · obtain ⟨k, rfl⟩ := hk
      obtain ⟨rfl, j, p, rfl⟩ := inv_ktp h
      exact pf_ktp0
    cases e' with
    | Constant c k p =>
      cases d with
      | non =>
        cases c with
        | none => exact pf_non
        | _ => simp [matE] at h
      | bl b =>
        cases c with
        | bool c =>
          have q : b = c := by simpa [matE] using h
          subst q
          exact pf_bl
        | _ => simp [matE] at h
      | int i =>
        cases c with
        | int j =>
          have q : i = j := by simpa [matE] using h
          subst q
          exact pf_int
        | _ => simp [matE] at h
      | str x =>
        cases c with
        | str y =>
          have q : x = y := by simpa [matE] using h
          subst q
          exact pf_str
        | _ => simp [matE] at h
      | _ => simp [matE] at h
    | _ => cases d <;> first | exact absurd ⟨_, rfl⟩ hk | (simp [matE] at h; done)
  | .glo g, n, X, sc, Wi, S, G, e', h => by
    cases e' with
    | Name x p =>
      simp only [matE, Bool.and_eq_true] at h
      exact pf_glo G (by rw [← G.cnn]; exact h.1.1) (S.gl h.1.2) h.2
    | _ => simp [matE] at h
  | .tup es, n, X, sc, Wi, S, G, e', h => by
    cases e' with
    | Tuple es' k p =>
      simp only [matE] at h
      exact pf_tup (snd_Es es n X sc Wi S G es' h)
    | _ => simp [matE] at h
  | .lst es, n, X, sc, Wi, S, G, e', h => by
    cases e' with
    | List es' p =>
      simp only [matE] at h
      exact pf_lst (snd_Es es n X sc Wi S G es' h)
    | _ => simp [matE] at h
  | .lsts fl es, n, X, sc, Wi, S, G, e', h => by
    cases e' with
    | List es' p =>
      simp only [matE] at h
      exact pf_lsts (snd_Ed fl es n X sc Wi S G es' h)
    | _ => simp [matE] at h
  | .bin op a b, n, X, sc, Wi, S, G, e', h => by
    cases e' with
    | BinOp a' op' b' p =>
      simp only [matE, Bool.and_eq_true, decide_eq_true_eq] at h
      obtain ⟨⟨rfl, h1⟩, h2⟩ := h
      exact pf_bin (snd_E a n X sc Wi S G a' h1) (snd_E b n X sc Wi S G b' h2)
    | _ => simp [matE] at h
  | .neg a, n, X, sc, Wi, S, G, e', h => by
    cases e' with
    | UnaryOp op a' p =>
      cases op with
      | USub =>
        simp only [matE] at h
        exact pf_neg (snd_E a n X sc Wi S G a' h)
      | _ => simp [matE] at h
    | _ => simp [matE] at h
  | .nt a, n, X, sc, Wi, S, G, e', h => by
    cases e' with
    | UnaryOp op a' p =>
      cases op with
      | Not =>
        simp only [matE] at h
        exact pf_nt (snd_E a n X sc Wi S G a' h)
      | _ => simp [matE] at h
    | _ => simp [matE] at h
  | .cmp op a b, n, X, sc, Wi, S, G, e', h => by
    cases e' with
    | Compare a' ops bs p =>
      match ops, bs, h with
      | [op'], [b'], h =>
        simp only [matE, Bool.and_eq_true, decide_eq_true_eq, Bool.not_eq_true'] at h
        obtain ⟨⟨⟨rfl, h0⟩, h1⟩, h2⟩ := h
        exact pf_cmp S h0 (snd_E a n X sc Wi S G a' h1) (snd_E b n X sc Wi S G b' h2)
      | [], _, h => simp [matE] at h
      | _ :: _ :: _, _, h => simp [matE] at h
      | [_], [], h => simp [matE] at h
      | [_], _ :: _ :: _, h => simp [matE] at h
    | _ => simp [matE] at h
  | .chain op1 op2 a b c, n, X, sc, Wi, S, G, e', h => by
    cases e' with
    | Compare a' ops bs p =>
      match ops, bs, h with
      | [op1', op2'], [b', c'], h =>
        simp only [matE, Bool.and_eq_true, decide_eq_true_eq, Bool.not_eq_true'] at h
        obtain ⟨⟨⟨⟨⟨⟨rfl, rfl⟩, h0⟩, h00⟩, h1⟩, h2⟩, h3⟩ := h
        exact pf_chain S h00 (snd_E a n X sc Wi S G a' h1) (snd_E b n X sc Wi S G b' h2) (snd_E c n X sc Wi S G c' h3)
      | [], _, h => simp [matE] at h
      | [_], _, h => simp [matE] at h
      | _ :: _ :: _ :: _, _, h => simp [matE] at h
      | [_, _], [], h => simp [matE] at h
      | [_, _], [_], h => simp [matE] at h
      | [_, _], _ :: _ :: _ :: _, h => simp [matE] at h
    | _ => simp [matE] at h
  | .andl es, n, X, sc, Wi, S, G, e', h => by
    cases e' with
    | BoolOp op es' p =>
      cases op with
      | And =>
        simp only [matE] at h
        exact snd_And es n X sc Wi S G es' h p
      | Or => simp [matE] at h
    | _ => simp [matE] at h
  | .orl es, n, X, sc, Wi, S, G, e', h => by
    cases e' with
    | BoolOp op es' p =>
      cases op with
      | Or =>
        simp only [matE] at h
        exact snd_Or es n X sc Wi S G es' h p
      | And => simp [matE] at h
    | _ => simp [matE] at h
  | .ite c a b, n, X, sc, Wi, S, G, e', h => by
    cases e' with
    | IfExp c' a' b' p =>
      simp only [matE, Bool.and_eq_true] at h
      exact pf_ite (snd_T c n X sc Wi S G c' h.1.1) (snd_E a n X sc Wi S G a' h.1.2) (snd_E b n X sc Wi S G b' h.2)
    | _ => simp [matE] at h
  | .sub a i, n, X, sc, Wi, S, G, e', h => by
    cases e' with
    | Subscript a' i' p =>
      have h : (matE n N a sc a' && matE n N i sc i' && !sliceB i') = true := by simpa only [matE] using h
      simp only [Bool.and_eq_true, Bool.not_eq_true'] at h
      exact pf_sub S.room.u64 (snd_E a n X sc Wi S G a' h.1.1) (snd_E i n X sc Wi S G i' h.1.2) h.2
    | _ => simp [matE] at h
  | .slc .both a [lo, hi], n, X, sc, Wi, S, G, e', h => by
    cases e' with
    | Subscript a' i' p =>
      cases i' with
      | Slice l u st p2 =>
        match l, u, st, h with
        | some lo', some hi', none, h =>
          simp only [matE, matEs, Bool.and_eq_true] at h
          exact pf_slc2 (snd_E a n X sc Wi S G a' h.1) (snd_E lo n X sc Wi S G lo' h.2.1.2) (snd_E hi n X sc Wi S G hi' h.2.2.1.2)
        | none, _, _, h => simp [matE] at h
        | some _, none, _, h => simp [matE] at h
        | some _, some _, some _, h => simp [matE] at h
      | _ => simp [matE] at h
    | _ => simp [matE] at h
  | .slc .lo a [lo], n, X, sc, Wi, S, G, e', h => by
    cases e' with
    | Subscript a' i' p =>
      cases i' with
      | Slice l u st p2 =>
        match l, u, st, h with
        | some lo', none, none, h =>
          simp only [matE, matEs, Bool.and_eq_true] at h
          exact pf_slcL (snd_E a n X sc Wi S G a' h.1) (snd_E lo n X sc Wi S G lo' h.2.1.2)
        | none, _, _, h => simp [matE] at h
        | some _, some _, _, h => simp [matE] at h
        | some _, none, some _, h => simp [matE] at h
      | _ => simp [matE] at h
    | _ => simp [matE] at h
  | .slc .hi a [hi], n, X, sc, Wi, S, G, e', h => by
    cases e' with
    | Subscript a' i' p =>
      cases i' with
      | Slice l u st p2 =>
        match l, u, st, h with
        | none, some hi', none, h =>
          simp only [matE, matEs, Bool.and_eq_true] at h
          exact pf_slcH (snd_E a n X sc Wi S G a' h.1) (snd_E hi n X sc Wi S G hi' h.2.1.2)
        | some _, _, _, h => simp [matE] at h
        | none, none, _, h => simp [matE] at h
        | none, some _, some _, h => simp [matE] at h
      | _ => simp [matE] at h
    | _ => simp [matE] at h
  | .slc .no a [], n, X, sc, Wi, S, G, e', h => by
    cases e' with
    | Subscript a' i' p =>
      cases i' with
      | Slice l u st p2 =>
        match l, u, st, h with
        | none, none, none, h =>
          simp only [matE, Bool.and_eq_true] at h
          exact pf_slc0 (snd_E a n X sc Wi S G a' h.1)
        | some _, _, _, h => simp [matE] at h
        | none, some _, _, h => simp [matE] at h
        | none, none, some _, h => simp [matE] at h
      | _ => simp [matE] at h
    | _ => simp [matE] at h
  | .slc .both _ [], _, _, _, _, _, _, _, _ => bad_slc (by rintro σ H Q ⟨s, L, m, F, _, _, h⟩; exact h)
  | .slc .both _ [_], _, _, _, _, _, _, _, _ => bad_slc (by rintro σ H Q ⟨s, L, m, F, _, _, h⟩; exact h)
  | .slc .both _ (_ :: _ :: _ :: _), _, _, _, _, _, _, _, _ => bad_slc (by rintro σ H Q ⟨s, L, m, F, _, _, h⟩; exact h)
  | .slc .lo _ [], _, _, _, _, _, _, _, _ => bad_slc (by rintro σ H Q ⟨s, L, m, F, _, _, h⟩; exact h)
  | .slc .lo _ (_ :: _ :: _), _, _, _, _, _, _, _, _ => bad_slc (by rintro σ H Q ⟨s, L, m, F, _, _, h⟩; exact h)
  | .slc .hi _ [], _, _, _, _, _, _, _, _ => bad_slc (by rintro σ H Q ⟨s, L, m, F, _, _, h⟩; exact h)
  | .slc .hi _ (_ :: _ :: _), _, _, _, _, _, _, _, _ => bad_slc (by rintro σ H Q ⟨s, L, m, F, _, _, h⟩; exact h)
  | .slc .no _ (_ :: _), _, _, _, _, _, _, _, _ => bad_slc (by rintro σ H Q ⟨s, L, m, F, _, _, h⟩; exact h)
  | .mk0 k a, n, X, sc, Wi, S, G, e', h => by
    obtain ⟨x, p1, e1, p, rfl, h1, h2, h3, h4, h5⟩ := inv_mk0 h
    exact pf_mk0 G h1 (S.gl h2) h3 (snd_E a n X sc Wi S G _ h5) h4
  | .mk1 k a, n, X, sc, Wi, S, G, e', h => by
    obtain ⟨x, p1, e1, p, rfl, h1, h2, h3, h4, h5⟩ := inv_mk1 h
    exact pf_mk1 G S h1 (S.gl h2) h3 (snd_E a n X sc Wi S G _ h5) h4
  | .att a f, n, X, sc, Wi, S, G, e', h => by
    obtain ⟨e1, p, rfl, h1, h2⟩ := inv_att h
    exact pf_att G h1 (snd_E a n X sc Wi S G _ h2)
  | .isx a c, n, X, sc, Wi, S, G, e', h => by
    obtain ⟨x, y, p1, p2, e1, p, rfl, h1, h2, h3, h4, h5, h6, h7, h8⟩ := inv_isx h
    exact pf_isx h1 (G.bs _ h2) (S.gl h3) h4 G h6 (S.gl h7) h8 (snd_E a n X sc Wi S G _ h5)
  | .isb a t, n, X, sc, Wi, S, G, e', h => by
    obtain ⟨x, y, p1, p2, e1, p, rfl, h1, h2, h3, h4, h5, h6, h7, h8⟩ := inv_isb h
    exact pf_isb h1 (G.bs _ h2) (S.gl h3) h4 G h6 (G.bs _ h7) (S.gl h8) (snd_E a n X sc Wi S G _ h5)
  | .spl a y, n, X, sc, Wi, S, G, e', h => by
    obtain ⟨e1, ap, k, p1, p, rfl, h1, h2, h3⟩ := inv_spl h
    exact pf_spl h2 h1 (snd_E a n X sc Wi S G _ h3)
  | .dget a b c, n, X, sc, Wi, S, G, e', h => by
    obtain ⟨x, p1, ap, k', e1, p, rfl, h1, h2, h3, h4, h5, h6⟩ := inv_dget h
    exact pf_dget S.room.u64 h1 h2 h3 (snd_E a n X sc Wi S G _ h4) (snd_E b n X sc Wi S G _ h5) (snd_E c n X sc Wi S G _ h6)
  | .pop i, n, X, sc, Wi, S, G, e', h => by
    obtain ⟨x, p1, ap, p, rfl, h1, h2, h3, h4⟩ := inv_pop h
    obtain ⟨o1, o2, _⟩ := okNm_of h4
    exact pf_pop (pe_var (S.at_ h2) (S.vis h3) o1 o2) h1
  | .tups fl es, n, X, sc, Wi, S, G, e', h => by
    obtain ⟨es', k, p, rfl, h1⟩ := inv_tups h
    exact pf_tups (snd_Ed fl es n X sc Wi S G es' h1)
  | .ktr e, n, X, sc, Wi, S, G, e', h => by
    obtain ⟨p1, p2, p3, e1, p, rfl, h1, h2, h3, h4, h5, h6⟩ := inv_ktr h
    exact pf_ktr S.calm (S.gl h2) (G.bs _ h1) (S.gl h4) (G.bs _ h3) h5 (snd_E e n X sc Wi S G _ h6)
  | .rev a, n, X, sc, Wi, S, G, e', h => by
    obtain ⟨a', k, p1, p2, p3, p, rfl, h'⟩ := inv_rev h
    exact pf_rev (snd_E a n X sc Wi S G a' h')
  | .call k es, n, X, sc, Wi, S, G, e', h => by
    cases e' with
    | Call f es' kws p =>
      cases f with
      | Name x p1 =>
        cases kws with
        | nil =>
          simp only [matE, Bool.and_eq_true] at h
          obtain ⟨h1, h2⟩ := matEs_star h.2
          exact pf_call G S (fnm_of h.1.1.1) (S.gl h.1.1.2) h.1.2 (snd_Es es n X sc Wi S G es' h.2) h1 h2
        | cons => simp [matE] at h
      | _ => simp [matE] at h
    | _ => simp [matE] at h
  | .blt b es, n, X, sc, Wi, S, G, e', h => by
    cases e' with
    | Call f es' kws p =>
      cases f with
      | Name x p1 =>
        cases kws with
        | nil =>
          simp only [matE, Bool.and_eq_true, decide_eq_true_eq] at h
          obtain ⟨⟨⟨⟨h1, h2⟩, h3⟩, h4⟩, h5⟩ := h
          cases es' with
          | nil => simp at h4
          | cons e1 es1 => exact pf_blt S h1 (G.bs _ h2) (S.gl h3) (snd_Es es n X sc Wi S G _ h5) (matEs_star h5).1
        | cons => simp [matE] at h
      | _ => simp [matE] at h
    | _ => simp [matE] at h
  | .isi a t, n, X, sc, Wi, S, G, e', h => by
    obtain ⟨x, p1, a', y, p2, p, rfl, h1, h2, h3, h4, h5, h6, h7⟩ := inv_isi h
    exact pf_isi h1 (G.bs _ h2) (S.gl h3) h5 (G.bs _ h6) (S.gl h7) (snd_E a n X sc Wi S G a' h4) (matE_star h4)
  | .dct kvs, n, X, sc, Wi, S, G, e', h => by
    rcases inv_dct h with ⟨rfl, p, rfl⟩ | ⟨k, v, j1, q1, j2, q2, p, rfl, rfl⟩
    · exact pf_dct0
    · exact pf_dct1
  | .told t e, n, X, sc, Wi, S, G, e', h => by
    obtain ⟨x, p1, params, body, scope, lp, p, rfl, h1, h2, h3, h4, h5, h6, h7, h8⟩ := inv_told h
    exact pf_told G S h1 h2 h3 (S.gl h4) h5 h6 h7 fun X' E S' G' => snd_E e n.in_ X' scope E S' G' body h8
  | .tolds t i, n, X, sc, Wi, S, G, e', h => by
    refine G.td ?_ X N sc Wi t i e' rfl rfl rfl rfl rfl S h
    unfold matE at h
    split at h <;> first | contradiction | skip
    simp only [Bool.and_eq_true] at h
    exact h.1.1.1.1.1.1.1.1.1.1.1.1.1.2
  | .comp tg ik src ifs elt, n, X, sc, Wi, S, G, e', h => by
    refine (?_ : PE X e' (tN X.K ad XR Wi W C (.comp tg ik src ifs elt))).imp fun σ H Q ⟨s, L, m, F, h1, h2, h⟩ => ⟨s, L, m, F, h1, h2, frz_hold h2 (by rw [ev_comp] at h; exact h)⟩
    cases e' with
    | ListComp elt' gs scope p =>
      match gs, h with
      | [⟨tg', iter', ifs', z⟩], h =>
        simp only [matE, Bool.and_eq_true, decide_eq_true_eq, Bool.not_eq_true'] at h
        obtain ⟨⟨⟨⟨⟨⟨⟨⟨⟨h0, rfl⟩, h1⟩, h2⟩, h3⟩, h4⟩, h5⟩, h6⟩, h7⟩, h8⟩ := h
        have hm := mk_of h0
        exact pf_compN S (pi_all S G h4 h5 (snd_Es src n X sc Wi S G _ h5) (snd_H src n X sc Wi S G)) (by rw [S.nm, S.es]; exact blkOk_by h1) h2 (fun s H C0 cl fp => pg_d (S.blk hm s H scope C0 cl fp) (StB.blk s H scope C0 cl fp) tg tg' h3) (fun s H C0 cl fp => snd_Ifs ifs _ _ _ _ (S.blk hm s H scope C0 cl fp) G.in_ ifs' h7) (fun s H C0 cl fp => snd_E elt _ _ _ _ (S.blk hm s H scope C0 cl fp) G.in_ elt' h8) (set_fold h6 _)
      | [], h => simp [matE] at h
      | _ :: _ :: _, h => simp [matE] at h
    | _ => simp [matE] at h
theorem snd_Es : ∀ (es : List Ex) (n : Wn) (X : Cx) (sc : Scope) (Wi : Wz), XO ad n X N sc Wi lv → GO X.K ad XR W C X.prog X.w X.mg X.base n lv → ∀ es' : List Expr, matEs n N es sc es' = true → PA X es' (tEs X.K ad XR Wi W C es)
  | [], n, X, sc, Wi, S, G, es', h => by
    cases es' with
    | nil => exact pfs_nil
    | cons => simp [matEs] at h
  | e :: es, n, X, sc, Wi, S, G, es', h => by
    cases es' with
    | nil => simp [matEs] at h
    | cons e' es' =>
      simp only [matEs, Bool.and_eq_true, Bool.not_eq_true'] at h
      exact pfs_cons (snd_E e n X sc Wi S G e' h.1.2) (snd_Es es n X sc Wi S G es' h.2) h.1.1
theorem snd_Ed : ∀ (fl : List Bool) (es : List Ex) (n : Wn) (X : Cx) (sc : Scope) (Wi : Wz), XO ad n X N sc Wi lv → GO X.K ad XR W C X.prog X.w X.mg X.base n lv → ∀ es' : List Expr, matEd n N fl es sc es' = true → PA X es' (tEd X.K ad XR Wi W C fl es)
  | [], [], n, X, sc, Wi, S, G, es', h => by
    cases es' with
    | nil => exact pfd_nil
    | cons => simp [matEd] at h
  | true :: fl, e :: es, n, X, sc, Wi, S, G, es', h => by
    cases es' with
    | nil => simp [matEd] at h
    | cons e' es' =>
      cases e' with
      | Starred e1 p =>
        simp only [matEd, Bool.and_eq_true] at h
        exact pfd_star (snd_E e n X sc Wi S G e1 h.1) (snd_Ed fl es n X sc Wi S G es' h.2)
      | _ => simp [matEd] at h
  | false :: fl, e :: es, n, X, sc, Wi, S, G, es', h => by
    cases es' with
    | nil => simp [matEd] at h
    | cons e' es' =>
      have h' : (!starB e' && matE n N e sc e' && matEd n N fl es sc es') = true := by simpa only [matEd] using h
      simp only [Bool.and_eq_true, Bool.not_eq_true'] at h'
      exact pfd_cons (snd_E e n X sc Wi S G e' h'.1.2) (snd_Ed fl es n X sc Wi S G es' h'.2) h'.1.1
  | [], _ :: _, n, X, sc, Wi, S, G, es', h => by simp [matEd] at h
  | true :: _, [], n, X, sc, Wi, S, G, es', h => by simp [matEd] at h
  | false :: _, [], n, X, sc, Wi, S, G, es', h => by simp [matEd] at h
theorem snd_And : ∀ (es : List Ex) (n : Wn) (X : Cx) (sc : Scope) (Wi : Wz), XO ad n X N sc Wi lv → GO X.K ad XR W C X.prog X.w X.mg X.base n lv → ∀ es' : List Expr, matEs n N es sc es' = true → ∀ pos, PE X (.BoolOp .And es' pos) (tE X.K ad XR Wi W C (.andl es))
  | [], n, X, sc, Wi, S, G, es', h, pos => bad_slc (by rintro σ H Q ⟨s, L, m, F, _, _, h⟩; exact h)
  | [e], n, X, sc, Wi, S, G, es', h, pos => by
    match es', h with
    | [e'], h =>
      simp only [matEs, Bool.and_eq_true] at h
      exact pf_one (op := .And) (snd_E e n X sc Wi S G e' h.1.2)
    | [], h => simp [matEs] at h
    | _ :: _ :: _, h => simp [matEs] at h
  | e :: f :: es, n, X, sc, Wi, S, G, es', h, pos => by
    match es', h with
    | e' :: f' :: es', h =>
      have h2 : matEs n N (f :: es) sc (f' :: es') = true := by
        simp only [matEs, Bool.and_eq_true] at h ⊢
        exact h.2
      have h1 : matE n N e sc e' = true := by
        simp only [matEs, Bool.and_eq_true] at h
        exact h.1.2
      exact pf_and (snd_E e n X sc Wi S G e' h1) (snd_And (f :: es) n X sc Wi S G (f' :: es') h2 pos)
    | [], h => simp [matEs] at h
    | [_], h => simp [matEs] at h
theorem snd_Or : ∀ (es : List Ex) (n : Wn) (X : Cx) (sc : Scope) (Wi : Wz), XO ad n X N sc Wi lv → GO X.K ad XR W C X.prog X.w X.mg X.base n lv → ∀ es' : List Expr, matEs n N es sc es' = true → ∀ pos, PE X (.BoolOp .Or es' pos) (tE X.K ad XR Wi W C (.orl es))
  | [], n, X, sc, Wi, S, G, es', h, pos => bad_slc (by rintro σ H Q ⟨s, L, m, F, _, _, h⟩; exact h)
  | [e], n, X, sc, Wi, S, G, es', h, pos => by
    match es', h with
    | [e'], h =>
      simp only [matEs, Bool.and_eq_true] at h
      exact pf_one (op := .Or) (snd_E e n X sc Wi S G e' h.1.2)
    | [], h => simp [matEs] at h
    | _ :: _ :: _, h => simp [matEs] at h
  | e :: f :: es, n, X, sc, Wi, S, G, es', h, pos => by
    match es', h with
    | e' :: f' :: es', h =>
      have h2 : matEs n N (f :: es) sc (f' :: es') = true := by
        simp only [matEs, Bool.and_eq_true] at h ⊢
        exact h.2
      have h1 : matE n N e sc e' = true := by
        simp only [matEs, Bool.and_eq_true] at h
        exact h.1.2
      exact pf_or (snd_E e n X sc Wi S G e' h1) (snd_Or (f :: es) n X sc Wi S G (f' :: es') h2 pos)
    | [], h => simp [matEs] at h
    | [_], h => simp [matEs] at h
theorem snd_H : ∀ (src : List Ex) (n : Wn) (X : Cx) (sc : Scope) (Wi : Wz), XO ad n X N sc Wi lv → GO X.K ad XR W C X.prog X.w X.mg X.base n lv → ∀ e' : Expr, matEs n N src sc [e'] = true → ∃ a, src = [a] ∧ PE X e' (tE X.K ad XR Wi W C a)
  | [a], n, X, sc, Wi, S, G, e', h => by
    simp only [matEs, Bool.and_eq_true] at h
    exact ⟨a, rfl, snd_E a n X sc Wi S G e' h.1.2⟩
  | [], n, X, sc, Wi, S, G, e', h => by simp [matEs] at h
  | _ :: _ :: _, n, X, sc, Wi, S, G, e', h => by simp [matEs] at h
theorem snd_Ifs : ∀ (ts : List Tx) (n : Wn) (X : Cx) (sc : Scope) (Wi : Wz), XO ad n X N sc Wi lv → GO X.K ad XR W C X.prog X.w X.mg X.base n lv → ∀ es' : List Expr, matIfs n N ts sc es' = true → PTs X es' (tIfs X.K ad XR Wi W C ts)
  | [], n, X, sc, Wi, S, G, es', h => by
    cases es' with
    | nil => exact pts_imp pts_nil fun σ H Q ⟨s, L, m, F, hs, hm, h⟩ => h.now (a := true) hm (.refl hm.sub) rfl
    | cons => simp [matIfs] at h
  | [t], n, X, sc, Wi, S, G, es', h => by
    match es', h with
    | [c'], h =>
      simp only [matIfs] at h
      exact pts_imp (pts_one (snd_T t n X sc Wi S G c' h)) fun σ H Q ⟨s, L, m, F, hs, hm, h⟩ => ⟨s, L, m, F, hs, hm, h⟩
    | [], h => simp [matIfs] at h
    | _ :: _ :: _, h => simp [matIfs] at h
  | _ :: _ :: _, n, X, sc, Wi, S, G, es', h => by simp [matIfs] at h
theorem snd_T : ∀ (t : Tx) (n : Wn) (X : Cx) (sc : Scope) (Wi : Wz), XO ad n X N sc Wi lv → GO X.K ad XR W C X.prog X.w X.mg X.base n lv → ∀ e' : Expr, matT n N t sc e' = true → PT X e' (tT X.K ad XR Wi W C t)
  | .cmp op a b, n, X, sc, Wi, S, G, e', h => by
    cases e' with
    | Compare a' ops bs p =>
      match ops, bs, h with
      | [op'], [b'], h =>
        simp only [matT, Bool.and_eq_true, decide_eq_true_eq, Bool.not_eq_true'] at h
        obtain ⟨⟨⟨rfl, h0⟩, h1⟩, h2⟩ := h
        exact pt_cmpD S h0 (snd_E a n X sc Wi S G a' h1) (snd_E b n X sc Wi S G b' h2)
      | [], _, h => simp [matT] at h
      | _ :: _ :: _, _, h => simp [matT] at h
      | [_], [], h => simp [matT] at h
      | [_], _ :: _ :: _, h => simp [matT] at h
    | _ => simp [matT] at h
  | .chain op1 op2 a b c, n, X, sc, Wi, S, G, e', h => by
    cases e' with
    | Compare a' ops bs p =>
      match ops, bs, h with
      | [op1', op2'], [b', c'], h =>
        simp only [matT, Bool.and_eq_true, decide_eq_true_eq, Bool.not_eq_true'] at h
        obtain ⟨⟨⟨⟨⟨⟨rfl, rfl⟩, h0⟩, h00⟩, h1⟩, h2⟩, h3⟩ := h
        exact pt_chainD S h00 (snd_E a n X sc Wi S G a' h1) (snd_E b n X sc Wi S G b' h2) (snd_E c n X sc Wi S G c' h3)
      | [], _, h => simp [matT] at h
      | [_], _, h => simp [matT] at h
      | _ :: _ :: _ :: _, _, h => simp [matT] at h
      | [_, _], [], h => simp [matT] at h
      | [_, _], [_], h => simp [matT] at h
      | [_, _], _ :: _ :: _ :: _, h => simp [matT] at h
    | _ => simp [matT] at h
  | .val e, n, X, sc, Wi, S, G, e', h => by
    simp only [matT, Bool.and_eq_true] at h
    exact pt_plain (snd_E e n X sc Wi S G e' h.2) h.1
  | .nt t, n, X, sc, Wi, S, G, e', h => by
    cases e' with
    | UnaryOp op a' p =>
      cases op with
      | Not =>
        simp only [matT] at h
        exact pt_notD (snd_T t n X sc Wi S G a' h)
      | _ => simp [matT] at h
    | _ => simp [matT] at h
  | .andl ts, n, X, sc, Wi, S, G, e', h => by
    cases e' with
    | BoolOp op es' p =>
      cases op with
      | And =>
        simp only [matT] at h
        exact (snd_TAnd ts n X sc Wi S G es' h p).pt
      | Or => simp [matT] at h
    | _ => simp [matT] at h
  | .orl ts, n, X, sc, Wi, S, G, e', h => by
    cases e' with
    | BoolOp op es' p =>
      cases op with
      | Or =>
        simp only [matT] at h
        exact (snd_TOr ts n X sc Wi S G es' h p).pt
      | And => simp [matT] at h
    | _ => simp [matT] at h
theorem snd_TAnd : ∀ (ts : List Tx) (n : Wn) (X : Cx) (sc : Scope) (Wi : Wz), XO ad n X N sc Wi lv → GO X.K ad XR W C X.prog X.w X.mg X.base n lv → ∀ es' : List Expr, matTs n N ts sc es' = true → ∀ pos, PW X (.BoolOp .And es' pos) (tT X.K ad XR Wi W C (.andl ts))
  | [], n, X, sc, Wi, S, G, es', h, pos => bad_pw (by rintro σ H Q ⟨s, L, m, F, _, _, h⟩; exact h)
  | [t], n, X, sc, Wi, S, G, es', h, pos => by
    match es', h with
    | [e'], h =>
      simp only [matTs, Bool.and_eq_true] at h
      exact pw_oneAnd (snd_T t n X sc Wi S G e' h.1)
    | [], h => simp [matTs] at h
    | _ :: _ :: _, h => simp [matTs] at h
  | t :: u :: ts, n, X, sc, Wi, S, G, es', h, pos => by
    match es', h with
    | e' :: f' :: es', h =>
      have h2 : matTs n N (u :: ts) sc (f' :: es') = true := by
        simp only [matTs, Bool.and_eq_true] at h ⊢
        exact h.2
      have h1 : matT n N t sc e' = true := by
        simp only [matTs, Bool.and_eq_true] at h
        exact h.1
      exact pw_moreAnd (snd_T t n X sc Wi S G e' h1) (snd_TAnd (u :: ts) n X sc Wi S G (f' :: es') h2 pos)
    | [], h => simp [matTs] at h
    | [_], h => simp [matTs] at h
theorem snd_TOr : ∀ (ts : List Tx) (n : Wn) (X : Cx) (sc : Scope) (Wi : Wz), XO ad n X N sc Wi lv → GO X.K ad XR W C X.prog X.w X.mg X.base n lv → ∀ es' : List Expr, matTs n N ts sc es' = true → ∀ pos, PW X (.BoolOp .Or es' pos) (tT X.K ad XR Wi W C (.orl ts))
  | [], n, X, sc, Wi, S, G, es', h, pos => bad_pw (by rintro σ H Q ⟨s, L, m, F, _, _, h⟩; exact h)
  | [t], n, X, sc, Wi, S, G, es', h, pos => by
    match es', h with
    | [e'], h =>
      simp only [matTs, Bool.and_eq_true] at h
      exact pw_oneOr (snd_T t n X sc Wi S G e' h.1)
    | [], h => simp [matTs] at h
    | _ :: _ :: _, h => simp [matTs] at h
  | t :: u :: ts, n, X, sc, Wi, S, G, es', h, pos => by
    match es', h with
    | e' :: f' :: es', h =>
      have h2 : matTs n N (u :: ts) sc (f' :: es') = true := by
        simp only [matTs, Bool.and_eq_true] at h ⊢
        exact h.2
      have h1 : matT n N t sc e' = true := by
        simp only [matTs, Bool.and_eq_true] at h
        exact h.1
      exact pw_moreOr (snd_T t n X sc Wi S G e' h1) (snd_TOr (u :: ts) n X sc Wi S G (f' :: es') h2 pos)
    | [], h => simp [matTs] at h
    | [_], h => simp [matTs] at h
end
end
end EV

set_option Elab.async false
set_option linter.all false
set_option maxRecDepth 100000
set_option maxHeartbeats 4000000
/-! EV, part K: statements: what they do to the state. -/
namespace EV
open PySem PySem.Spec PyProof.Rows L2
/-- the objects of the def's own cells -/
def OwnC (b : Nat) (L : List Addr) (m : Sto) (a : Addr) : Prop := ∃ i, b ≤ i ∧ live m i ∧ L[i]? = some a
/-- from one state of a def's body to a later one; b: the callers' part of the store -/
structure ExtS (b : Nat) (L : List Addr) (m : Sto) (F H : Hp) (L' : List Addr) (m' : Sto) (F' H' : Hp) : Prop where
  sub : Sub F F'
  keep : ∀ a o, H a = some o → ¬ Own L m a → (∀ ps, o ≠ .tbl ps) → H' a = some o
  base : ∀ i, i < b → L'[i]? = L[i]? ∧ (live m' i ↔ live m i)
  len : m'.length = m.length
  fresh : ∀ a, F' a = F a ∨ Nt H a ∨ OwnC b L m a ∨ IsCd F' a
  there : ∀ a o, H a = some o → (∀ ps, o ≠ .tbl ps) → ∃ o', H' a = some o' ∧ ∀ ps, o' ≠ .tbl ps
  ownC : ∀ a, OwnC b L' m' a → OwnC b L m a ∨ Nt H a
section
variable {K : PySem.W.Frag} {ad : Adr} {XR : Xc → Value → Option Addr → Hp → Hp → Prop} {Wi : Wz} {b : Nat} {L L1 L2' : List Addr} {m m1 m2 : Sto} {F F1 F2 H H1 H2 : Hp}
theorem OwnC.own {a : Addr} (h : OwnC b L m a) : Own L m a := let ⟨i, _, l, e⟩ := h; ⟨i, l, e⟩
theorem ExtS.ownA (e : ExtS b L m F H L1 m1 F1 H1) (a : Addr) (h : Own L1 m1 a) : Own L m a ∨ Nt H a := by
  obtain ⟨i, l, q⟩ := h
  by_cases hi : i < b
  · obtain ⟨e1, e2⟩ := e.base i hi
    exact .inl ⟨i, e2.mp l, by rw [← e1]; exact q⟩
  · rcases e.ownC a ⟨i, by omega, l, q⟩ with z | z
    · exact .inl z.own
    · exact .inr z
theorem ExtS.refl : ExtS b L m F H L m F H := ⟨Sub.refl _, fun _ _ e _ _ => e, fun _ _ => ⟨rfl, Iff.rfl⟩, rfl, fun _ => .inl rfl, fun _ o e t => ⟨o, e, t⟩, fun _ h => .inl h⟩
theorem ExtS.nt (e : ExtS b L m F H L1 m1 F1 H1) {p : Addr} (h : Nt H1 p) : Nt H p := fun o q => by
  by_cases t : ∃ ps, o = .tbl ps
  · exact t
  · obtain ⟨o', z, t'⟩ := e.there p o q fun ps z => t ⟨ps, z⟩
    obtain ⟨ps, w⟩ := h o' z
    exact absurd w (t' ps)
theorem ExtS.trans (e : ExtS b L m F H L1 m1 F1 H1) (f : ExtS b L1 m1 F1 H1 L2' m2 F2 H2) : ExtS b L m F H L2' m2 F2 H2 where
  sub := e.sub.trans f.sub
  keep := fun a o h n t => f.keep a o (e.keep a o h n t) (fun q => by
    rcases e.ownA a q with z | z
    · exact n z
    · obtain ⟨ps, w⟩ := z o h
      exact t ps w) t
  base := fun i hi => ⟨(f.base i hi).1.trans (e.base i hi).1, (f.base i hi).2.trans (e.base i hi).2⟩
  len := f.len.trans e.len
  fresh := fun a => by
    have none_of : Nt H1 a → Nt H a := fun h => e.nt h
    rcases f.fresh a with q | q | q | q
    · rcases e.fresh a with p | p | p | z
      · exact .inl (q.trans p)
      · exact .inr (.inl p)
      · exact .inr (.inr (.inl p))
      · exact .inr (.inr (.inr (z.of q)))
    · exact .inr (.inl (none_of q))
    · rcases e.ownC a q with z | z
      · exact .inr (.inr (.inl z))
      · exact .inr (.inl z)
    · exact .inr (.inr (.inr q))
  there := fun a o h t => by
    obtain ⟨o', z, t'⟩ := e.there a o h t
    exact f.there a o' z t'
  ownC := fun a h => by
    rcases f.ownC a h with z | z
    · exact e.ownC a z
    · exact .inr (e.nt z)
theorem Ext.s (e : Ext L m F H m1 F1 H1) : ExtS b L m F H L m1 F1 H1 where
  sub := e.sub
  keep := e.keep
  base := fun i _ => ⟨rfl, e.own i⟩
  len := e.len
  fresh := fun a => (e.fresh a).imp id fun z => z.imp id .inr
  there := e.there
  ownC := fun a ⟨i, hi, l, q⟩ => .inl ⟨i, hi, (e.own i).mp l, q⟩
variable (K ad) in
/-- what is handed back -/
def relO (L : List Addr) (H0 F' H' : Hp) (r : RV) (x : V) : Prop := relR K ad L H0 F' H' r x
variable (K ad XR Wi) in
def HoldS (r : R Out) (b : Nat) (L : List Addr) (m : Sto) (F H : Hp) (D : Ends) : Prop :=
  match r with
  | .ok (.nx s') m' => ∀ L' F' H' σ', ExtS b L m F H L' m' F' H' → StoR K ad L' m' F' H' → SltR K ad Wi.z L' F' s' σ' → D.nx σ' H'
  | .ok (.brk s') m' => ∀ L' F' H' σ', ExtS b L m F H L' m' F' H' → StoR K ad L' m' F' H' → SltR K ad Wi.z L' F' s' σ' → D.bk σ' H'
  | .ok (.ctn s') m' => ∀ L' F' H' σ', ExtS b L m F H L' m' F' H' → StoR K ad L' m' F' H' → SltR K ad Wi.z L' F' s' σ' → D.ct σ' H'
  | .ok (.ret v) m' => ∀ L' F' H' x, ExtS b L m F H L' m' F' H' → StoR K ad L' m' F' H' → relR K ad L' H F' H' v x → D.rt x H'
  | .exc xc m' => ∀ L' F' H' cls d, ExtS b L m F H L' m' F' H' → StoR K ad L' m' F' H' → XR xc cls d F' H' → Wi cls d H'
  | .bad => False
theorem relR.up {L' : List Addr} {F' H' : Hp} {v : RV} {x : V} (hn : ∀ a, Nt H1 a → Nt H a) (h : relR K ad L' H1 F' H' v x) : relR K ad L' H F' H' v x := by
  cases v with
  | vl v => exact h
  | new ds =>
    obtain ⟨a, vs, e, e1, e2, e3, e4⟩ := h
    exact ⟨a, vs, e, e1, hn a e2, e3, e4⟩
theorem HoldS.step {r : R Out} {D : Ends} (e : ExtS b L m F H L1 m1 F1 H1) (h : HoldS K ad XR Wi r b L m F H D) : HoldS K ad XR Wi r b L1 m1 F1 H1 D := by
  cases r with
  | ok o m' =>
    cases o with
    | nx s' => exact fun L' F' H' σ' e' => h L' F' H' σ' (e.trans e')
    | brk s' => exact fun L' F' H' σ' e' => h L' F' H' σ' (e.trans e')
    | ctn s' => exact fun L' F' H' σ' e' => h L' F' H' σ' (e.trans e')
    | ret v => exact fun L' F' H' x e' st r => h L' F' H' x (e.trans e') st (relR.up (fun a q => e.nt q) r)
  | exc x m' => exact fun L' F' H' c d e' => h L' F' H' c d (e.trans e')
  | bad => exact h
/-- an expression's part of a statement -/
theorem HoldS.bh {α δ : Type} (rel1 : Hp → Hp → α → δ → Prop) {r : R α} {f : α → Sto → R Out} {D : Ends} (h : HoldS K ad XR Wi (r.bind f) b L m F H D) :
    Hold K ad XR Wi rel1 r L m F H fun x H1 => ∃ a m1 F1, r = .ok a m1 ∧ Ext L m F H m1 F1 H1 ∧ StoR K ad L m1 F1 H1 ∧ rel1 F1 H1 a x ∧ HoldS K ad XR Wi (f a m1) b L m1 F1 H1 D := by
  cases r with
  | ok a m' => exact fun F' H' x e s r => ⟨a, m', F', rfl, e, s, r, HoldS.step e.s h⟩
  | exc x m' => exact fun F' H' c d e s r => h L F' H' c d e.s s r
  | bad => exact h
end
section
variable (K : PySem.W.Frag) (ad : Adr) (XR : Xc → Value → Option Addr → Hp → Hp → Prop) (Wi : Wz) (W : Wd) (C : Cal)
def tS (b : Nat) (x : EV.St) : TS := fun D σ H => ∃ s L m F, SltR K ad Wi.z L F s σ ∧ StoR K ad L m F H ∧ b ≤ m.length ∧ HoldS K ad XR Wi (exS W C b x s m) b L m F H D
def tSs (b : Nat) (x : List EV.St) : TS := fun D σ H => ∃ s L m F, SltR K ad Wi.z L F s σ ∧ StoR K ad L m F H ∧ b ≤ m.length ∧ HoldS K ad XR Wi (exs W C b x s m) b L m F H D
end
theorem _root_.L2.PS.imp {X : Cx} {e : Stmt} {t t' : TS} (h : PS X e t) (i : ∀ D σ H, t' D σ H → t D σ H) : PS X e t' := ⟨fun pins s σ H D I hw => h.run pins s σ H D I (i D σ H hw)⟩
theorem _root_.L2.PSs.imp {X : Cx} {e : List Stmt} {t t' : TS} (h : PSs X e t) (i : ∀ D σ H, t' D σ H → t D σ H) : PSs X e t' := ⟨fun pins s σ H D I hw => h.run pins s σ H D I (i D σ H hw)⟩
section
variable {K : PySem.W.Frag} {ad : Adr} {XR : Xc → Value → Option Addr → Hp → Hp → Prop} {Wi : Wz} {W : Wd} {C : Cal} {σ : L2.St} {H : Hp} {s : Slots} {L : List Addr} {m : Sto} {F : Hp} {b : Nat} {Dz : Ends}
variable {X : Cx} {N : List Str} {sc : Scope} {lv : Nat} {n : Wn} {pos p2 : Pos} {e a : Ex} {t0 : Tx} {a' b' c' tg' : Expr}
theorem tSb {β : Type} {f : Vl → Sto → R Out} (hs : SltR K ad Wi.z L F s σ) (hm : StoR K ad L m F H) (h : HoldS K ad XR Wi ((ev W C e s m).bind f) b L m F H Dz) :
    tE K ad XR Wi W C e σ H fun x H1 => ∃ v m1 F1, ev W C e s m = .ok v m1 ∧ Ext L m F H m1 F1 H1 ∧ StoR K ad L m1 F1 H1 ∧ VlR K ad L F1 v x ∧ HoldS K ad XR Wi (f v m1) b L m1 F1 H1 Dz := ⟨s, L, m, F, hs, hm, h.bh (relV K ad L)⟩
theorem tSbs {f : List Vl → Sto → R Out} {es : List Ex} (hs : SltR K ad Wi.z L F s σ) (hm : StoR K ad L m F H) (h : HoldS K ad XR Wi ((evs W C es s m).bind f) b L m F H Dz) :
    tEs K ad XR Wi W C es σ H fun x H1 => ∃ v m1 F1, evs W C es s m = .ok v m1 ∧ Ext L m F H m1 F1 H1 ∧ StoR K ad L m1 F1 H1 ∧ VlRs K ad L F1 v x ∧ HoldS K ad XR Wi (f v m1) b L m1 F1 H1 Dz := ⟨s, L, m, F, hs, hm, h.bh (relVs K ad L)⟩
theorem tSbt {f : Bool → Sto → R Out} (hs : SltR K ad Wi.z L F s σ) (hm : StoR K ad L m F H) (h : HoldS K ad XR Wi ((evT W C t0 s m).bind f) b L m F H Dz) :
    tT K ad XR Wi W C t0 σ H fun x H1 => ∃ v m1 F1, evT W C t0 s m = .ok v m1 ∧ Ext L m F H m1 F1 H1 ∧ StoR K ad L m1 F1 H1 ∧ v = x ∧ HoldS K ad XR Wi (f v m1) b L m1 F1 H1 Dz := ⟨s, L, m, F, hs, hm, h.bh relB⟩
theorem tSbn {f : List D → Sto → R Out} {D0 : Ends} (hs : SltR K ad Wi.z L F s σ) (hm : StoR K ad L m F H) (h : HoldS K ad XR Wi ((evN W C e s m).bind f) b L m F H D0) :
    tN K ad XR Wi W C e σ H fun x H1 => ∃ v m1 F1, evN W C e s m = .ok v m1 ∧ Ext L m F H m1 F1 H1 ∧ StoR K ad L m1 F1 H1 ∧ relN K ad H F1 H1 v x ∧ HoldS K ad XR Wi (f v m1) b L m1 F1 H1 D0 := ⟨s, L, m, F, hs, hm, h.bh (relN K ad H)⟩
/-! ### blocks -/
theorem sf_nil : PSs X [] (tSs X.K ad XR Wi W C b []) := pss_nil.imp fun D σ H ⟨s, L, m, F, hs, hm, _, h⟩ => h L F H σ .refl hm hs
theorem sf_cons {x : EV.St} {r : List EV.St} {x' : Stmt} {r' : List Stmt} (h1 : PS X x' (tS X.K ad XR Wi W C b x)) (h2 : PSs X r' (tSs X.K ad XR Wi W C b r)) : PSs X (x' :: r') (tSs X.K ad XR Wi W C b (x :: r)) := by
  refine (pss_cons h1 h2).imp fun D σ H ⟨s, L, m, F, hs, hm, hb, h⟩ => ?_
  refine ⟨s, L, m, F, hs, hm, hb, ?_⟩
  simp only [exs] at h
  cases q : exS W C b x s m with
  | ok o m1 =>
    rw [q] at h
    simp only [R.bind_ok] at h
    cases o with
    | nx s1 => exact fun L' F' H' σ' e st sl => ⟨s1, L', m1, F', sl, st, by rw [e.len]; exact hb, HoldS.step e h⟩
    | ret v => exact h
    | brk s1 => exact h
    | ctn s1 => exact h
  | exc => rw [q] at h; exact h
  | bad => rw [q] at h; exact h
theorem sf_never {x' : Stmt} : PS X x' (tS X.K ad XR Wi W C b .never) := ps_never.imp fun D σ H ⟨s, L, m, F, hs, hm, _, h⟩ => h
theorem sf_pass : PS X (.Pass pos) (tS X.K ad XR Wi W C b .pas) := ps_pass.imp fun D σ H ⟨s, L, m, F, hs, hm, _, h⟩ => h L F H σ .refl hm hs
theorem sf_brk : PS X (.Break pos) (tS X.K ad XR Wi W C b .brk) := ps_break.imp fun D σ H ⟨s, L, m, F, hs, hm, _, h⟩ => h L F H σ .refl hm hs
theorem sf_ctn : PS X (.Continue pos) (tS X.K ad XR Wi W C b .ctn) := ps_continue.imp fun D σ H ⟨s, L, m, F, hs, hm, _, h⟩ => h L F H σ .refl hm hs
theorem sf_ret (he : PE X a' (tE X.K ad XR Wi W C e)) : PS X (.Return (some a') pos) (tS X.K ad XR Wi W C b (.ret e)) := by
  refine (ps_ret he).imp fun D σ H ⟨s, L, m, F, hs, hm, _, h⟩ => ?_
  simp only [exS] at h
  exact (tSb (β := Unit) hs hm h).mono fun x H1 ⟨v, m1, F1, _, ex, st, r, hh⟩ => hh L F1 H1 x .refl st r
theorem sf_retn : PS X (.Return none pos) (tS X.K ad XR Wi W C b .retn) := ps_retN.imp fun D σ H ⟨s, L, m, F, hs, hm, _, h⟩ => h L F H .non .refl hm .non
theorem sf_retf (he : PE X a' (tN X.K ad XR Wi W C e)) : PS X (.Return (some a') pos) (tS X.K ad XR Wi W C b (.retf e)) := by
  refine (ps_ret he).imp fun D0 σ H ⟨s, L, m, F, hs, hm, _, h⟩ => ?_
  simp only [exS] at h
  refine ⟨s, L, m, F, hs, hm, ?_⟩
  cases q : evN W C e s m with
  | ok ds m1 =>
    rw [q] at h
    exact fun F' H' x ex st r => h L F' H' x ex.s st r
  | exc => rw [q] at h; exact fun F' H' c d ex st r => h L F' H' c d ex.s st r
  | bad => rw [q] at h; exact h
theorem sf_exp (he : PE X a' (tE X.K ad XR Wi W C e)) (hsw : swapsWith a' none pos.line X.env = pure false) : PS X (.Expr a' pos) (tS X.K ad XR Wi W C b (.exp e)) := by
  refine (ps_expr he hsw).imp fun D σ H ⟨s, L, m, F, hs, hm, _, h⟩ => ?_
  simp only [exS] at h
  exact (tSb (β := Unit) hs hm h).mono fun x H1 ⟨v, m1, F1, _, ex, st, r, hh⟩ => hh L F1 H1 σ .refl st (hs.mono ex.sub)
/-- name = e, by the rule at hand -/
theorem set_read {i : Nat} {D : Ends} (h : tS K ad XR Wi W C b (.set (.nm i) e) D σ H) : tAsg (tE K ad XR Wi W C e) (gName i) D σ H := by
  obtain ⟨s, L, m, F, hs, hm, _, h⟩ := h
  simp only [exS] at h
  refine (tSb (β := Unit) hs hm h).mono fun x H1 ⟨v, m1, F1, _, ex, st, r, hh⟩ => ?_
  split at hh
  · rename_i hi
    exact hh L F1 H1 _ .refl st ((hs.mono ex.sub).set hi r)
  · exact hh.elim
theorem setT_read {ts : List Tg} {D : Ends} (h : tS K ad XR Wi W C b (.set (.tp ts) e) D σ H) : tAsg (tE K ad XR Wi W C e) (gD K ad Wi.z (.tp ts)) D σ H := by
  obtain ⟨s, L, m, F, hs, hm, _, h⟩ := h
  simp only [exS] at h
  refine (tSb (β := Unit) hs hm h).mono fun x H1 ⟨v, m1, F1, _, ex, st, r, hh⟩ => ?_
  cases v with
  | loc k => exact hh.elim
  | fns _ => exact hh.elim
  | dat d =>
    dsimp only at hh
    cases et : tgD (.tp ts) d s with
    | none => rw [et] at hh; exact hh.elim
    | some s' =>
      rw [et] at hh
      exact ⟨L, F1, d, s, s', hs.mono ex.sub, r, st.sub, et, fun σ' sl _ => hh L F1 H1 σ' .refl st sl⟩
theorem sf_ife {x y : List EV.St} {x' y' : List Stmt} (hc : PT X c' (tT X.K ad XR Wi W C t0)) (hx : PSs X x' (tSs X.K ad XR Wi W C b x)) (hy : PSs X y' (tSs X.K ad XR Wi W C b y)) : PS X (.If c' x' y' pos) (tS X.K ad XR Wi W C b (.ife t0 x y)) := by
  refine (ps_if hc hx hy).imp fun D σ H ⟨s, L, m, F, hs, hm, hb, h⟩ => ?_
  simp only [exS] at h
  refine (tSbt hs hm h).mono fun v H1 ⟨v', m1, F1, _, ex, st, r, hh⟩ => ?_
  subst r
  cases v' with
  | true => exact iteT ⟨s, L, m1, F1, hs.mono ex.sub, st, by rw [ex.len]; exact hb, hh⟩
  | false => exact iteF ⟨s, L, m1, F1, hs.mono ex.sub, st, by rw [ex.len]; exact hb, hh⟩
theorem sf_whl {x : List EV.St} {x' : List Stmt} (hp : PassesOwn (model X.prog X.w) X.A X.env X.xe) (hc : PT X c' (tT X.K ad XR Wi W C t0)) (hx : PSs X x' (tSs X.K ad XR Wi W C b x)) : PS X (.While c' x' [] pos) (tS X.K ad XR Wi W C b (.whl t0 x)) := by
  refine (ps_while hp hc hx).imp fun D σ H ⟨s, L, m, F, hs, hm, hb, h⟩ => ?_
  simp only [exS] at h
  refine ⟨fun k σ H => ∃ s L m F, SltR X.K ad Wi.z L F s σ ∧ StoR X.K ad L m F H ∧ b ≤ m.length ∧ HoldS X.K ad XR Wi (whlF k _ s m) b L m F H D, ⟨whlMost, s, L, m, F, hs, hm, hb, h⟩, ?_⟩
  rintro k σ H ⟨s, L, m, F, hs, hm, hb, h⟩
  cases k with
  | zero => exact h.elim
  | succ k =>
    unfold whlF at h
    rw [bind_assoc] at h
    refine (tSbt hs hm h).mono fun v H1 ⟨v', m1, F1, _, ex, st, r, hh⟩ => ?_
    subst r
    cases v' with
    | false =>
      refine iteF ?_
      simp only [Bool.false_eq_true, if_false, R.bind_ok] at hh
      exact hh L F1 H1 σ .refl st (hs.mono ex.sub)
    | true =>
      refine iteT ⟨fun σ' H' => ∃ s L m F, SltR X.K ad Wi.z L F s σ' ∧ StoR X.K ad L m F H' ∧ b ≤ m.length ∧ HoldS X.K ad XR Wi (whlF k _ s m) b L m F H' D, fun σ' H' q => ⟨k, Nat.lt_succ_self k, q⟩, s, L, m1, F1, hs.mono ex.sub, st, by rw [ex.len]; exact hb, ?_⟩
      simp only [if_true, bind_assoc] at hh
      cases q : exs W C b x s m1 with
      | ok o m2 =>
        rw [q] at hh
        simp only [R.bind_ok] at hh
        cases o with
        | nx s' => exact fun L' F' H' σ' e st sl => ⟨s', L', m2, F', sl, st, by rw [e.len, ex.len]; exact hb, HoldS.step e hh⟩
        | ctn s' => exact fun L' F' H' σ' e st sl => ⟨s', L', m2, F', sl, st, by rw [e.len, ex.len]; exact hb, HoldS.step e hh⟩
        | brk s' => exact hh
        | ret v => exact hh
      | exc => rw [q] at hh; exact hh
      | bad => rw [q] at hh; exact hh
theorem sf_for {tg : Tg} {ik : IK} {src : List Ex} {iter' : Expr} {x : List EV.St} {x' : List Stmt} (hp : PassesOwn (model X.prog X.w) X.A X.env X.xe) (hc : X.calm = true) (hi : PI X tg' iter' (tI X.K ad XR Wi W C ik src)) (hg : PG X tg' (gD X.K ad Wi.z tg)) (hx : PSs X x' (tSs X.K ad XR Wi W C b x))
    (hse : setB iter' = false) : PS X (.For tg' iter' x' [] pos) (tS X.K ad XR Wi W C b (.fort tg ik src x)) := by
  refine (ps_for hp hc hi hg hx (set_fold hse _)).imp fun D σ H ⟨s, L, m, F, hs, hm, hb, h⟩ => ?_
  simp only [exS] at h
  refine (tSbs hs hm h).mono fun vsV H1 ⟨vs, m1, F1, _, ex1, st1, r1, hh⟩ => ?_
  cases e1 : datsOf vs with
  | none => rw [e1] at hh; exact hh.elim
  | some ds =>
  rw [e1] at hh
  dsimp only at hh
  cases e2 : walkD ik ds with
  | none => rw [e2] at hh; exact hh.elim
  | some xs =>
  rw [e2] at hh
  dsimp only at hh
  split at hh
  case isFalse => exact hh.elim
  case isTrue hz =>
  refine ⟨F1, ds, xs, st1.sub, datsOf_ok e1 r1, e2, fun J wk => ?_⟩
  refine for_it (n := xs.length) (G := fun H => Sub F1 H) (Y := J.yld) ⟨wk.goes, wk.stops, fun _ _ _ _ _ _ h => h⟩
    (fun i σ H => ∃ s L m F, SltR X.K ad Wi.z L F s σ ∧ StoR X.K ad L m F H ∧ b ≤ m.length ∧ Sub F1 F ∧ HoldS X.K ad XR Wi (forF (fun d s m => match tgD tg d s with | some s' => exs W C b x s' m | none => .bad) (xs.drop i) s m) b L m F H D)
    ⟨s, L, m1, F1, hs.mono ex1.sub, st1, by rw [ex1.len]; exact hb, Sub.refl _, hh⟩ (fun i σ H hi ⟨s, L, m, F, _, hm, _, sub, _⟩ => sub.trans hm.sub) ?_ ?_
  · rintro i v σ H H' hi ⟨s, L, m, F, hs, hm, hb, sub, h⟩ hy
    obtain ⟨d, hd⟩ : ∃ d, xs[i]? = some d := ⟨_, List.getElem?_eq_getElem hi⟩
    obtain ⟨F2, g, rx⟩ := wk.yld i d F H v H' hd sub hm.sub hy
    have hdrop : xs.drop i = d :: xs.drop (i + 1) := by
      obtain ⟨h1, h2⟩ := List.getElem?_eq_some_iff.mp hd
      rw [List.drop_eq_getElem_cons h1, h2]
    rw [hdrop] at h
    unfold forF at h
    have h := HoldS.step (b := b) (Ext.s (g.ext (L := L) (m := m))) h
    cases et : tgD tg d s with
    | none => rw [et] at h; exact h.elim
    | some s' =>
      rw [et] at h
      dsimp only at h
      refine ⟨L, F2, d, s, s', hs.mono g.sub, rx, g.low, et, fun σ2 sl2 _ => ⟨s', L, m, F2, sl2, g.sto hm, hb, ?_⟩⟩
      cases q : exs W C b x s' m with
      | ok o m2 =>
        rw [q] at h
        simp only [R.bind_ok] at h
        cases o with
        | nx s3 => exact fun L' F' H' σ' e st sl => ⟨s3, L', m2, F', sl, st, by rw [e.len]; exact hb, (sub.trans g.sub).trans e.sub, HoldS.step e h⟩
        | ctn s3 => exact fun L' F' H' σ' e st sl => ⟨s3, L', m2, F', sl, st, by rw [e.len]; exact hb, (sub.trans g.sub).trans e.sub, HoldS.step e h⟩
        | brk s3 => exact h
        | ret v => exact h
      | exc => rw [q] at h; exact h
      | bad => rw [q] at h; exact h
  · rintro σ H ⟨s, L, m, F, hs, hm, hb, sub, h⟩
    rw [List.drop_length] at h
    exact h L F H σ .refl hm hs
end
end EV

set_option Elab.async false
set_option linter.all false
set_option maxRecDepth 100000
set_option maxHeartbeats 4000000
/-! EV, part L: statements that make and change lists. -/
namespace EV
open PySem PySem.Spec PyProof.Rows L2
section
variable {K : PySem.W.Frag} {ad : Adr} {XR : Xc → Value → Option Addr → Hp → Hp → Prop} {Wi : Wz} {W : Wd} {C : Cal} {σ : L2.St} {H H1 H0 : Hp} {s : Slots} {L : List Addr} {m m1 : Sto} {F F1 : Hp} {b : Nat}
variable {X : Cx} {N : List Str} {sc : Scope} {lv : Nat} {n : Wn} {pos p2 : Pos} {e a : Ex} {t0 : Tx} {a' b' c' tg' : Expr}
/-! ### new lists -/
theorem new_end {ds : List D} {vs : List V} {Q : VK} (hn : ∀ p, Nt H p → Nt H0 p) (st : StoR K ad L m F H) (h : Hold K ad XR Wi (relN K ad H0) (.ok ds m) L m F H Q) (r : RpA K ad F vs ds) : ∀ p, H p = none → Q (.ref p) (upd H p (.lst vs)) := fun p hp => by
  have fp : F p = none := by
    cases q : F p with
    | none => rfl
    | some u => rw [st.sub _ _ q] at hp; cases hp
  have g := Grow.bare (o := .lst vs) st.sub hp
  exact h F (upd H p (.lst vs)) (.ref p) g.ext (g.sto st) ⟨p, vs, rfl, fp, hn p (nt_of hp), upd_same, r⟩
theorem nf_lst {es : List Ex} {es' : List Expr} (h : PA X es' (tEs X.K ad XR Wi W C es)) : PE X (.List es' pos) (tN X.K ad XR Wi W C (.lst es)) := by
  refine (pe_lst h).imp fun σ H Q h => ?_
  obtain ⟨s, L, m, F, hs, hm, h⟩ := h
  simp only [evN] at h
  refine (tEs_bind hs hm h).mono fun xs H1 ⟨vs, m1, F1, b1, r1⟩ => ?_
  have hh := b1.hold
  split at hh
  · rename_i ds e
    split at hh
    · rename_i hz
      have r := datsOf_ok e r1
      exact ⟨by rw [r.len]; exact le_of_sz hz, new_end (fun p q => b1.ext.nt q) b1.sto hh r⟩
    · exact hh.elim
  · exact hh.elim
theorem nf_call {k : Nat} {x : Str} {es : List Ex} {es' : List Expr} {p : Pos} (G : GO X.K ad XR W C X.prog X.w X.mg X.base n lv) (S : XO ad n X N sc Wi lv) (hk : n.fnm[k]? = some x) (hg : Gl X x) (ho : okNm x = true)
    (ha : PA X es' (tEs X.K ad XR Wi W C es)) (hst : es'.all (fun e => !starB e) = true) (hes : es' = [] → es = []) : PE X (.Call (.Name x p) es' [] pos) (tN X.K ad XR Wi W C (.call k es)) := by
  refine ⟨fun pins s₀ σ H Q I h => ?_⟩
  obtain ⟨h1, h2⟩ := G.fn k x hk
  refine wpAny_Call_Name_kw (ld_glob I hg h1 ?_ (okNm_of ho).1)
  have run : ∀ (us : List Value) (s1 : Shared) (vs : List V) (H1 : Hp), L2.Inv X pins σ H1 s1 → Vals vs us → (∃ (a : List Vl) (m1 : Sto) (F1 : Hp) (L : List Addr), StoR X.K ad L m1 F1 H1 ∧ VlRs X.K ad L F1 a vs ∧ Hold X.K ad XR Wi (relR X.K ad L H1) (C k a m1) L m1 F1 H1 Q) →
      wpAny (model X.prog X.w) X.A (call (.ref (ad k)) us) (EP X pins σ Q) X.xe s1 := by
    intro us s1 vs H1 I1 rv ⟨a, m1, F1, L, st, r1, hh⟩
    refine wpAny_call (codeAny_mono (G.run k x hk X.A X.stack s1 H1 us vs Q Wi L m1 F1 a S.room S.grd I1.env0 rv st r1 hh) fun r s' hq => ?_)
    cases r with
    | error e => exact passes_call S.tk (E := Wi) (fun _ _ _ _ q => q) pins σ H1 s1 e s' I1 hq
    | ok fl =>
      cases fl with
      | ret u => exact I1.after hq
      | next => exact False.elim hq
      | brk => exact False.elim hq
      | cont => exact False.elim hq
  obtain ⟨s, L, m, F, hs, hm, h⟩ := h
  simp only [evN] at h
  have cv : ∀ (vs : List Vl) (m1 : Sto) (F1 H1 : Hp), (∀ p, Nt H1 p → Nt H p) → Hold X.K ad XR Wi (relN X.K ad H) ((C k vs m1).bind fun r m => match r with | .new xs => .ok xs m | _ => .bad) L m1 F1 H1 Q → Hold X.K ad XR Wi (relR X.K ad L H1) (C k vs m1) L m1 F1 H1 Q := by
    intro vs m1 F1 H1 hn hh
    cases hC : C k vs m1 with
    | ok r m2 =>
      rw [hC] at hh
      cases r with
      | vl v => exact hh.elim
      | new xs =>
        intro F' H' x ex st' ⟨p, vs, e, e1, e2, e3, e4⟩
        exact hh F' H' x ex st' ⟨p, vs, e, e1, hn p e2, e3, e4⟩
    | exc x m2 => rw [hC] at hh; exact hh
    | bad => rw [hC] at hh; exact hh
  cases es' with
  | nil =>
    have e0 := hes rfl
    subst e0
    have hh : Hold X.K ad XR Wi (relN X.K ad H) ((C k [] m).bind fun r m => match r with | .new xs => .ok xs m | _ => .bad) L m F H Q := h
    exact PySem.W.callWith_K0 I.kIn h2 (run [] s₀ [] H I .nil ⟨[], m, F, L, hm, .nil, cv [] m F H (fun _ q => q) hh⟩)
  | cons e1 es1 =>
    rw [List.all_cons, Bool.and_eq_true, Bool.not_eq_true'] at hst
    refine PySem.W.callWith_K (h₀ := X.base) I.ok.mod.kin h2 (thn (ha.run pos pins s₀ σ H (fun vs H1 => ∃ (a : List Vl) (m1 : Sto) (F1 : Hp) (L : List Addr), StoR X.K ad L m1 F1 H1 ∧ VlRs X.K ad L F1 a vs ∧ Hold X.K ad XR Wi (relR X.K ad L H1) (C k a m1) L m1 F1 H1 Q) I ?_)
      fun us s1 ⟨vs, H1, I1, rv, q⟩ => ⟨I1.kIn, run us s1 vs H1 I1 rv q⟩) (star_each hst.1 _ _) (star_any hst.2 _ _)
    refine (tEs_bind hs hm h).mono fun xs H1 ⟨vs, m1, F1, b1, r1⟩ => ?_
    exact ⟨vs, m1, F1, L, b1.sto, r1, cv vs m1 F1 H1 (fun p q => b1.ext.nt q) b1.hold⟩
theorem nf_mul (ha : PE X a' (tE X.K ad XR Wi W C a)) (hb : PE X b' (tE X.K ad XR Wi W C e)) : PE X (.BinOp a' .Mult b' pos) (tN X.K ad XR Wi W C (.bin .Mult a e)) := by
  refine (pe_op op_rep ha hb).imp fun σ H Q h => ?_
  obtain ⟨s, L, m, F, hs, hm, h⟩ := h
  simp only [evN] at h
  refine (tE_bind hs hm h).mono fun x H1 ⟨v, m1, F1, b1, r1⟩ => ?_
  refine (tE_bind (hs.mono b1.ext.sub) b1.sto b1.hold).mono fun y H2 ⟨u, m2, F2, b2, r2⟩ => ?_
  have hh := b2.hold
  split at hh
  · rename_i xs j hd
    split at hh
    · rename_i hz
      have l := (r1.mono b2.ext.sub).lk b2.sto hd
      cases l with
      | lst p q =>
        cases r2
        simp only [Bool.and_eq_true, decide_eq_true_eq] at hz
        obtain ⟨⟨z1, z2⟩, z3⟩ := hz
        have z3' := le_of_sz z3
        rw [← q.len] at z3'
        exact ⟨_, _, _, rfl, rfl, p, by omega, by omega, z3', new_end (fun p q => b1.ext.nt (b2.ext.nt q)) b2.sto hh (q.rep _)⟩
    · exact hh.elim
  · exact hh.elim
theorem nf_add (ha : PE X a' (tE X.K ad XR Wi W C a)) (hb : PE X b' (tE X.K ad XR Wi W C e)) : PE X (.BinOp a' .Add b' pos) (tN X.K ad XR Wi W C (.bin .Add a e)) := by
  refine (pe_op op_cat ha hb).imp fun σ H Q h => ?_
  obtain ⟨s, L, m, F, hs, hm, h⟩ := h
  simp only [evN] at h
  refine (tE_bind hs hm h).mono fun x H1 ⟨v, m1, F1, b1, r1⟩ => ?_
  refine (tE_bind (hs.mono b1.ext.sub) b1.sto b1.hold).mono fun y H2 ⟨u, m2, F2, b2, r2⟩ => ?_
  have hh := b2.hold
  split at hh
  · rename_i xs ys hd he
    split at hh
    · rename_i hz
      have l := (r1.mono b2.ext.sub).lk b2.sto hd
      have l' := r2.lk b2.sto he
      cases l with
      | lst p q =>
        cases l' with
        | lst p' q' =>
          have z3' := le_of_sz hz
          rw [← q.len, ← q'.len] at z3'
          exact ⟨_, _, _, _, rfl, rfl, p, p', z3', new_end (fun p q => b1.ext.nt (b2.ext.nt q)) b2.sto hh (q.app q')⟩
    · exact hh.elim
  · exact hh.elim
theorem nf_list {x : Str} {p : Pos} (hx : x = ("list" : Str)) (hm : X.mg x = none) (hg : Gl X x) (ha : PE X a' (tE X.K ad XR Wi W C a)) (hst : starB a' = false) : PE X (.Call (.Name x p) [a'] [] pos) (tN X.K ad XR Wi W C (.blt .list [a])) := by
  subst hx
  refine (pe_callTy call_list_of hg hm (bt_boot .list) (pa_cons ha pa_nil (star_each hst _ _)) (by decide) (by decide) (star_each hst _ _) rfl).imp fun σ H Q h => ?_
  obtain ⟨s, L, m, F, hs, hm, h⟩ := h
  simp only [evN] at h
  refine (tE_bind hs hm h).mono fun x H1 ⟨v, m1, F1, b1, r1⟩ => ?_
  have hh := b1.hold
  show ∃ p ys, _
  split at hh
  · rename_i xs hd
    cases r1.lk b1.sto hd with
    | lst p q => exact ⟨_, _, rfl, .inl (SqL.of p), new_end (fun p q => b1.ext.nt q) b1.sto hh q⟩
  · rename_i xs hd
    cases r1.lk b1.sto hd with
    | tup p q => exact ⟨_, _, rfl, .inr (SqT.mono b1.sto.sub p), new_end (fun p q => b1.ext.nt q) b1.sto hh q⟩
  · exact hh.elim
/-! ### the store changed -/
theorem freeOf_ok {n i : Nat} : ∀ {s : Slots} {j : Nat}, freeOf n i j s = true → ∀ k : Nat, s[k]? = some (some (Vl.loc n)) → j + k = i
  | [], _, _, _, e => by simp at e
  | some (.loc q) :: r, j, h, 0, e => by
    simp only [freeOf, Bool.and_eq_true, Bool.or_eq_true] at h
    simp at e
    subst e
    simpa using h.1
  | some (.loc q) :: r, j, h, k + 1, e => by
    simp only [freeOf, Bool.and_eq_true] at h
    have := freeOf_ok h.2 k (by simpa using e)
    omega
  | some (.dat d) :: r, j, h, 0, e => by simp at e
  | some (.dat d) :: r, j, h, k + 1, e => by
    have := freeOf_ok (s := r) (j := j + 1) h k (by simpa using e)
    omega
  | some (.fns d) :: r, j, h, 0, e => by simp at e
  | some (.fns d) :: r, j, h, k + 1, e => by
    have := freeOf_ok (s := r) (j := j + 1) h k (by simpa using e)
    omega
  | none :: r, j, h, 0, e => by simp at e
  | none :: r, j, h, k + 1, e => by
    have := freeOf_ok (s := r) (j := j + 1) h k (by simpa using e)
    omega
theorem newc_sto {p : Addr} {u : HO} {o : MO} {c : Nat} (st : StoR K ad L m F H) (no : ¬ Own L m p) (fp : F p = none) (hp : H p = some u) (r : CellR K ad F o u) (hc : c < m.length) : StoR K ad (L.set c p) (m.set c o) F H where
  sub := st.sub
  obj := fun i ys e nn => by
    by_cases h : c = i
    · subst h
      rw [List.getElem?_set_self hc] at e
      cases e
      exact ⟨p, u, List.getElem?_set_self (by rw [st.len]; exact hc), fp, hp, r⟩
    · rw [List.getElem?_set_ne h] at e
      obtain ⟨a, ws, e1, e2⟩ := st.obj i ys e nn
      exact ⟨a, ws, by rw [List.getElem?_set_ne h]; exact e1, e2⟩
  inj := fun i j a li lj ei ej => by
    have hl : c < L.length := by rw [st.len]; exact hc
    rw [live_set] at li lj
    by_cases h : c = i
    · subst h
      rw [List.getElem?_set_self hl] at ei
      cases ei
      by_cases h' : c = j
      · exact h'
      · rw [List.getElem?_set_ne h'] at ej
        rw [if_neg h'] at lj
        exact absurd ⟨j, lj, ej⟩ no
    · rw [List.getElem?_set_ne h] at ei
      rw [if_neg h] at li
      by_cases h' : c = j
      · subst h'
        rw [List.getElem?_set_self hl] at ej
        cases ej
        exact absurd ⟨i, li, ei⟩ no
      · rw [List.getElem?_set_ne h'] at ej
        rw [if_neg h'] at lj
        exact st.inj i j a li lj ei ej
  len := by rw [List.length_set, List.length_set]; exact st.len
  tabs := st.tabs
  nt := st.nt
theorem newl_sto {p : Addr} {vs : List V} {xs : List D} {c : Nat} (st : StoR K ad L m F H) (no : ¬ Own L m p) (fp : F p = none) (hp : H p = some (.lst vs)) (r : RpA K ad F vs xs) (hc : c < m.length) : StoR K ad (L.set c p) (m.set c (.lst xs)) F H := newc_sto st no fp hp (.lst r) hc
theorem newl_slt {p : Addr} {c i : Nat} (sl : SltR K ad Wi.z L F s σ) (hl : c < L.length) (hi : i < s.length) (fr : freeOf c i 0 s = true) : SltR K ad Wi.z (L.set c p) F (s.set i (some (.loc c))) (σ.set i (some (.ref p))) where
  len := by rw [List.length_set, List.length_set]; exact sl.len
  at_ := fun j v e => by
    by_cases h : i = j
    · subst h
      rw [List.getElem?_set_self hi] at e
      cases e
      exact ⟨.ref p, List.getElem?_set_self (by rw [sl.len]; exact hi), p, List.getElem?_set_self hl, rfl⟩
    · rw [List.getElem?_set_ne h] at e ⊢
      obtain ⟨x, e1, r⟩ := sl.at_ j v e
      refine ⟨x, e1, ?_⟩
      cases v with
      | dat d => exact r
      | loc k =>
        obtain ⟨a, e2, e3⟩ := r
        have hk : c ≠ k := fun z => by
          subst z
          have := freeOf_ok fr j e
          omega
        exact ⟨a, by rw [List.getElem?_set_ne hk]; exact e2, e3⟩
      | fns ks => exact r
theorem newc_ext {p : Addr} {o : MO} {c : Nat} (e : ExtS b L m F H L1 m1 F1 H1) (hp : Nt H p) (hb : b ≤ c) : ExtS b L m F H (L1.set c p) (m1.set c o) F1 H1 where
  sub := e.sub
  keep := e.keep
  base := fun i hi => by
    have h : c ≠ i := by omega
    refine ⟨(List.getElem?_set_ne h).trans (e.base i hi).1, ?_⟩
    rw [live_set, if_neg h]
    exact (e.base i hi).2
  len := by rw [List.length_set]; exact e.len
  fresh := e.fresh
  there := e.there
  ownC := fun a ⟨i, hi, l, q⟩ => by
    rw [live_set] at l
    by_cases h : c = i
    · subst h
      by_cases hl : c < L1.length
      · rw [List.getElem?_set_self hl] at q
        cases q
        exact .inr hp
      · rw [List.getElem?_eq_none (by rw [List.length_set]; omega)] at q; cases q
    · rw [if_neg h] at l
      rw [List.getElem?_set_ne h] at q
      exact e.ownC a ⟨i, hi, l, q⟩
theorem newl_ext {p : Addr} {xs : List D} {c : Nat} (e : Ext L m F H m1 F1 H1) (hp : Nt H p) (hb : b ≤ c) : ExtS b L m F H (L.set c p) (m1.set c (.lst xs)) F1 H1 := newc_ext e.s hp hb
theorem newl_read {i c : Nat} {D : Ends} (h : tS K ad XR Wi W C b (.newl i c e) D σ H) : tAsg (tN K ad XR Wi W C e) (gName i) D σ H := by
  obtain ⟨s, L, m, F, hs, hm, _, h⟩ := h
  simp only [exS] at h
  refine ⟨s, L, m, F, hs, hm, ?_⟩
  cases q : evN W C e s m with
  | ok xs m1 =>
    rw [q] at h
    simp only [R.bind_ok] at h
    intro F' H' x ex st ⟨p, vs, e0, e1, e2, e3, e4⟩
    subst e0
    split at h
    · rename_i hc
      simp only [Bool.and_eq_true, decide_eq_true_eq] at hc
      obtain ⟨⟨h1, h2⟩, h3⟩ := hc
      exact h _ F' H' _ (newl_ext ex e2 (by omega)) (newl_sto st (ex.notOwn hm e2) e1 e3 e4 h2) (newl_slt (hs.mono ex.sub) (by rw [st.len]; exact h2) h1 h3)
    · exact h.elim
  | exc => rw [q] at h; exact fun F' H' c d ex st r => h L F' H' c d ex.s st r
  | bad => rw [q] at h; exact h
theorem upd_ext {k : Nat} {p : Addr} {u : HO} {o : MO} (lk : live m k) (el : L[k]? = some p) (r : CellR K ad F o u) : ExtS b L m F H L (m.set k o) F (upd H p u) := (upd_extE lk el r).s
theorem locAt_of {i k : Nat} (sl : SltR K ad Wi.z L F s σ) (h : locAt s i = some k) : ∃ p, σ[i]? = some (some (.ref p)) ∧ L[k]? = some p := by
  unfold locAt at h
  split at h
  · rename_i q e
    cases h
    obtain ⟨x, e1, p, e2, rfl⟩ := sl.at_ i _ e
    exact ⟨p, e1, e2⟩
  · cases h
/-- x[e1] = e2, a list or a dict -/
def rSetA : TSet := fun o i v H Q => rSetL o i v H Q ∨ rSetD o i v H Q
theorem set_any {X : Cx} (hu : X.A.units + 64 < cLine) : PSet X rSetA := by
  intro pins s σ H o i v ov iv u Q I ro ri rv h
  rcases h with h | h
  · exact set_list pins s σ H o i v ov iv u Q I ro ri rv h
  · exact set_dict (by omega) pins s σ H o i v ov iv u Q I ro ri rv h
theorem sset_of {F H : Hp} {o o' : MO} {u : HO} {g d : D} {x y : V} {p : Addr} (sub : Sub F H) (c : CellR K ad F o u) (hp : H p = some u) (ly : Lk K ad F H y g) (rd : Rp K ad F x d) (eo : ssetO o g d = some o') :
    ∃ u', CellR K ad F o' u' ∧ ∀ Q : Hp → Prop, Q (upd H p u') → rSetA (.ref p) y x H Q := by
  cases c with
  | @lst xs vs rr =>
    cases g with
    | int j =>
      obtain ⟨q, ej, rfl⟩ := Option.map_eq_some_iff.mp (show (ixD xs.length j).map (fun p => MO.lst (xs.set p d)) = some o' from eo)
      cases ly
      exact ⟨_, .lst (RpA.set rd q rr), fun Q h => .inl ⟨p, vs, j, q, rfl, rfl, hp, by rw [← ixD_eq, rr.len]; exact ej, h⟩⟩
    | _ => cases eo
  | @dK ks ds vs l rr =>
    obtain ⟨k', hk', eo⟩ := Option.bind_eq_some_iff.mp (show ((keyD g).bind fun k => if decide (ks.length < sizeLine) then some (MO.dK (putKs ks k) (putA ks ds k d)) else none) = some o' from eo)
    split at eo
    case isFalse => cases eo
    case isTrue hz =>
    cases eo
    refine ⟨_, .dK (put_len k' x l) (put_rel rd rr), fun Q h => .inr ⟨p, _, rfl, .inl ⟨_, k', hp, key_lk ly hk', by rw [zip_len l]; exact of_decide_eq_true hz, rfl⟩, ?_⟩⟩
    rw [put_zip k' x l]
    exact h
  | @dT ks ds vs l rr =>
    cases g with
    | ktp k' =>
      have eo' : (if decide (ks.length < sizeLine) then some (MO.dT (putKs ks k') (putA ks ds k' d)) else none) = some o' := eo
      split at eo'
      case isFalse => cases eo'
      case isTrue hz =>
      cases eo'
      cases ly with
      | @ktp b' _ hb' =>
        refine ⟨_, .dT (put_len k' x l) (put_rel rd rr), fun Q h => .inr ⟨p, _, rfl, .inr ⟨_, k', b', hp, rfl, sub _ _ hb', by rw [zip_len l]; exact of_decide_eq_true hz, rfl⟩, ?_⟩⟩
        rw [put_zip k' x l]
        exact h
    | _ => cases eo
theorem sset_read {i : Nat} {ix : Ex} {D : Ends} (h : tS K ad XR Wi W C b (.sset i ix e) D σ H) : tAsg (tE K ad XR Wi W C e) (gSub (tVar i) (tE K ad XR Wi W C ix) rSetA) D σ H := by
  obtain ⟨s, L, m, F, hs, hm, hb, h⟩ := h
  simp only [exS] at h
  cases el : locAt s i with
  | none => rw [el] at h; exact h.elim
  | some k =>
    rw [el] at h
    refine (tSb (β := Unit) hs hm h).mono fun x H1 ⟨v, m1, F1, _, ex, st, r, hh⟩ => ?_
    have hs1 := hs.mono ex.sub
    obtain ⟨p, e1, e2⟩ := locAt_of hs1 el
    refine ⟨_, e1, ?_⟩
    refine (tSb (β := Unit) hs1 st hh).mono fun y H2 ⟨u, m2, F2, _, ex2, st2, r2, hk⟩ => ?_
    cases v with
    | loc _ => exact hk.elim
    | fns _ => exact hk.elim
    | dat d =>
    cases u with
    | loc _ => exact hk.elim
    | fns _ => exact hk.elim
    | dat g =>
    dsimp only at hk
    cases em : m2[k]? with
    | none => rw [em] at hk; exact hk.elim
    | some o =>
    rw [em] at hk
    dsimp only at hk
    cases eo : ssetO o g d with
    | none => rw [eo] at hk; exact hk.elim
    | some o' =>
    rw [eo] at hk
    dsimp only at hk
    have rd := r.mono ex2.sub
    have nn : o ≠ MO.nil := by
      intro z; subst z; cases eo
    obtain ⟨p', u', q1, q2, q3, q4⟩ := st2.obj k _ em nn
    rw [e2] at q1; cases q1
    obtain ⟨u2, cr, fin⟩ := sset_of st2.sub q4 q3 (r2.lk st2 (d := g) rfl) rd eo
    exact fin _ (hk L F2 _ σ (upd_ext ⟨_, em, nn⟩ e2 cr) (upd_sto st2 ⟨_, em, nn⟩ e2 cr) (hs1.mono ex2.sub))
end
end EV

set_option Elab.async false
set_option linter.all false
set_option maxRecDepth 100000
set_option maxHeartbeats 4000000
/-! EV, part M: the other statements. -/
namespace EV
open PySem PySem.Spec PyProof.Rows L2
/-! ### what the compiler does with a tuple's stores, and with a comprehension at a name -/
def compB : Expr → Bool
  | .ListComp _ _ _ _ => true
  | .SetComp _ _ _ _ => true
  | .DictComp _ _ _ _ _ => true
  | _ => false
theorem sw_plain {e : Expr} (h : compB e = false) (t : Option Expr) (l : Nat) (env : Env) : swapsWith e t l env = pure false := by
  cases e <;> first | rfl | cases h
/-- the names stored in one go, as the compiler does it; none: the model has no word -/
def swpB (sc : Scope) (ts vs : List Expr) : Option (Option (List Str)) :=
  if !(ts.length == 2 || ts.length == 3) || vs.length != ts.length then some none
  else if vs.any (fun | .Starred .. => true | _ => false) then some none
  else
    let line := (ts.head?.map (·.pos.line)).getD 0
    let names := ts.filterMap fun
      | .Name id pos => if sc.names.lookup id == some .local && pos.line == line then some id else none
      | _ => none
    if names.length != ts.length || names.eraseDups.length != names.length then some none
    else if vs.all (foldedForSure 8) then some none
    else if vs.all (constantsAlone 8) then none
    else some (some names)
theorem swp_of {sc : Scope} {env : Env} {ts vs : List Expr} {o : Option (List Str)} {k k2 p p2} (hs : env.scope = sc) (hk : sc.kind = .function) (h : swpB sc ts vs = some o) : swappedStores [.Tuple ts k p] (.Tuple vs k2 p2) env = pure o := by
  have hb : env.blockKind = .function := by
    unfold Env.blockKind
    rw [hs, hk]
    rfl
  have hkd : ∀ id, env.kindOf id = sc.names.lookup id := fun id => by rw [← hs]; rfl
  unfold swpB at h
  unfold swappedStores
  simp only [hb, hkd]
  dsimp only at h
  have z : ∀ c : Bool, (c || (ScopeKind.function != ScopeKind.function)) = c := fun c => Bool.or_false c
  rw [z]
  split at h
  · rename_i g
    cases h
    exact if_pos g
  · rename_i g
    refine (if_neg g).trans ?_
    split at h
    · rename_i g
      cases h
      exact if_pos g
    · rename_i g
      refine (if_neg g).trans ?_
      split at h
      · rename_i g
        cases h
        exact if_pos g
      · rename_i g
        refine (if_neg g).trans ?_
        split at h
        · rename_i g
          cases h
          exact if_pos g
        · rename_i g
          refine (if_neg g).trans ?_
          split at h
          · cases h
          · rename_i g
            cases h
            exact if_neg g
theorem swp_none {env : Env} {t e : Expr} (h : isTupE e = false) : swappedStores [t] e env = pure none := by
  cases t <;> cases e <;> first | rfl | cases h
/-- where statements of a def run -/
structure SO (ad : Adr) (n : Wn) (X : Cx) (N : List Str) (sc : Scope) (Wi : Wz) (lv : Nat) : Prop extends XO ad n X N sc Wi lv where
  stb : StB X sc
  own : PassesOwn (model X.prog X.w) X.A X.env X.xe
  kd : sc.kind = .function
  sh : X.stack = X.env :: X.outer
  sf : X.env.frame = some X.env.locals
section
variable {K : PySem.W.Frag} {ad : Adr} {XR : Xc → Value → Option Addr → Hp → Hp → Prop} {Wi : Wz} {W : Wd} {C : Cal} {σ : L2.St} {H H1 H0 : Hp} {s : Slots} {L : List Addr} {m m1 : Sto} {F F1 : Hp} {b : Nat}
variable {X : Cx} {N : List Str} {sc : Scope} {lv : Nat} {n : Wn} {pos p2 : Pos} {e a : Ex} {t0 : Tx} {a' b' c' tg' : Expr}
/-! ### x.append(e), x += e -/
theorem all_plain {e : Expr} (h : starB e = false) (pos : Pos) (env : Env) : (backTo pos (starEach [e] env)).all (fun x => !x.1) = true := by
  rw [star_each h]
  rfl
theorem app_read {i : Nat} {D : Ends} (h : tS X.K ad XR Wi W C b (.app i e) D σ H) : tDrop (tBM X.K "list" rAppend (tVar i) (tEs X.K ad XR Wi W C [e])) D σ H := by
  obtain ⟨s, L, m, F, hs, hm, hb, h⟩ := h
  simp only [exS] at h
  cases el : locAt s i with
  | none => rw [el] at h; exact h.elim
  | some k =>
    rw [el] at h
    obtain ⟨p, e1, e2⟩ := locAt_of hs el
    refine ⟨_, e1, ?_⟩
    dsimp only at h
    split at h
    case isFalse => exact h.elim
    case isTrue hl =>
    refine ⟨?_, ?_⟩
    · unfold isLs at hl
      split at hl
      · rename_i xs q
        obtain ⟨p', vs, q1, q2, q3, q4⟩ := hm.lstAt k xs q
        rw [e2] at q1; cases q1
        exact .inl ⟨rfl, vs, SqL.of q3⟩
      · cases hl
    · refine tSbs (es := [e]) (f := fun vs m1 => match vs with | [.dat d] => (match m1[k]? with | some (.lst xs) => if szOk (xs.length + 1) then .ok (.nx s) (m1.set k (.lst (xs ++ [d]))) else .bad | _ => .bad) | _ => .bad) (b := b) (Dz := D) hs hm ?_ |>.mono fun xs H1 ⟨vs, m1, F1, _, ex, st, r, hk⟩ => ?_
      · simp only [evs, bind_assoc, R.bind_ok]
        cases q : ev W C e s m with
        | ok v m1 =>
          rw [q] at h
          simp only [R.bind_ok] at h ⊢
          cases v <;> exact h
        | exc => rw [q] at h; exact h
        | bad => rw [q] at h; exact h
      · split at hk
        · rename_i d
          split at hk
          · rename_i ys em
            split at hk
            · rename_i hz
              obtain ⟨p', ws, q1, q2, q3, q4⟩ := st.lstAt k ys em
              rw [e2] at q1; cases q1
              cases r with
              | cons r1 r2 =>
                cases r2
                have hz' := le_of_sz hz
                refine ⟨p, ws, _, rfl, rfl, q3, by rw [q4.len]; omega, ?_⟩
                exact hk L F1 _ σ (upd_ext (live_lst em) e2 (.lst (q4.app (.cons r1 .nil)))) (upd_sto st (live_lst em) e2 (.lst (q4.app (.cons r1 .nil)))) (hs.mono ex.sub)
            · exact hk.elim
          · exact hk.elim
        · exact hk.elim
theorem sf_app {i : Nat} {x : Str} {p1 ap cp : Pos} (hx : PE X (.Name x p1) (tVar i)) (ha : PE X a' (tE X.K ad XR Wi W C e)) (hst : starB a' = false) (hl : (ap.endLine == cp.line) = true) :
    PS X (.Expr (.Call (.Attribute (.Name x p1) "append" ap) [a'] [] cp) pos) (tS X.K ad XR Wi W C b (.app i e)) :=
  (ps_expr (pe_bm PySem.F.plainAttrs_list PySem.F.slot_list_append PySem.F.type_list_append (mt_append) hx (pfs_cons ha pfs_nil hst) rfl (by rw [star_each hst]; rfl) hl (star_each hst _ _) rfl) rfl).imp fun D σ H h => app_read h
theorem aug_read {i : Nat} {op : Operator} {D : Ends} {f : Int → Int → Int} (h : tS X.K ad XR Wi W C b (.aug i op e) D σ H)
    (hf : (op = .Add ∧ f = fun i j => i + j) ∨ (op = .Sub ∧ f = fun i j => i - j)) : tAug i (tE X.K ad XR Wi W C e) (ipI f) D σ H := by
  obtain ⟨s, L, m, F, hs, hm, hb, h⟩ := h
  simp only [exS] at h
  split at h
  case h_2 => exact h.elim
  case h_1 d e1 =>
  obtain ⟨x, q1, r1⟩ := hs.at_ i _ e1
  refine ⟨x, q1, ?_⟩
  refine (tSb (β := Unit) hs hm h).mono fun y H1 ⟨v, m1, F1, _, ex, st, r, hk⟩ => ?_
  have hi : i < s.length := (List.getElem?_eq_some_iff.mp e1).1
  clear h
  cases d with
  | int x =>
    cases v with
    | loc k => rcases hf with ⟨rfl, rfl⟩ | ⟨rfl, rfl⟩ <;> exact hk.elim
    | fns k => rcases hf with ⟨rfl, rfl⟩ | ⟨rfl, rfl⟩ <;> exact hk.elim
    | dat g =>
      cases g with
      | int y =>
        cases r1
        have r' : Rp X.K ad F1 _ (.int y) := r
        cases r'
        rcases hf with ⟨rfl, rfl⟩ | ⟨rfl, rfl⟩
        · exact ⟨_, _, rfl, rfl, hk L F1 H1 _ .refl st ((hs.mono ex.sub).set hi (.int _))⟩
        · exact ⟨_, _, rfl, rfl, hk L F1 H1 _ .refl st ((hs.mono ex.sub).set hi (.int _))⟩
      | _ => rcases hf with ⟨rfl, rfl⟩ | ⟨rfl, rfl⟩ <;> exact hk.elim
  | _ => rcases hf with ⟨rfl, rfl⟩ | ⟨rfl, rfl⟩ <;> exact hk.elim
/-! ### raise -/
theorem sf_rse {k j : Nat} {kx : Xk} {z : Str} {q1 q2 q3 : Pos} (G : GO X.K ad XR W C X.prog X.w X.mg X.base n lv) (S : XO ad n X N sc Wi lv) (hk : W.xk[k]? = some kx) (hfp : kx.fp.isNone = true) (hgl : Gl X kx.g) (hok : okNm kx.g = true) :
    PS X (.Raise (some (.Call (.Name kx.g q1) [.Constant (.str z) j q2] [] q3)) none pos) (tS X.K ad XR Wi W C b (.rse k)) := by
  have xf := G.exc k kx hk
  obtain ⟨B, newId, initId, bmB, FB, q⟩ := xf.pl (Option.isNone_iff_eq_none.mp hfp)
  refine (ps_raise S.calm S.tk (pmk_own FB q xf.mg xf.kp (raises_own xf.sb xf.ty) hgl (okNm_of hok).1)).imp fun D σ H ⟨s, L, m, F, hs, hm, hb, h⟩ => ?_
  have e : plainB W k = true := by unfold plainB; rw [hk]; exact hfp
  simp only [exS, e, if_true] at h
  exact h L F H (.ref (ad.ex k)) none .refl hm (by rw [G.xre]; exact ⟨rfl, kx, hk, trivial⟩)
theorem sf_rsk {k : Nat} {kx : Xk} {q1 q3 : Pos} (G : GO X.K ad XR W C X.prog X.w X.mg X.base n lv) (S : XO ad n X N sc Wi lv) (hk : W.xk[k]? = some kx) (hfp : kx.fp.isSome = true) (hgl : Gl X kx.g) (hok : okNm kx.g = true) (hst : starB a' = false) (ha : PE X a' (tE X.K ad XR Wi W C e)) :
    PS X (.Raise (some (.Call (.Name kx.g q1) [a'] [] q3)) none pos) (tS X.K ad XR Wi W C b (.rsk k e)) := by
  have xf := G.exc k kx hk
  obtain ⟨fp, efp⟩ := Option.isSome_iff_exists.mp hfp
  refine (ps_raise S.calm S.tk (pmk_ini xf efp rfl hgl hok S.grd (S.room.mono (Nat.zero_le _)) ha hst)).imp fun D σ H ⟨s, L, m, F, hs, hm, hb, h⟩ => ?_
  simp only [exS] at h
  refine (tSb (β := Unit) hs hm h).mono fun x H1 ⟨v, m1, F1, _, ex, st, r, hh⟩ => ?_
  cases v with
  | loc i => exact hh.elim
  | fns _ => exact hh.elim
  | dat d =>
    dsimp only at hh
    split at hh
    case isFalse => exact hh.elim
    case isTrue hkb =>
    have hfo : fpsOk (reprD d) (plainD d) Str.empty fp = true := by
      unfold keepB at hkb
      rw [hk] at hkb
      dsimp only at hkb
      rw [efp] at hkb
      exact hkb
    have r' : Rp X.K ad F1 x d := r
    refine ⟨F1, d, st.sub, r'.lk st.sub, hfo, fun dx hdx => ?_⟩
    have g := Grow.new (o := .xd [(kx.fld, x)]) st.sub hdx
    exact hh L _ _ (.ref (ad.ex k)) (some dx) (Ext.s (b := b) g.ext) (g.sto st) (by rw [G.xre]; exact ⟨rfl, kx, hk, dx, x, rfl, upd_same, r'.mono g.sub⟩)
end
end EV

set_option Elab.async false
set_option linter.all false
set_option maxRecDepth 100000
set_option maxHeartbeats 4000000
/-! EV, part 4: new dicts; parts of a parallel store that are new. -/
namespace EV
open PySem PySem.Spec PyProof.Rows L2
def setAll : L2.St → List Nat → List V → L2.St
  | σ, i :: is, x :: xs => setAll (σ.set i (some x)) is xs
  | σ, _, _ => σ
/-- no new object of these lies at p -/
def notAt (p : Addr) : List PV → List V → Prop
  | .nw _ _ :: ps, x :: xs => x ≠ .ref p ∧ notAt p ps xs
  | .vl _ :: ps, _ :: xs => notAt p ps xs
  | _, _ => True
section
variable (K : PySem.W.Frag) (ad : Adr)
/-- a cell that is new behind H0 and not frozen -/
def relM (H0 : Hp) : Hp → Hp → MO → V → Prop := fun F' H' o x => ∃ p u, x = .ref p ∧ F' p = none ∧ Nt H0 p ∧ H' p = some u ∧ CellR K ad F' o u
inductive PVs (H0 F H : Hp) : List PV → List V → Prop
  | nil : PVs H0 F H [] []
  | vl {d : D} {x : V} {ps : List PV} {xs : List V} : Rp K ad F x d → PVs H0 F H ps xs → PVs H0 F H (.vl d :: ps) (x :: xs)
  | nw {c : Nat} {o : MO} {p : Addr} {u : HO} {ps : List PV} {xs : List V} : F p = none → Nt H0 p → H p = some u → CellR K ad F o u → notAt p ps xs → PVs H0 F H ps xs → PVs H0 F H (.nw c o :: ps) (.ref p :: xs)
def relPs (H0 : Hp) : Hp → Hp → List PV → List V → Prop := fun F' H' ps xs => PVs K ad H0 F' H' ps xs
end
section
variable {K : PySem.W.Frag} {ad : Adr} {XR : Xc → Value → Option Addr → Hp → Hp → Prop} {Wi : Wz} {W : Wd} {C : Cal} {σ : L2.St} {H H1 H2 H0 : Hp} {s : Slots} {L L0 L1 : List Addr} {m m0 m1 m2 : Sto} {F F0 F1 F2 : Hp} {b : Nat}
variable {X : Cx} {N : List Str} {sc : Scope} {lv : Nat} {n : Wn} {pos p2 : Pos} {e a : Ex} {t0 : Tx} {a' b' c' tg' : Expr}
theorem PVs.notAt {p : Addr} {u : HO} (hp : H1 p = some u) (hc : IsCell u) : ∀ {ps : List PV} {xs : List V}, PVs K ad H1 F H ps xs → notAt p ps xs
  | _, _, .nil => True.intro
  | _, _, .vl _ r => by
    have z := PVs.notAt hp hc r
    exact z
  | _, _, .nw _ g _ _ _ r => ⟨fun z => by cases z; exact g.cell hp hc, PVs.notAt hp hc r⟩
theorem PVs.up (hn : ∀ a, Nt H1 a → Nt H0 a) : ∀ {ps : List PV} {xs : List V}, PVs K ad H1 F H ps xs → PVs K ad H0 F H ps xs
  | _, _, .nil => .nil
  | _, _, .vl a r => .vl a (PVs.up hn r)
  | _, _, .nw f g h c d r => .nw f (hn _ g) h c d (PVs.up hn r)
theorem PVs.at {H' : Hp} (hk : ∀ a u, H a = some u → IsCell u → H' a = some u) : ∀ {ps : List PV} {xs : List V}, PVs K ad H0 F H ps xs → PVs K ad H0 F H' ps xs
  | _, _, .nil => .nil
  | _, _, .vl a r => .vl a (PVs.at hk r)
  | _, _, .nw f g h c d r => .nw f g (hk _ _ h c.isCell) c d (PVs.at hk r)
theorem PVs.len : ∀ {ps : List PV} {xs : List V}, PVs K ad H0 F H ps xs → ps.length = xs.length
  | _, _, .nil => rfl
  | _, _, .vl _ r => congrArg Nat.succ (PVs.len r)
  | _, _, .nw _ _ _ _ _ r => congrArg Nat.succ (PVs.len r)
/-- a new object stays as it is while more is done -/
theorem Ext.stays {p : Addr} {u : HO} (ex : Ext L m F H m1 F1 H1) (st : StoR K ad L m1 F1 H1) (no : ¬ Own L m p) (fp : F p = none) (hp : H p = some u) (hc : IsCell u) : F1 p = none ∧ H1 p = some u := by
  have h1 := ex.keep p u hp no hc.ntb
  refine ⟨?_, h1⟩
  rcases ex.fresh p with q | q | q
  · rw [q]; exact fp
  · exact (q.cell hp hc).elim
  · exact (q.cell st.sub h1 hc).elim
variable (K ad XR Wi W C) in
def tPs (ps : List PX) : TA := fun σ H Q => ∃ s L m F, SltR K ad Wi.z L F s σ ∧ StoR K ad L m F H ∧ Hold K ad XR Wi (relPs K ad H) (evP W C ps s m) L m F H Q
theorem tPs.mono {ps : List PX} {Q Q' : List V → Hp → Prop} (h : tPs K ad XR Wi W C ps σ H Q) (q : ∀ x H, Q x H → Q' x H) : tPs K ad XR Wi W C ps σ H Q' := by
  obtain ⟨s, L, m, F, hs, hm, h⟩ := h
  exact ⟨s, L, m, F, hs, hm, h.mono q⟩
theorem tN.mono {e : Ex} {Q Q' : VK} (h : tN K ad XR Wi W C e σ H Q) (q : ∀ x H, Q x H → Q' x H) : tN K ad XR Wi W C e σ H Q' := by
  obtain ⟨s, L, m, F, hs, hm, h⟩ := h
  exact ⟨s, L, m, F, hs, hm, h.mono q⟩
theorem pp_nil : PA X [] (tPs X.K ad XR Wi W C []) := by
  refine pa_nil.imp fun σ H Q h => ?_
  obtain ⟨s, L, m, F, hs, hm, h⟩ := h
  exact h.now (a := []) hm (.refl hm.sub) .nil
theorem pp_vl {ps : List PX} {e' : Expr} {es' : List Expr} (ha : PE X e' (tE X.K ad XR Wi W C e)) (hr : PA X es' (tPs X.K ad XR Wi W C ps)) (hst : starB e' = false) : PA X (e' :: es') (tPs X.K ad XR Wi W C (.vl e :: ps)) := by
  refine (pa_cons ha hr (star_each hst _ _)).imp fun σ H Q h => ?_
  obtain ⟨s, L, m, F, hs, hm, h⟩ := h
  simp only [evP] at h
  refine (tE_bind hs hm h).mono fun x H1 ⟨v, m1, F1, b1, r1⟩ => ?_
  have hh := b1.hold
  cases v with
  | loc _ => exact hh.elim
  | fns _ => exact hh.elim
  | dat d =>
  refine ⟨s, L, m1, F1, hs.mono b1.ext.sub, b1.sto, (hh.bh (relPs X.K ad H1)).mono fun xs H2 ⟨vs, m2, F2, b2, r2⟩ => ?_⟩
  exact b2.hold.now b2.sto (.refl b2.sto.sub) (.vl (Rp.mono b2.ext.sub r1) (PVs.up (fun a q => b1.ext.nt q) r2))
theorem pp_nl {ps : List PX} {c : Nat} {e' : Expr} {es' : List Expr} (ha : PE X e' (tN X.K ad XR Wi W C e)) (hr : PA X es' (tPs X.K ad XR Wi W C ps)) (hst : starB e' = false) : PA X (e' :: es') (tPs X.K ad XR Wi W C (.nl c e :: ps)) := by
  refine (pa_cons ha hr (star_each hst _ _)).imp fun σ H Q h => ?_
  obtain ⟨s, L, m, F, hs, hm, h⟩ := h
  simp only [evP] at h
  refine ⟨s, L, m, F, hs, hm, (h.bh (relN X.K ad H)).mono fun x H1 ⟨vs, m1, F1, b1, p, us, e0, e1, e2, e3, e4⟩ => ?_⟩
  subst e0
  have no : ¬ Own L m1 p := b1.ext.notOwn hm e2
  refine ⟨s, L, m1, F1, hs.mono b1.ext.sub, b1.sto, (b1.hold.bh (relPs X.K ad H1)).mono fun xs H2 ⟨ws, m2, F2, b2, r2⟩ => ?_⟩
  obtain ⟨g1, g2⟩ := b2.ext.stays b2.sto no e1 e3 (.lst us)
  exact b2.hold.now b2.sto (.refl b2.sto.sub) (.nw g1 e2 g2 (.lst (e4.mono b2.ext.sub)) (r2.notAt e3 (.lst us)) (PVs.up (fun a q => b1.ext.nt q) r2))
theorem fnone {p : Addr} (s : Sub F H) (h : H p = none) : F p = none := by
  cases q : F p with
  | none => rfl
  | some o => rw [s _ _ q] at h; cases h
theorem pp_nd {ps : List PX} {c : Nat} {t : Bool} {pos : Pos} {es' : List Expr} (hr : PA X es' (tPs X.K ad XR Wi W C ps)) : PA X (.Dict [] [] pos :: es') (tPs X.K ad XR Wi W C (.nd c t :: ps)) := by
  have core : ∀ (σ : L2.St) (H : Hp) (Q : List V → Hp → Prop) (u : HO) (o : MO), (∀ F, CellR X.K ad F o u) → (if t = true then MO.dT [] [] else MO.dK [] []) = o → tPs X.K ad XR Wi W C (.nd c t :: ps) σ H Q →
      ∀ p, H p = none → tPs X.K ad XR Wi W C ps σ (upd H p u) fun vs H2 => Q (.ref p :: vs) H2 := by
    intro σ H Q u o cr eo h p hp
    obtain ⟨s, L, m, F, hs, hm, h⟩ := h
    simp only [evP, eo] at h
    have g := Grow.bare (o := u) hm.sub hp
    have st := g.sto hm
    have fp := fnone hm.sub hp
    have no : ¬ Own L m p := fun q => by
      obtain ⟨u, z, _⟩ := hm.owned q
      rw [hp] at z; cases z
    refine ⟨s, L, m, F, hs, st, ((Hold.step g.ext h).bh (relPs X.K ad (upd H p u))).mono fun xs H2 ⟨ws, m2, F2, b2, r2⟩ => ?_⟩
    have hc := (cr F).isCell
    obtain ⟨g1, g2⟩ := b2.ext.stays b2.sto no fp upd_same hc
    exact b2.hold.now b2.sto (.refl b2.sto.sub) (.nw g1 (nt_of hp) g2 (cr F2) (r2.notAt upd_same hc) (PVs.up (fun a q => (Grow.ext (L := L) (m := m) g).nt q) r2))
  cases t with
  | true =>
    exact (pa_cons pe_dnewT hr (star_each rfl _ _)).imp fun σ H Q h => core σ H Q (.dT []) (.dT [] []) (fun F => .dT (vs := []) rfl .nil) rfl h
  | false =>
    exact (pa_cons pe_dnewK hr (star_each rfl _ _)).imp fun σ H Q h => core σ H Q (.dK []) (.dK [] []) (fun F => .dK (vs := []) rfl .nil) rfl h
/-- .. and stored -/
theorem parP_ok {H00 : Hp} : ∀ (ts : List Nat) (ps : List PV) (xs : List V) (s : Slots) (m : Sto) (L : List Addr) (σ : L2.St) (s' : Slots) (m' : Sto), parP b ts ps s m = some (s', m') → ExtS b L0 m0 F0 H00 L m F H → StoR K ad L m F H → SltR K ad Wi.z L F s σ →
    PVs K ad H00 F H ps xs → (∀ p, ¬ notAt p ps xs → ¬ Own L m p) → ts.length = xs.length ∧ ∃ L', ExtS b L0 m0 F0 H00 L' m' F H ∧ StoR K ad L' m' F H ∧ SltR K ad Wi.z L' F s' (setAll σ ts xs)
  | [], ps, xs, s, m, L, σ, s', m', e, ex, st, sl, r, hn => by
    cases r with
    | nil => cases e; exact ⟨rfl, L, ex, st, sl⟩
    | vl => cases e
    | nw => cases e
  | i :: is, ps, xs, s, m, L, σ, s', m', e, ex, st, sl, r, hn => by
    cases r with
    | nil => cases e
    | @vl d x ps xs a r =>
      simp only [parP] at e
      split at e
      case isFalse => cases e
      case isTrue hi =>
      obtain ⟨z1, L', z2, z3, z4⟩ := parP_ok is ps xs _ m L (σ.set i (some x)) s' m' e ex st (sl.set hi a) r hn
      exact ⟨by rw [List.length_cons, List.length_cons, z1], L', z2, z3, z4⟩
    | @nw c o p u ps xs f g h cr d r =>
      simp only [parP] at e
      split at e
      case isFalse => cases e
      case isTrue hi =>
      simp only [Bool.and_eq_true, decide_eq_true_eq] at hi
      obtain ⟨⟨h1, h2⟩, h3⟩ := hi
      have no : ¬ Own L m p := hn p fun z => z.1 rfl
      have hl : b + c < L.length := by rw [st.len]; exact h2
      obtain ⟨z1, L', z2, z3, z4⟩ := parP_ok is ps xs _ _ (L.set (b + c) p) (σ.set i (some (.ref p))) s' m' e (newc_ext ex g (Nat.le_add_right _ _)) (newc_sto st no f h cr h2) (newl_slt sl hl h1 h3) r fun q hq ⟨j, lj, ej⟩ => by
        rw [live_set] at lj
        by_cases hc : b + c = j
        · subst hc
          rw [List.getElem?_set_self hl] at ej
          cases ej
          exact hq d
        · rw [if_neg hc] at lj
          rw [List.getElem?_set_ne hc] at ej
          exact hn q (fun z => hq z.2) ⟨j, lj, ej⟩
      exact ⟨by rw [List.length_cons, List.length_cons, z1], L', z2, z3, z4⟩
theorem pnw_read {ts : List Nat} {ps : List PX} {D : Ends} (h : tS K ad XR Wi W C b (.pnw ts ps) D σ H) :
    tPs K ad XR Wi W C ps σ H fun xs H1 => ts.length = xs.length ∧ (D.nx (setAll σ ts xs) H1 ∧ ∀ p, H1 p = none → D.nx (setAll σ ts xs) (upd H1 p (.tup xs))) := by
  obtain ⟨s, L, m, F, hs, hm, hb, h⟩ := h
  simp only [exS] at h
  refine ⟨s, L, m, F, hs, hm, (h.bh (relPs K ad H)).mono fun xs H1 ⟨vs, m1, F1, e0, ex, st, r, _⟩ => ?_⟩
  rw [e0, R.bind_ok] at h
  split at h
  case h_2 => exact h.elim
  case h_1 s' m' e =>
  have own : ∀ p, ¬ notAt p vs xs → ¬ Own L m1 p := by
    intro p hp hq
    have hq' : Own L m p := (ex.ownA p).mp hq
    obtain ⟨u, z, c, _⟩ := hm.owned hq'
    exact hp (r.notAt z c)
  have fin : ∀ H', Ext L m F H m1 F1 H' → StoR K ad L m1 F1 H' → PVs K ad H F1 H' vs xs → ts.length = xs.length ∧ D.nx (setAll σ ts xs) H' := by
    intro H' ex' st' r'
    obtain ⟨z1, L', z2, z3, z4⟩ := parP_ok ts vs xs s m1 L σ s' m' e ex'.s st' (hs.mono ex'.sub) r' own
    exact ⟨z1, h L' F1 H' _ z2 z3 z4⟩
  refine ⟨(fin H1 ex st r).1, (fin H1 ex st r).2, fun p hp => ?_⟩
  have g := Grow.bare (o := .tup xs) st.sub hp
  exact (fin _ (ex.trans g.ext) (g.sto st) (r.at fun a u q _ => g.grow a u q)).2
/-! ### new dicts -/
variable (K ad XR Wi W C) in
def tDX (q : DX) : TE := fun σ H Q => ∃ s L m F, SltR K ad Wi.z L F s σ ∧ StoR K ad L m F H ∧ Hold K ad XR Wi (relM K ad H) (evD W C q s m) L m F H Q
theorem StoR.wrc {p : Addr} {o u : HO} (s : StoR K ad L m F H) (n : ¬ Own L m p) (h1 : F p = none) (h2 : H p = some u) (hc : IsCell u) : StoR K ad L m F (upd H p o) :=
  ⟨fun a u e => (by
    have ne : a ≠ p := ne_of_none e h1
    rw [upd_ne ne]; exact s.sub _ _ e), fun i xs e nn => (by
    obtain ⟨a, vs, e1, e2, e3, e4⟩ := s.obj i xs e nn
    have ne : a ≠ p := fun z => n ⟨i, ⟨xs, e, nn⟩, z ▸ e1⟩
    exact ⟨a, vs, e1, e2, by rw [upd_ne ne]; exact e3, e4⟩), s.inj, s.len, tabs_wr s.tabs h2 hc, s.nt⟩
theorem pd_new {q : DX} {u : HO} {o : MO} {Q : VK} (cr : ∀ F, CellR K ad F o u) (hq : ∀ s m, evD W C q s m = .ok o m) (h : tDX K ad XR Wi W C q σ H Q) : ∀ p, H p = none → Q (.ref p) (upd H p u) := by
  intro p hp
  obtain ⟨s, L, m, F, hs, hm, h⟩ := h
  rw [hq] at h
  exact h.now hm (Grow.bare hm.sub hp) ⟨p, u, rfl, fnone hm.sub hp, nt_of hp, upd_same, cr F⟩
theorem pd_k0 : PE X (.Dict [] [] pos) (tDX X.K ad XR Wi W C .k0) := pe_dnewK.imp fun σ H Q h => pd_new (fun F => .dK (ks := []) (vs := []) rfl .nil) (fun _ _ => rfl) h
theorem pd_t0 : PE X (.Dict [] [] pos) (tDX X.K ad XR Wi W C .t0) := pe_dnewT.imp fun σ H Q h => pd_new (fun F => .dT (ks := []) (vs := []) rfl .nil) (fun _ _ => rfl) h
theorem pd_t1 {k v : Ex} {k' v' : Expr} (hu : X.A.units + 64 < cLine) (hk : PE X k' (tE X.K ad XR Wi W C k)) (hv : PE X v' (tE X.K ad XR Wi W C v)) : PE X (.Dict [some k'] [v'] pos) (tDX X.K ad XR Wi W C (.t1 k v)) := by
  refine (pe_disT1 (by omega) hk hv).imp fun σ H Q h => ?_
  obtain ⟨s, L, m, F, hs, hm, h⟩ := h
  simp only [evD] at h
  intro p hp
  have g := Grow.bare (o := .dT []) hm.sub hp
  have st := g.sto hm
  have fp := fnone hm.sub hp
  have no : ¬ Own L m p := fun q => by
    obtain ⟨u, z, _⟩ := hm.owned q
    rw [hp] at z; cases z
  refine (tE_bind hs st (Hold.step g.ext h)).mono fun x H1 ⟨a, m1, F1, b1, r1⟩ => ?_
  refine (tE_bind (hs.mono b1.ext.sub) b1.sto b1.hold).mono fun y H2 ⟨c, m2, F2, b2, r2⟩ => ?_
  have hh := b2.hold
  rw [b1.eq, R.bind_ok, b2.eq, R.bind_ok] at h
  cases a with
  | loc _ => exact hh.elim
  | fns _ => exact hh.elim
  | dat d =>
  cases c with
  | loc _ => cases d <;> exact hh.elim
  | fns _ => cases d <;> exact hh.elim
  | dat e =>
  cases d with
  | ktp k0 =>
    cases r1 with
    | @ktp b0 _ hb0 =>
    obtain ⟨g1, g2⟩ := (b1.ext.trans b2.ext).stays b2.sto no fp upd_same (.dT [])
    have e2 : Ext L m F H m2 F2 H2 := (g.ext).trans (b1.ext.trans b2.ext)
    have no2 : ¬ Own L m2 p := fun q => no ((e2.ownA p).mp q)
    refine ⟨k0, b0, rfl, b2.sto.sub _ _ (b2.ext.sub _ _ hb0), g2, ?_⟩
    exact h F2 _ _ (e2.wr hp) (b2.sto.wrc no2 g1 g2 (.dT [])) ⟨p, _, rfl, g1, nt_of hp, upd_same, .dT (ks := [k0]) (vs := [y]) rfl (.cons r2 .nil)⟩
  | _ => exact hh.elim
theorem newd_read {i c : Nat} {q : DX} {D : Ends} (h : tS K ad XR Wi W C b (.newd i c q) D σ H) : tAsg (tDX K ad XR Wi W C q) (gName i) D σ H := by
  obtain ⟨s, L, m, F, hs, hm, _, h⟩ := h
  simp only [exS] at h
  refine ⟨s, L, m, F, hs, hm, ?_⟩
  cases q : evD W C q s m with
  | ok o m1 =>
    rw [q] at h
    simp only [R.bind_ok] at h
    intro F' H' x ex st ⟨p, u, e0, e1, e2, e3, e4⟩
    subst e0
    split at h
    · rename_i hc
      simp only [Bool.and_eq_true, decide_eq_true_eq] at hc
      obtain ⟨⟨h1, h2⟩, h3⟩ := hc
      exact h _ F' H' _ (newc_ext ex.s e2 (by omega)) (newc_sto st (ex.notOwn hm e2) e1 e3 e4 h2) (newl_slt (hs.mono ex.sub) (by rw [st.len]; exact h2) h1 h3)
    · exact h.elim
  | exc => rw [q] at h; exact fun F' H' c d ex st r => h L F' H' c d ex.s st r
  | bad => rw [q] at h; exact h
end
end EV

set_option Elab.async false
set_option linter.all false
set_option maxRecDepth 100000
set_option maxHeartbeats 4000000
/-! EV, part 6: dict displays with texts as keys, d.update of such a display, a try around one call. -/
namespace EV
open PySem PySem.Spec PyProof.Rows L2
section
variable {K : PySem.W.Frag} {ad : Adr} {XR : Xc → Value → Option Addr → Hp → Hp → Prop} {Wi : Wz} {W : Wd} {C : Cal} {σ : L2.St} {H H1 H2 H0 : Hp} {s : Slots} {L L0 L1 : List Addr} {m m0 m1 m2 : Sto} {F F0 F1 F2 : Hp} {b : Nat}
variable {X : Cx} {N : List Str} {sc : Scope} {lv : Nat} {n : Wn} {pos p2 : Pos} {e a : Ex} {t0 : Tx} {a' b' c' tg' : Expr}
/-! ### entries on entries -/
theorem updM_len {α : Type} : ∀ (kr : List Key) (vr : List α) (KS : List Key) (VS : List α), KS.length = VS.length → (updM KS VS kr vr).1.length = (updM KS VS kr vr).2.length
  | [], [], _, _, h => by simpa [updM] using h
  | [], _ :: _, _, _, h => by simpa [updM] using h
  | _ :: _, [], _, _, h => by simpa [updM] using h
  | k :: kr, v :: vr, KS, VS, h => by
    unfold updM
    exact updM_len kr vr _ _ (put_len k v h)
theorem updM_keys {α β : Type} : ∀ (kr : List Key) (vr : List α) (wr : List β) (KS : List Key) (VS : List α) (WS : List β), vr.length = wr.length → (updM KS VS kr vr).1 = (updM KS WS kr wr).1
  | [], [], [], _, _, _, _ => by simp [updM]
  | [], _ :: _, _ :: _, _, _, _, _ => by simp [updM]
  | _ :: _, [], [], _, _, _, _ => by simp [updM]
  | k :: kr, v :: vr, w :: wr, KS, VS, WS, h => by
    unfold updM
    exact updM_keys kr vr wr _ _ _ (by simpa using h)
  | _, [], _ :: _, _, _, _, h => by simp at h
  | _, _ :: _, [], _, _, _, h => by simp at h
theorem updM_rel : ∀ (kr : List Key) (vr : List V) (dr : List D) (KS : List Key) (VS : List V) (DS : List D), RpA K ad F VS DS → RpA K ad F vr dr → RpA K ad F (updM KS VS kr vr).2 (updM KS DS kr dr).2
  | [], _, _, _, _, _, h, _ => by simpa [updM] using h
  | _ :: _, [], _, _, _, _, h, r => by cases r; simpa [updM] using h
  | k :: kr, v :: vr, _, KS, VS, DS, h, r => by
    cases r with
    | cons r1 r2 =>
      unfold updM
      exact updM_rel kr vr _ _ _ _ (put_rel r1 h) r2
theorem updM_zip : ∀ (kr : List Key) (vr : List V) (KS : List Key) (VS : List V), KS.length = VS.length → mergeK (KS.zip VS) (kr.zip vr) = (updM KS VS kr vr).1.zip (updM KS VS kr vr).2
  | [], _, _, _, _ => by simp [updM, mergeK]
  | _ :: _, [], _, _, _ => by simp [updM, mergeK]
  | k :: kr, v :: vr, KS, VS, h => by
    have e : mergeK (KS.zip VS) ((k :: kr).zip (v :: vr)) = mergeK (putK (KS.zip VS) k v) (kr.zip vr) := rfl
    rw [e, put_zip k v h]
    unfold updM
    exact updM_zip kr vr _ _ (put_len k v h)
theorem litM_zip (ks : List Str) (vs : List V) : mergeK [] ((ks.map Sum.inr).zip vs) = (litM ks vs).1.zip (litM ks vs).2 := updM_zip _ _ [] [] rfl
/-! ### the pairs of a display -/
theorem tEs_cons {e : Ex} {es : List Ex} {Q : List V → Hp → Prop} (h : tEs K ad XR Wi W C (e :: es) σ H Q) : tE K ad XR Wi W C e σ H fun v H1 => tEs K ad XR Wi W C es σ H1 fun vs H2 => Q (v :: vs) H2 := by
  obtain ⟨s, L, m, F, hs, hm, h⟩ := h
  simp only [evs] at h
  refine (tE_bind hs hm h).mono fun x H1 ⟨v, m1, F1, b1, r1⟩ => ?_
  refine (tEs_bind (hs.mono b1.ext.sub) b1.sto b1.hold).mono fun xs H2 ⟨vs, m2, F2, b2, r2⟩ => ?_
  exact b2.hold.now b2.sto (.refl b2.sto.sub) (.cons (r1.mono b2.ext.sub) r2)
theorem tEs_nil {Q : List V → Hp → Prop} (h : tEs K ad XR Wi W C [] σ H Q) : Q [] H := by
  obtain ⟨s, L, m, F, hs, hm, h⟩ := h
  exact h.now (a := []) hm (.refl hm.sub) .nil
variable (K ad XR Wi W C) in
def litT (ks : List Str) (es : List Ex) : List (TE × TE) := (ks.zip es).map fun p => (tC (.str p.1), tE K ad XR Wi W C p.2)
theorem litT_mono : ∀ (ks : List Str) (es : List Ex) {σ : L2.St} {H : Hp} {Q Q' : List (V × V) → Hp → Prop}, tPairs (litT K ad XR Wi W C ks es) σ H Q → (∀ ps H, Q ps H → Q' ps H) → tPairs (litT K ad XR Wi W C ks es) σ H Q'
  | [], _, _, _, _, _, h, q => q _ _ h
  | _ :: _, [], _, _, _, _, h, q => q _ _ h
  | k :: ks, e :: es, σ, H, Q, Q', h, q => by
    have h' : tE K ad XR Wi W C e σ H fun y H2 => tPairs (litT K ad XR Wi W C ks es) σ H2 fun ps H3 => Q ((V.str k, y) :: ps) H3 := h
    show tE K ad XR Wi W C e σ H fun y H2 => tPairs (litT K ad XR Wi W C ks es) σ H2 fun ps H3 => Q' ((V.str k, y) :: ps) H3
    exact h'.mono fun y H1 z => litT_mono ks es z fun ps H2 => q _ _
theorem lit_pairs : ∀ (ks : List Str) (es : List Ex) {σ : L2.St} {H : Hp} {Q : List V → Hp → Prop}, ks.length = es.length → tEs K ad XR Wi W C es σ H Q →
    tPairs (litT K ad XR Wi W C ks es) σ H fun ps H2 => ∃ vs : List V, ps = (ks.zip vs).map (fun p => (V.str p.1, p.2)) ∧ vs.length = ks.length ∧ Q vs H2
  | [], [], _, _, _, _, h => ⟨[], rfl, rfl, tEs_nil h⟩
  | [], _ :: _, _, _, _, l, _ => by simp at l
  | _ :: _, [], _, _, _, l, _ => by simp at l
  | k :: ks, e :: es, σ, H, Q, l, h => by
    show tE K ad XR Wi W C e σ H fun y H2 => tPairs (litT K ad XR Wi W C ks es) σ H2 fun ps H3 => ∃ vs : List V, (V.str k, y) :: ps = ((k :: ks).zip vs).map (fun p => (V.str p.1, p.2)) ∧ vs.length = (k :: ks).length ∧ Q vs H3
    refine (tEs_cons h).mono fun y H1 h1 => ?_
    have ih := lit_pairs ks es (σ := σ) (H := H1) (by simpa using l) h1
    refine litT_mono ks es ih fun ps H2 ⟨vs, e1, e2, q⟩ => ⟨y :: vs, ?_, by simp [e2], q⟩
    rw [e1]; rfl
theorem kv_pairs : ∀ (ks : List Str) (vs : List V), (ks.zip vs).map (fun p => (V.str p.1, p.2)) = ((ks.map (Sum.inr : Str → Key)).zip vs).map (fun kv => (kV kv.1, kv.2))
  | [], _ => rfl
  | _ :: _, [] => rfl
  | k :: ks, v :: vs => by
    show (V.str k, v) :: (ks.zip vs).map (fun p => (V.str p.1, p.2)) = (kV (Sum.inr k), v) :: ((ks.map (Sum.inr : Str → Key)).zip vs).map (fun kv => (kV kv.1, kv.2))
    rw [kv_pairs ks vs]; rfl
/-- a display's run, its values wished as W -/
theorem disp_of {ks : List Str} {es : List Ex} {Q : VK} {p : Addr} (lk : ks.length = es.length) (h15 : ks.length ≤ 15)
    (h : tEs K ad XR Wi W C es σ (upd H p (.dK [])) fun vs H2 => vs.length = ks.length → H2 p = some (.dK []) ∧ Q (.ref p) (upd H2 p (.dK ((litM ks vs).1.zip (litM ks vs).2)))) :
    tPairs (litT K ad XR Wi W C ks es) σ (upd H p (.dK [])) fun ps H2 => H2 p = some (.dK []) ∧ ∃ kvs : List (Key × V), ps = kvs.map (fun kv => (kV kv.1, kv.2)) ∧ kvs.length ≤ 15 ∧ Q (.ref p) (upd H2 p (.dK (mergeK [] kvs))) := by
  refine litT_mono ks es (lit_pairs ks es lk h) fun ps H2 ⟨vs, e1, e2, q⟩ => ?_
  obtain ⟨q1, q2⟩ := q e2
  refine ⟨q1, (ks.map Sum.inr).zip vs, ?_, ?_, ?_⟩
  · rw [e1]; exact kv_pairs ks vs
  · rw [List.length_zip, List.length_map]; omega
  · rw [litM_zip]; exact q2
theorem litM_rel {ks : List Str} {vs : List V} {ds : List D} (r : RpA K ad F vs ds) : RpA K ad F (litM ks vs).2 (litM ks ds).2 := updM_rel _ _ _ [] _ _ .nil r
theorem litM_keys {ks : List Str} {vs : List V} {ds : List D} (r : RpA K ad F vs ds) : (litM ks vs).1 = (litM ks ds).1 := updM_keys _ _ _ [] _ _ r.len
theorem litM_len {α : Type} {ks : List Str} {vs : List α} : (litM ks vs).1.length = (litM ks vs).2.length := updM_len _ _ _ _ rfl
theorem pd_lit {ks : List Str} {es : List Ex} {keys : List (Option Expr)} {values : List Expr} (hp : PPs X pos keys values (litT X.K ad XR Wi W C ks es)) (hall : keys.all (·.isSome) = true) (hl : keys.length = values.length) (h0 : keys ≠ []) (h15 : keys.length ≤ 15)
    (lk : ks.length = es.length) (l2 : ks.length ≤ 15) : PE X (.Dict keys values pos) (tDX X.K ad XR Wi W C (.lit ks es)) := by
  refine (pe_disp hp hall hl h0 h15).imp fun σ H Q h => ?_
  obtain ⟨s, L, m, F, hs, hm, h⟩ := h
  simp only [evD] at h
  intro p hp
  have g := Grow.bare (o := .dK []) hm.sub hp
  have st := g.sto hm
  have fp := fnone hm.sub hp
  have no : ¬ Own L m p := fun q => by
    obtain ⟨u, z, _⟩ := hm.owned q
    rw [hp] at z; cases z
  refine disp_of lk l2 ((tEs_bind hs st (Hold.step g.ext h)).mono fun xs H1 ⟨vs, m1, F1, b1, r1⟩ ln => ?_)
  have hh := b1.hold
  rw [b1.eq, R.bind_ok] at h
  split at h
  case h_2 => exact h.elim
  case h_1 ds ed =>
  split at h
  case isFalse => exact h.elim
  case isTrue hk =>
  have rr := datsOf_ok ed r1
  obtain ⟨g1, g2⟩ := b1.ext.stays b1.sto no fp upd_same (.dK [])
  have e2 : Ext L m F H m1 F1 H1 := (g.ext).trans b1.ext
  have no2 : ¬ Own L m1 p := fun q => no ((e2.ownA p).mp q)
  refine ⟨g2, ?_⟩
  have cr : CellR X.K ad F1 (.dK (litM ks ds).1 (litM ks ds).2) (.dK ((litM ks xs).1.zip (litM ks xs).2)) := by
    rw [litM_keys rr]
    exact .dK (by rw [← litM_keys rr]; exact litM_len) (litM_rel rr)
  exact h F1 _ _ (e2.wr hp) (b1.sto.wrc no2 g1 g2 (.dK [])) ⟨p, _, rfl, g1, nt_of hp, upd_same, cr⟩
/-! ### d.update(e) -/
def rUpd : V → List V → Hp → VK → Prop := fun x xs H Q => ∃ (a b : Addr) (kvs more : List (Key × V)), x = .ref a ∧ xs = [.ref b] ∧ H a = some (.dK kvs) ∧ H b = some (.dK more) ∧ a ≠ b ∧ kvs.length + more.length ≤ sizeLine ∧ Q .non (upd H a (.dK (mergeK kvs more)))
theorem mt_dupdate : MtR X "dict.update" rUpd := by
  intro pins s σ H x xs v us Q I rx rs h
  obtain ⟨a, b, kvs, more, rfl, rfl, ha, hb, ne, hz, q⟩ := h
  cases (show v = Value.ref a from rx)
  cases rs with
  | cons r1 rs =>
    cases rs
    cases (show _ = Value.ref b from r1)
    obtain ⟨z, hd, vs, rel, dd⟩ := dk_of I.hok ha
    obtain ⟨z2, hd2, vs2, rel2, dd2⟩ := dk_of I.hok hb
    refine call_meetsIn PySem.F.slot_dict_update dd.typeIs PySem.F.entry_dict_update (PySem.F.args_dict_update_2 _ _) (meets_dict_update (mixKind X.prog X.w) a b ne hd2) ⟨vs, vs2, dd, dd2, by rw [← rel.length, ← rel2.length]; exact hz, fun h' dd' _ hs => ?_⟩
    have he : ∃ q, h'.get? a = some q := let ⟨q, _, _, hq, _⟩ := dd'; ⟨q, hq⟩
    have hl : (mergeK kvs more).length ≤ sizeLine := Nat.le_trans (length_mergeK more kvs) hz
    exact ⟨.non, _, d_write (t' := s.toks) I (by rw [ha]; exact True.intro) hs he (dk_new hl hd (KV.merge rel2 rel) dd'), rfl, q⟩
theorem upd_read {i : Nat} {ks : List Str} {es : List Ex} {D : Ends} (lk : ks.length = es.length) (l2 : ks.length ≤ 15) (h : tS K ad XR Wi W C b (.upd i ks es) D σ H) :
    tDrop (tBM K "dict" rUpd (tVar i) (tCons (tDisp (litT K ad XR Wi W C ks es)) tNil)) D σ H := by
  obtain ⟨s, L, m, F, hs, hm, hb, h⟩ := h
  simp only [exS] at h
  cases el : locAt s i with
  | none => rw [el] at h; exact h.elim
  | some k =>
    rw [el] at h
    obtain ⟨a, e1, e2⟩ := locAt_of hs el
    refine ⟨_, e1, ?_⟩
    dsimp only at h
    split at h
    case isFalse => exact h.elim
    case isTrue hl =>
    have tyv : tyV K "dict" (.ref a) H := by
      unfold isDk at hl
      split at hl
      · rename_i kk dd q
        obtain ⟨p', u, q1, q2, q3, q4⟩ := hm.obj k _ q (by intro z; cases z)
        rw [e2] at q1; cases q1
        cases q4 with
        | dK l r => exact .inr (.inr (.inl ⟨rfl, .inl ⟨_, q3⟩⟩))
      · cases hl
    refine ⟨tyv, ?_⟩
    have ao : Own L m a := by
      unfold isDk at hl
      split at hl
      · rename_i kk dd q
        exact ⟨k, ⟨_, q, by intro z; cases z⟩, e2⟩
      · cases hl
    intro p hp
    have g := Grow.bare (o := .dK []) hm.sub hp
    have st := g.sto hm
    have fp := fnone hm.sub hp
    have no : ¬ Own L m p := fun q => by
      obtain ⟨u, z, _⟩ := hm.owned q
      rw [hp] at z; cases z
    have nap : a ≠ p := fun z => no (z ▸ ao)
    refine disp_of (Q := fun y H3 => rUpd (.ref a) [y] H3 fun _ H4 => D.nx σ H4) lk l2 ((tSbs (b := b) hs st (HoldS.step g.ext.s h)).mono fun xs H1 ⟨vs, m1, F1, ee, ex, st1, r1, hk⟩ ln => ?_)
    rw [ee, R.bind_ok] at h
    clear hk
    split at h
    case h_2 => exact h.elim
    case h_1 ds KS DS ed em =>
    split at h
    case isFalse => exact h.elim
    case isTrue hz =>
    simp only [Bool.and_eq_true, decide_eq_true_eq, litOk] at hz
    have rr := datsOf_ok ed r1
    obtain ⟨g1, g2⟩ := ex.stays st1 no fp upd_same (.dK [])
    have e2' : Ext L m F H m1 F1 H1 := (g.ext).trans ex
    have no2 : ¬ Own L m1 p := fun q => no ((e2'.ownA p).mp q)
    refine ⟨g2, ?_⟩
    have st2 := st1.wrc (o := .dK ((litM ks xs).1.zip (litM ks xs).2)) no2 g1 g2 (.dK [])
    have ex2 : Ext L m F H m1 F1 (upd H1 p (.dK ((litM ks xs).1.zip (litM ks xs).2))) := e2'.wr hp
    have lv : live m1 k := ⟨_, em, by intro z; cases z⟩
    obtain ⟨p', u, q1, q2, q3, q4⟩ := st2.obj k _ em (by intro z; cases z)
    rw [e2] at q1; cases q1
    cases q4 with
    | @dK _ _ VS l r =>
    have cr : CellR K ad F1 (.dK (updM KS DS (litM ks ds).1 (litM ks ds).2).1 (updM KS DS (litM ks ds).1 (litM ks ds).2).2) (.dK ((updM KS VS (litM ks xs).1 (litM ks xs).2).1.zip (updM KS VS (litM ks xs).1 (litM ks xs).2).2)) := by
      have e3 : (updM KS VS (litM ks xs).1 (litM ks xs).2).1 = (updM KS DS (litM ks ds).1 (litM ks ds).2).1 := by
        rw [litM_keys rr]
        exact updM_keys _ _ _ _ _ _ (litM_rel rr).len
      rw [e3]
      refine .dK ?_ ?_
      · rw [← e3]; exact updM_len _ _ _ _ l
      · rw [← litM_keys rr]; exact updM_rel _ _ _ _ _ _ r (litM_rel rr)
    refine ⟨a, p, KS.zip VS, (litM ks xs).1.zip (litM ks xs).2, rfl, rfl, q3, upd_same, nap, ?_, ?_⟩
    · have z1 : (KS.zip VS).length ≤ KS.length := by rw [List.length_zip]; omega
      have z2 : ((litM ks xs).1.zip (litM ks xs).2).length ≤ 15 := by
        rw [← litM_zip]
        have := length_mergeK ((ks.map Sum.inr).zip xs) []
        rw [List.length_zip, List.length_map] at this
        simp only [List.length_nil] at this
        omega
      rw [sizeLine_eq]
      omega
    · rw [updM_zip _ _ _ _ l]
      exact h L F1 _ σ ((ex2.trans (upd_extE lv e2 cr)).s) (upd_sto st2 lv e2 cr) (hs.mono ex2.sub)
theorem sf_upd {i : Nat} {x : Str} {p1 ap cp pd : Pos} {ks : List Str} {es : List Ex} {keys : List (Option Expr)} {values : List Expr} (hx : PE X (.Name x p1) (tVar i)) (hp : PPs X pd keys values (litT X.K ad XR Wi W C ks es)) (hall : keys.all (·.isSome) = true) (hl : keys.length = values.length) (h0 : keys ≠ []) (h15 : keys.length ≤ 15)
    (lk : ks.length = es.length) (l2 : ks.length ≤ 15) (hln : (ap.endLine == cp.line) = true) :
    PS X (.Expr (.Call (.Attribute (.Name x p1) "update" ap) [.Dict keys values pd] [] cp) pos) (tS X.K ad XR Wi W C b (.upd i ks es)) :=
  (ps_expr (pe_bm PySem.F.plainAttrs_dict PySem.F.slot_dict_update PySem.F.type_dict_update mt_dupdate hx (pa_cons (pe_disp hp hall hl h0 h15) pa_nil rfl) rfl rfl hln rfl rfl) rfl).imp fun D σ H h => upd_read lk l2 h
/-! ### try: one call, clauses that tell a word -/
def matTr (n : Wn) (sc : Scope) (c : Nat × Str) : ExceptHandler → Bool
  | .ExceptHandler (some (.Name y _)) none [.Return (some (.Constant (.str z) _ _)) _] _ => decide (n.xg[c.1]? = some y) && glbB sc y && okNm y && decide (z = c.2)
  | _ => false
def matTrs (n : Wn) (sc : Scope) : List (Nat × Str) → List ExceptHandler → Bool
  | [], [] => true
  | c :: cs, h :: hs => matTr n sc c h && matTrs n sc cs hs
  | _, _ => false
variable (ad) in
def trL (cs : List (Nat × Str)) : List Cl := cs.map fun c => ⟨.ref (ad.ex c.1), none, fun _ _ _ => tRet (tC (.str c.2))⟩
theorem trs_ok (S : XO ad n X N sc Wi lv) (G : GO X.K ad XR W C X.prog X.w X.mg X.base n lv) : ∀ (cs : List (Nat × Str)) (hds : List ExceptHandler), matTrs n sc cs hds = true → CLs X hds (trL ad cs) ∧
    ∀ (x : Xc) (y : Str) (cls : Value) (d : Option Addr) (F2 H2 : Hp) (τ : L2.St) (D : Ends), tryC W.xk cs x = some y → xrE X.K ad W x cls d F2 H2 → D.rt (.str y) H2 → wCl X.K (fun _ _ _ _ => False) D (trL ad cs) cls d τ H2
  | [], [], _ => ⟨.nil, fun x y cls d F2 H2 τ D ht => by cases ht⟩
  | [], _ :: _, h => by simp [matTrs] at h
  | _ :: _, [], h => by simp [matTrs] at h
  | c :: cs, hd :: hds, h => by
    simp only [matTrs, Bool.and_eq_true] at h
    obtain ⟨c1, c2⟩ := trs_ok S G cs hds h.2
    have h1 := h.1
    unfold matTr at h1
    split at h1
    case h_2 => cases h1
    case h_1 y' p1 z j1 p2 p3 =>
    simp only [Bool.and_eq_true, decide_eq_true_eq] at h1
    obtain ⟨⟨⟨h1, h2⟩, h3⟩, rfl⟩ := h1
    obtain ⟨kx, ek, rfl, xf⟩ := G.cls h1
    refine ⟨.cons (k := ⟨.ref (ad.ex c.1), none, fun _ _ _ => tRet (tC (.str c.2))⟩) ⟨S.gl h2, (okNm_of h3).1, .inl xf.mg⟩ .no (fun a oe cls d pn hz hf => pss_one (ps_ret pe_str)) c1, fun x y cls d F2 H2 τ D ht hx hq => ?_⟩
    obtain ⟨e1, k', hk', _⟩ := id hx
    have l1 : x.cls < W.xk.length := (List.getElem?_eq_some_iff.mp hk').1
    have l2 : c.1 < W.xk.length := (List.getElem?_eq_some_iff.mp ek).1
    refine ⟨supX W.xk x.cls c.1, by rw [e1]; exact G.exm _ _ l1 l2, fun ht2 a na => ?_, fun hf2 => ?_⟩
    · unfold tryC at ht
      rw [if_pos ht2] at ht
      cases ht
      exact hq
    · unfold tryC at ht
      rw [if_neg (by rw [hf2]; exact Bool.false_ne_true)] at ht
      exact c2 x y cls d F2 H2 τ D ht hx hq
theorem sf_trx {e' : Expr} {cs : List (Nat × Str)} {h0 : ExceptHandler} {hds : List ExceptHandler} {pe : Pos} (S : SO ad n X N sc Wi lv) (G : GO X.K ad XR W C X.prog X.w X.mg X.base n lv) (hm : matE n N e sc e' = true) (hc : compB e' = false) (ht : matTrs n sc cs (h0 :: hds) = true) :
    PS X (.Try [.Expr e' pe] (h0 :: hds) [] [] pos) (tS X.K ad XR Wi W C b (.trx e cs)) := by
  obtain ⟨c1, c2⟩ := trs_ok S.toXO G cs (h0 :: hds) ht
  refine (ps_try_cl (Wo := fun _ _ _ _ => False) (tb := fun Wx => tDrop (tE X.K ad XR (Wi.to fun cls d H' => ∀ τ, Wx cls d τ H') W C e)) S.sh S.sf (by rw [S.nm]; exact S.nd) takes_none5 (fun Wx pn xe tk _ => ?_) c1).imp fun D σ H h => ?_
  · have S' : XO ad n (X.tr pn xe) N sc (Wi.to fun cls d H' => ∀ τ, Wx cls d τ H') lv := ⟨S.nm, S.es, S.nd, S.calm, S.room, fun z1 z2 => ⟨(S.lam z1 z2).room, (S.lam z1 z2).made⟩, S.zz, S.grd, tk.imp fun c d σ H q => q σ⟩
    exact pss_one (ps_expr (snd_E (C := C) (XR := XR) (W := W) e n (X.tr pn xe) sc _ S' G e' hm) (sw_plain hc _ _ _))
  · obtain ⟨s, L, m, F, hs, hm', hb, h⟩ := h
    simp only [exS] at h
    refine ⟨s, L, m, F, hs, hm', ?_⟩
    cases q : ev W C e s m with
    | ok v m1 =>
      rw [q] at h
      exact fun F' H' x ex st _ => h L F' H' σ ex.s st (hs.mono ex.sub)
    | exc x m1 =>
      rw [q] at h
      dsimp only at h
      cases ty : tryC W.xk cs x with
      | none => rw [ty] at h; exact h.elim
      | some y =>
        rw [ty] at h
        exact fun F' H' cls d ex st xr τ => c2 x y cls d F' H' τ D ty (by rw [← G.xre]; exact xr) (h L F' H' (.str y) ex.s st (.str y))
    | bad => rw [q] at h; exact h
/-! ### displays against the syntax -/
def matLk : List Str → List (Option Expr) → Bool
  | [], [] => true
  | k :: ks, some (.Constant (.str z) _ _) :: r => decide (z = k) && matLk ks r
  | _, _ => false
def matLit (n : Wn) (N : List Str) (sc : Scope) (ks : List Str) (es : List Ex) (keys : List (Option Expr)) (values : List Expr) : Bool :=
  matLk ks keys && matEs n N es sc values && decide (ks.length ≤ 15) && !ks.isEmpty && decide (ks.length = es.length)
theorem lit_pps (S : XO ad n X N sc Wi lv) (G : GO X.K ad XR W C X.prog X.w X.mg X.base n lv) : ∀ (ks : List Str) (es : List Ex) (keys : List (Option Expr)) (values : List Expr), matLk ks keys = true → matEs n N es sc values = true → ks.length = es.length →
    PPs X pos keys values (litT X.K ad XR Wi W C ks es) ∧ keys.all (·.isSome) = true ∧ keys.length = ks.length ∧ values.length = es.length
  | [], [], [], [], _, _, _ => ⟨pps_nil, rfl, rfl, rfl⟩
  | [], [], [], _ :: _, _, h, _ => by simp [matEs] at h
  | [], [], _ :: _, _, h, _, _ => by simp [matLk] at h
  | [], _ :: _, _, _, _, _, l => by simp at l
  | _ :: _, [], _, _, _, _, l => by simp at l
  | _ :: _, _ :: _, [], _, h, _, _ => by simp [matLk] at h
  | _ :: _, _ :: _, _ :: _, [], _, h, _ => by simp [matEs] at h
  | k :: ks, e :: es, key :: keys, v :: values, h1, h2, l => by
    simp only [matEs, Bool.and_eq_true, Bool.not_eq_true'] at h2
    unfold matLk at h1
    split at h1
    case h_1 q1 q2 => cases q1
    case h_3 => cases h1
    case h_2 k' ks' z j p r q1 q2 =>
    cases q1
    cases q2
    simp only [Bool.and_eq_true, decide_eq_true_eq] at h1
    obtain ⟨rfl, h1⟩ := h1
    obtain ⟨i1, i2, i3, i4⟩ := lit_pps S G ks es keys values h1 h2.2 (by simpa using l)
    exact ⟨pps_cons pe_str (snd_E e n X sc Wi S G v h2.1.2) i1, by simp [i2], by simp [i3], by simp [i4]⟩
theorem lit_of {ks : List Str} {es : List Ex} {keys : List (Option Expr)} {values : List Expr} (S : XO ad n X N sc Wi lv) (G : GO X.K ad XR W C X.prog X.w X.mg X.base n lv) (h : matLit n N sc ks es keys values = true) :
    PPs X pos keys values (litT X.K ad XR Wi W C ks es) ∧ keys.all (·.isSome) = true ∧ keys.length = values.length ∧ keys ≠ [] ∧ keys.length ≤ 15 ∧ ks.length = es.length ∧ ks.length ≤ 15 := by
  simp only [matLit, Bool.and_eq_true, decide_eq_true_eq, Bool.not_eq_true'] at h
  obtain ⟨⟨⟨⟨h1, h2⟩, h3⟩, h4⟩, h5⟩ := h
  obtain ⟨i1, i2, i3, i4⟩ := lit_pps (pos := pos) S G ks es keys values h1 h2 h5
  refine ⟨i1, i2, by omega, fun z => ?_, by omega, h5, h3⟩
  rw [z] at i3
  cases ks with
  | nil => cases h4
  | cons => cases i3
end
end EV

set_option Elab.async false
set_option linter.all false
set_option maxRecDepth 100000
set_option maxHeartbeats 4000000
/-! EV, part N: all statements at once. -/
namespace EV
open PySem PySem.Spec PyProof.Rows L2
/-- an expression that makes a new list -/
def newB : Ex → Bool
  | .lst _ => true
  | .comp _ _ _ _ _ => true
  | .bin .Mult _ _ => true
  | .bin .Add _ _ => true
  | .blt .list [_] => true
  | .call _ _ => true
  | _ => false
def augB : Operator → Bool
  | .Add => true
  | .Sub => true
  | _ => false
/-- a tuple's stores go one by one -/
def swpT (sc : Scope) (ts : List Expr) : Expr → Bool
  | .Tuple vs _ _ => decide (swpB sc ts vs = some none)
  | _ => true
theorem swpT_of {sc : Scope} {env : Env} {ts : List Expr} {k p} {e : Expr} (hs : env.scope = sc) (hk : sc.kind = .function) (h : swpT sc ts e = true) : swappedStores [.Tuple ts k p] e env = pure none := by
  cases e <;> first | exact swp_of hs hk (of_decide_eq_true h) | rfl
/-- a list of ends told -/
def tldsB : Ex → Bool
  | .tolds _ _ => true
  | _ => false
/-! lists of lambdas, against the syntax -/
def matL (n : Wn) (N : List Str) (sc : Scope) (k : Nat) : Expr → Bool
  | .Lambda params body scope _ => LamX.lamSB sc scope && noParB params && (match n.lms[k]? with
    | some e => matE n.in_ N e scope body
    | none => false)
  | _ => false
def matLs (n : Wn) (N : List Str) (sc : Scope) : List Nat → List Expr → Bool
  | [], [] => true
  | k :: ks, e :: es => matL n N sc k e && matLs n N sc ks es
  | _, _ => false
def matG (n : Wn) (N : List Str) (sc : Scope) (i : Nat) : FG → Stmt → Bool
  | .new ks, .Assign [.Name x _] (.List es _) _ => atB N i x && locB sc x && matLs n N sc ks es
  | .add ks, .Assign [.Name x _] (.BinOp (.Name y _) .Add (.List es _) _) _ => atB N i x && locB sc x && decide (y = x) && okNm x && matLs n N sc ks es
  | .app k, .Expr (.Call (.Attribute (.Name x _) m ap) [e] [] cp) _ => atB N i x && locB sc x && okNm x && decide (m = ("append" : Str)) && (ap.endLine == cp.line) && matL n N sc k e
  | _, _ => false
def matGs (n : Wn) (N : List Str) (sc : Scope) (i : Nat) : List FG → List Stmt → Bool
  | [], [] => true
  | g :: gs, x :: xs => matG n N sc i g x && matGs n N sc i gs xs
  | _, _ => false
/-! new dicts, parts of a parallel store, against the syntax -/
def matD (n : Wn) (N : List Str) (sc : Scope) : DX → Expr → Bool
  | .k0, .Dict [] [] _ => true
  | .t0, .Dict [] [] _ => true
  | .t1 k v, .Dict [some k'] [v'] _ => matE n N k sc k' && matE n N v sc v'
  | .lit ks es, .Dict keys values _ => matLit n N sc ks es keys values
  | _, _ => false
def matP (n : Wn) (N : List Str) (sc : Scope) : PX → Expr → Bool
  | .nd _ _, .Dict [] [] _ => true
  | .vl e, e' => !starB e' && matE n N e sc e'
  | .nl _ e, e' => newB e && !starB e' && matE n N e sc e'
  | _, _ => false
def matPs (n : Wn) (N : List Str) (sc : Scope) : List PX → List Expr → Bool
  | [], [] => true
  | p :: ps, e :: es => matP n N sc p e && matPs n N sc ps es
  | _, _ => false
/-- the compiler's way with two or three names: at once, or by a tuple -/
def parB (sc : Scope) (xs : List Str) (ts es : List Expr) : Bool :=
  (xs.all (fun x => isKind sc x .local) && decide (swpB sc ts es = some (some xs))) || (xs.all (locB sc) && decide (swpB sc ts es = some none))
mutual
def matS (xk : List Xk) (n : Wn) (N : List Str) (sc : Scope) : EV.St → Stmt → Bool
  | .set (.nm i) e, .Assign [.Name x _] e' _ => !tldsB e && atB N i x && locB sc x && matE n N e sc e'
  | .set (.tp ts) e, .Assign [.Tuple ts' k p] e' _ => matTg N sc (.tp ts) (.Tuple ts' k p) && matE n N e sc e' && swpT sc ts' e'
  | .par [i, j] es, .Assign [.Tuple [.Name x px, .Name y py] _ _] (.Tuple [a, b] _ _) _ => atB N i x && atB N j y && decide (i ≠ j) && matEs n N es sc [a, b] && isKind sc x .local && isKind sc y .local && decide (swpB sc [.Name x px, .Name y py] [a, b] = some (some [x, y]))
  | .par [i, j, l] es, .Assign [.Tuple [.Name x px, .Name y py, .Name z pz] _ _] (.Tuple [a, b, c] _ _) _ => atB N i x && atB N j y && atB N l z && decide (i ≠ j) && decide (i ≠ l) && decide (j ≠ l) && matEs n N es sc [a, b, c] && isKind sc x .local && isKind sc y .local && isKind sc z .local && decide (swpB sc [.Name x px, .Name y py, .Name z pz] [a, b, c] = some (some [x, y, z]))
  | .newd i _ q, .Assign [.Name x _] e' _ => atB N i x && locB sc x && !compB e' && matD n N sc q e'
  | .pnw [i, j] ps, .Assign [.Tuple [.Name x px, .Name y py] _ _] (.Tuple [a, b] _ _) _ => atB N i x && atB N j y && decide (i ≠ j) && matPs n N sc ps [a, b] && parB sc [x, y] [.Name x px, .Name y py] [a, b]
  | .pnw [i, j, l] ps, .Assign [.Tuple [.Name x px, .Name y py, .Name z pz] _ _] (.Tuple [a, b, c] _ _) _ => atB N i x && atB N j y && atB N l z && decide (i ≠ j) && decide (i ≠ l) && decide (j ≠ l) && matPs n N sc ps [a, b, c] && parB sc [x, y, z] [.Name x px, .Name y py, .Name z pz] [a, b, c]
  | .newl i _ e, .Assign [.Name x _] e' _ => atB N i x && locB sc x && newB e && matE n N e sc e'
  | .sset i ix e, .Assign [.Subscript (.Name x _) ix' _] e' _ => atB N i x && visB sc x && okNm x && matE n N ix sc ix' && !sliceB ix' && matE n N e sc e'
  | .app i e, .Expr (.Call (.Attribute (.Name x _) m ap) [e'] [] cp) _ => atB N i x && visB sc x && okNm x && decide (m = ("append" : Str)) && !starB e' && (ap.endLine == cp.line) && matE n N e sc e'
  | .aug i op e, .AugAssign (.Name x _) op' e' _ => atB N i x && locB sc x && decide (op = op') && augB op && matE n N e sc e'
  | .ife c a b, .If c' a' b' _ => matT n N c sc c' && matSs xk n N sc a a' && matSs xk n N sc b b'
  | .whl c b, .While c' b' [] _ => matT n N c sc c' && matSs xk n N sc b b'
  | .fort tg ik src b, .For tg' iter' b' [] _ => matTg N sc tg tg' && matItH n sc ik iter' (isTupE tg') && matEs n N src sc (itExprs ik iter') && !setB iter' && matSs xk n N sc b b'
  | .ret e, .Return (some e') _ => matE n N e sc e'
  | .retn, .Return none _ => true
  | .retf e, .Return (some e') _ => newB e && matE n N e sc e'
  | .brk, .Break _ => true
  | .ctn, .Continue _ => true
  | .pas, .Pass _ => true
  | .exp e, .Expr e' _ => !compB e' && matE n N e sc e'
  | .upd i ks es, .Expr (.Call (.Attribute (.Name x _) mm ap) [.Dict keys values _] [] cp) _ => atB N i x && visB sc x && okNm x && decide (mm = ("update" : Str)) && (ap.endLine == cp.line) && matLit n N sc ks es keys values
  | .trx e cs, .Try [.Expr e' _] (h :: hs) [] [] _ => !compB e' && matE n N e sc e' && matTrs n sc cs (h :: hs)
  | .never, _ => true
  | .rse k, .Raise (some (.Call (.Name x _) [.Constant (.str _) _ _] [] _)) none _ => (match xk[k]? with
    | some kx => decide (kx.g = x) && kx.fp.isNone
    | none => false) && glbB sc x && okNm x
  | .rsk k e, .Raise (some (.Call (.Name x _) [e'] [] _)) none _ => (match xk[k]? with
    | some kx => decide (kx.g = x) && kx.fp.isSome
    | none => false) && glbB sc x && okNm x && !starB e' && matE n N e sc e'
  | _, _ => false
def matSs (xk : List Xk) (n : Wn) (N : List Str) (sc : Scope) : List EV.St → List Stmt → Bool
  | [], [] => true
  | .frz _ :: r, r' => matSs xk n N sc r r'
  | .grp i gs :: r, r' => n.lm && n.tp && makerB sc && matGs n N sc i gs (r'.take gs.length) && matSs xk n N sc r (r'.drop gs.length)
  | x :: r, x' :: r' => matS xk n N sc x x' && matSs xk n N sc r r'
  | _, _ => false
end
/-- the model's other statement at a name, on the comprehension's line -/
def swB (sc : Scope) (x : Str) (px : Pos) (scope : Scope) (pos : Pos) : Bool :=
  (sc.names.lookup x == some .local) && (px.line == pos.line) && !(scope.names.any fun (n, k) => n == x && (k == .local || k == .cell))
theorem sw_name {sc : Scope} {env : Env} {x : Str} {px pos : Pos} {elt : Expr} {gs : List Comprehension} {scope : Scope} {l : Nat} (hs : env.scope = sc) (hk : sc.kind = .function) :
    swapsWith (.ListComp elt gs scope pos) (some (.Name x px)) l env = pure (swB sc x px scope pos) := by
  have hb : env.blockKind = .function := by
    unfold Env.blockKind
    rw [hs, hk]
    rfl
  have hkd : ∀ id, env.kindOf id = sc.names.lookup id := fun id => by rw [← hs]; rfl
  unfold swapsWith
  simp only [hb, hkd, Expr.pos]
  rfl
theorem sw_sub {e o i : Expr} {p : Pos} {l : Nat} {env : Env} : swapsWith e (some (.Subscript o i p)) l env = pure false := by
  cases e <;> rfl
theorem sw_tup {e : Expr} {es : List Expr} {k : Nat} {p : Pos} {l : Nat} {env : Env} : swapsWith e (some (.Tuple es k p)) l env = pure false := by
  cases e <;> rfl
theorem slice_asg {o i : Expr} {pos : Pos} {env : Env} (h : sliceB i = false) : ∀ v, assign (.Subscript o i pos) env v = (do
      let ov ← holding [v] (eval o env)
      let iv ← holding [v, ov] (eval i env)
      standAt pos
      holding [v, ov, iv] (setItem ov iv v)
      release [v, ov, iv] []) := by
  intro v
  cases i <;> first | rfl | cases h
section
variable {ad : Adr} {XR : Xc → Value → Option Addr → Hp → Hp → Prop} {W : Wd} {C : Cal} {n : Wn} {N : List Str} {lv : Nat}
variable {X : Cx} {sc : Scope} {Wi : Wz} {b : Nat}
/-! ### new lists -/
theorem snd_comp {tg : Tg} {ik : IK} {src : List Ex} {ifs : List Tx} {elt : Ex} (S : XO ad n X N sc Wi lv) (G : GO X.K ad XR W C X.prog X.w X.mg X.base n lv) {elt' : Expr} {gs : List Comprehension} {scope : Scope} {p : Pos} (h : matE n N (.comp tg ik src ifs elt) sc (.ListComp elt' gs scope p) = true) :
    ∃ tg' iter' ifs' own, gs = [⟨tg', iter', ifs', 0⟩] ∧ PI X tg' iter' (tI X.K ad XR Wi W C ik src) ∧ BlkOk X.N X.env.scope scope own ∧ own.map (·.2) = slotsOf tg ∧
      (∀ (s : Shared) (H : Hp) (C : Addr) (cl : List (Str × Addr)) (fp : List Addr), PG (X.blk s H scope (compEnvC scope cl C X.env) fp) tg' (gD X.K ad Wi.z tg)) ∧
      (∀ (s : Shared) (H : Hp) (C0 : Addr) (cl : List (Str × Addr)) (fp : List Addr), PTs (X.blk s H scope (compEnvC scope cl C0 X.env) fp) ifs' (tIfs X.K ad XR Wi.no W C ifs)) ∧
      (∀ (s : Shared) (H : Hp) (C0 : Addr) (cl : List (Str × Addr)) (fp : List Addr), PE (X.blk s H scope (compEnvC scope cl C0 X.env) fp) elt' (tE X.K ad XR Wi.no W C elt)) ∧
      (∀ x, foldedSetIterable iter' X.env x = pure x) := by
  match gs, h with
  | [⟨tg', iter', ifs', z⟩], h =>
    simp only [matE, Bool.and_eq_true, decide_eq_true_eq, Bool.not_eq_true'] at h
    obtain ⟨⟨⟨⟨⟨⟨⟨⟨⟨h0, rfl⟩, h1⟩, h2⟩, h3⟩, h4⟩, h5⟩, h6⟩, h7⟩, h8⟩ := h
    have hm := mk_of h0
    exact ⟨tg', iter', ifs', ownsOf N tg, rfl, pi_all S G h4 h5 (snd_Es src _ X sc Wi S G _ h5) (snd_H src _ X sc Wi S G), by rw [S.nm, S.es]; exact blkOk_by h1, h2, fun s H C0 cl fp => pg_d (S.blk hm s H scope C0 cl fp) (StB.blk s H scope C0 cl fp) tg tg' h3,
      fun s H C0 cl fp => snd_Ifs ifs _ _ _ _ (S.blk hm s H scope C0 cl fp) G.in_ ifs' h7, fun s H C0 cl fp => snd_E elt _ _ _ _ (S.blk hm s H scope C0 cl fp) G.in_ elt' h8, set_fold h6 _⟩
  | [], h => simp [matE] at h
  | _ :: _ :: _, h => simp [matE] at h
theorem snd_N {e : Ex} (S : XO ad n X N sc Wi lv) (G : GO X.K ad XR W C X.prog X.w X.mg X.base n lv) {e' : Expr} (hn : newB e = true) (h : matE n N e sc e' = true) : PE X e' (tN X.K ad XR Wi W C e) := by
  cases e with
  | lst es =>
    cases e' with
    | List es' p =>
      simp only [matE] at h
      exact nf_lst (snd_Es es _ X sc Wi S G es' h)
    | _ => simp [matE] at h
  | comp tg ik src ifs elt =>
    cases e' with
    | ListComp elt' gs scope p =>
      obtain ⟨tg', iter', ifs', own, rfl, h1, h2, h3, h4, h5, h6, h7⟩ := snd_comp S G h
      exact pf_compN S h1 h2 h3 h4 h5 h6 h7
    | _ => simp [matE] at h
  | bin op a c =>
    cases e' with
    | BinOp a' op' b' p =>
      simp only [matE, Bool.and_eq_true, decide_eq_true_eq] at h
      obtain ⟨⟨rfl, h1⟩, h2⟩ := h
      cases op with
      | Mult => exact nf_mul (snd_E a _ X sc Wi S G a' h1) (snd_E c _ X sc Wi S G b' h2)
      | Add => exact nf_add (snd_E a _ X sc Wi S G a' h1) (snd_E c _ X sc Wi S G b' h2)
      | _ => cases hn
    | _ => simp [matE] at h
  | blt t es =>
    cases e' with
    | Call f es' kws p =>
      cases f with
      | Name x p1 =>
        cases kws with
        | nil =>
          simp only [matE, Bool.and_eq_true, decide_eq_true_eq] at h
          obtain ⟨⟨⟨⟨h1, h2⟩, h3⟩, h4⟩, h5⟩ := h
          match t, es, es', hn, h5 with
          | .list, [a], [a'], _, h5 =>
            simp only [matEs, Bool.and_eq_true, Bool.not_eq_true'] at h5
            exact nf_list h1.symm (G.bs _ h2) (S.gl h3) (snd_E a _ X sc Wi S G a' h5.1.2) h5.1.1
          | .list, [a], [], _, h5 => simp [matEs] at h5
          | .list, [a], _ :: _ :: _, _, h5 => simp [matEs] at h5
        | cons => simp [matE] at h
      | _ => simp [matE] at h
    | _ => simp [matE] at h
  | call k es =>
    cases e' with
    | Call f es' kws p =>
      cases f with
      | Name x p1 =>
        cases kws with
        | nil =>
          simp only [matE, Bool.and_eq_true] at h
          obtain ⟨h1, h2⟩ := matEs_star h.2
          exact nf_call G S (fnm_of h.1.1.1) (S.gl h.1.1.2) h.1.2 (snd_Es es _ X sc Wi S G es' h.2) h1 h2
        | cons => simp [matE] at h
      | _ => simp [matE] at h
    | _ => simp [matE] at h
  | _ => cases hn
theorem newB_tlds {e : Ex} (h : newB e = true) : tldsB e = false := by
  cases e <;> first | rfl | cases h
theorem comp_only {e : Ex} {e' : Expr} (ht : tldsB e = false) (hc : compB e' = true) (h : matE n N e sc e' = true) : ∃ elt gs scope p, e' = .ListComp elt gs scope p ∧ ∃ tg ik src ifs el, e = .comp tg ik src ifs el := by
  cases e' with
  | ListComp elt gs scope p =>
    refine ⟨_, _, _, _, rfl, ?_⟩
    cases e with
    | comp => exact ⟨_, _, _, _, _, rfl⟩
    | tolds => cases ht
    | cst d => cases d <;> simp [matE] at h
    | slc k a es => cases k <;> simp [matE] at h
    | _ => simp [matE] at h
  | SetComp =>
    cases e with
    | cst d => cases d <;> simp [matE] at h
    | slc k a es => cases k <;> simp [matE] at h
    | _ => simp [matE] at h
  | DictComp =>
    cases e with
    | cst d => cases d <;> simp [matE] at h
    | slc k a es => cases k <;> simp [matE] at h
    | _ => simp [matE] at h
  | _ => cases hc
/-- name = [..] that is new, either way -/
theorem snd_asgN {e : Ex} {i : Nat} {x : Str} {px pos : Pos} (S : SO ad n X N sc Wi lv) (G : GO X.K ad XR W C X.prog X.w X.mg X.base n lv) {e' : Expr} (hi : atB N i x = true) (hx : locB sc x = true) (hn : newB e = true) (h : matE n N e sc e' = true) :
    PS X (.Assign [.Name x px] e' pos) (tAsg (tN X.K ad XR Wi W C e) (gName i)) := by
  obtain ⟨l1, l2⟩ := S.stb _ hx
  have nd : X.N.Nodup := by rw [S.nm]; exact S.nd
  have pe := snd_N S.toXO G hn h
  by_cases hc : compB e' = true
  · obtain ⟨elt', gs, scope, p, rfl, tg, ik, src, ifs, elt, rfl⟩ := comp_only (newB_tlds hn) hc h
    have hsw := sw_name (x := x) (px := px) (pos := p) (elt := elt') (gs := gs) (scope := scope) (l := pos.line) S.es S.kd
    cases hb : swB sc x px scope p with
    | false => exact ps_set nd (S.at_ hi) l1 pe (by rw [hsw, hb]) l2
    | true =>
      obtain ⟨tg', iter', ifs', own, rfl, h1, h2, h3, h4, h5, h6, h7⟩ := snd_comp S.toXO G h
      have hl : X.env.scope.names.lookup x = some .local := by
        simp only [swB, Bool.and_eq_true, beq_iff_eq] at hb
        rw [S.es]; exact hb.1.1
      have h0 := ps_setLc (py := px) (spos := pos) (pos := p) S.calm nd (S.at_ hi) hl (by rw [hsw, hb]) h1 h2 h4 h5 h6 h7
      rw [h3] at h0
      exact h0.imp fun D σ H ⟨s, L, m, F, q1, q2, q⟩ => comp_read q1 q2 q
  · have hc : compB e' = false := by simpa using hc
    exact ps_set nd (S.at_ hi) l1 pe (sw_plain hc _ _ _) l2
theorem snd_asgE {e : Ex} {i : Nat} {x : Str} {px pos : Pos} (S : SO ad n X N sc Wi lv) (G : GO X.K ad XR W C X.prog X.w X.mg X.base n lv) {e' : Expr} (ht : tldsB e = false) (hi : atB N i x = true) (hx : locB sc x = true) (h : matE n N e sc e' = true) :
    PS X (.Assign [.Name x px] e' pos) (tAsg (tE X.K ad XR Wi W C e) (gName i)) := by
  by_cases hc : compB e' = true
  · obtain ⟨elt', gs, scope, p, rfl, tg, ik, src, ifs, elt, rfl⟩ := comp_only ht hc h
    exact (snd_asgN S G hi hx rfl h).imp fun D σ H ⟨s, L, m, F, h1, h2, h⟩ => ⟨s, L, m, F, h1, h2, frz_hold h2 (by rw [ev_comp] at h; exact h)⟩
  · have hc : compB e' = false := by simpa using hc
    obtain ⟨l1, l2⟩ := S.stb _ hx
    exact ps_set (by rw [S.nm]; exact S.nd) (S.at_ hi) l1 (snd_E e _ X sc Wi S.toXO G e' h) (sw_plain hc _ _ _) l2
theorem par2_read {i j : Nat} {es : List Ex} {D : Ends} {σ : L2.St} {H : Hp} (h : tS X.K ad XR Wi W C b (.par [i, j] es) D σ H) : tPar i j (tEs X.K ad XR Wi W C es) D σ H := by
  obtain ⟨s, L, m, F, hs, hm, hb, h⟩ := h
  simp only [exS] at h
  refine (tSbs hs hm h).mono fun xs H1 ⟨vs, m1, F1, _, ex, st, r, hk⟩ => ?_
  match vs, r, hk with
  | [u, v], .cons r1 (.cons r2 .nil), hk =>
    simp only [parS] at hk
    split at hk
    · split at hk
      · rename_i g1 g2
        exact ⟨_, _, rfl, hk L F1 H1 _ .refl st ((((hs.mono ex.sub).set g1 r1)).set g2 r2)⟩
      · exact hk.elim
    · exact hk.elim
  | [], _, hk => exact hk.elim
  | [u], .cons r1 .nil, hk =>
    simp only [parS] at hk
    split at hk <;> exact hk.elim
  | u :: v :: w :: r, .cons r1 (.cons r2 (.cons r3 r4)), hk =>
    simp only [parS] at hk
    split at hk
    · split at hk <;> exact hk.elim
    · exact hk.elim
theorem par3_read {i j l : Nat} {es : List Ex} {D : Ends} {σ : L2.St} {H : Hp} (h : tS X.K ad XR Wi W C b (.par [i, j, l] es) D σ H) : tPar3 i j l (tEs X.K ad XR Wi W C es) D σ H := by
  obtain ⟨s, L, m, F, hs, hm, hb, h⟩ := h
  simp only [exS] at h
  refine (tSbs hs hm h).mono fun xs H1 ⟨vs, m1, F1, _, ex, st, r, hk⟩ => ?_
  match vs, r, hk with
  | [u, v, w], .cons r1 (.cons r2 (.cons r3 .nil)), hk =>
    simp only [parS] at hk
    split at hk
    · split at hk
      · split at hk
        · rename_i g1 g2 g3
          exact ⟨_, _, _, rfl, hk L F1 H1 _ .refl st ((((hs.mono ex.sub).set g1 r1).set g2 r2).set g3 r3)⟩
        · exact hk.elim
      · exact hk.elim
    · exact hk.elim
  | [], _, hk => exact hk.elim
  | [u], .cons r1 .nil, hk =>
    simp only [parS] at hk
    split at hk <;> exact hk.elim
  | [u, v], .cons r1 (.cons r2 .nil), hk =>
    simp only [parS] at hk
    split at hk
    · split at hk <;> exact hk.elim
    · exact hk.elim
  | u :: v :: w :: y :: r, .cons r1 (.cons r2 (.cons r3 (.cons r4 r5))), hk =>
    simp only [parS] at hk
    split at hk
    · split at hk
      · split at hk <;> exact hk.elim
      · exact hk.elim
    · exact hk.elim
end
end EV

set_option Elab.async false
set_option linter.all false
set_option maxRecDepth 100000
set_option maxHeartbeats 4000000
/-! EV, part 2: statements that make lists of lambdas. -/
namespace EV
open PySem PySem.Spec PyProof.Rows L2 LamX
section
variable {ad : Adr} {XR : Xc → Value → Option Addr → Hp → Hp → Prop} {W : Wd} {C : Cal} {n : Wn} {N : List Str} {lv : Nat} {Wi : Wz}
variable {X : Cx} {sc : Scope}
theorem _root_.L2.PA.to {X : Cx} {es : List Expr} {t t' : TA} (h : PA X es t) (i : ∀ σ H Q, t' σ H Q → t σ H Q) : PA X es t' := ⟨fun pos pins s σ H Q I hw => h.run pos pins s σ H Q I (i σ H Q hw)⟩
variable (X n N sc ad) in
/-- what some lambdas wish as values -/
def tLms (ks : List Nat) : TA := fun _ H Q => ∃ L m F, StoR X.K ad L m F H ∧ ∀ F' H' rs, Ext L m F H m F' H' → StoR X.K ad L m F' H' → LmA n N sc (X.env.qual ++ "<lambda>") X.env.cells F' ks rs → Q rs H'
/-- a lambda's object becomes known -/
theorem lam_in {K : PySem.W.Frag} {L : List Addr} {m : Sto} {F H H0 : Hp} {f c' : Addr} {q : Str} {o : HO} (hm : StoR K ad L m F H) (eN : ExtN H H0) (T0 : Tabs ad.tb H0) (hf : H f = none) (hf0 : H0 f = none) (hc : H0 c' = some (CodeO c' q)) (no : ∀ ps, o ≠ .tbl ps) :
    ∃ F', Ext L m F H m F' (upd H0 f o) ∧ StoR K ad L m F' (upd H0 f o) ∧ F' f = some o ∧ F' c' = some (CodeO c' q) := by
  have ne : c' ≠ f := fun z => by rw [z, hf0] at hc; cases hc
  have Ff : F f = none := by
    cases z : F f with
    | none => rfl
    | some u => rw [hm.sub _ _ z] at hf; cases hf
  have up0 : ∀ a u, H a = some u → (∀ ps, u ≠ .tbl ps) → H0 a = some u := fun a u e t => eN a u e t
  have ne1 : ∀ a u, H a = some u → a ≠ f := fun a u e z => by rw [z, hf] at e; cases e
  have s0 : Sub F H0 := fun a u e => up0 a u (hm.sub _ _ e) fun ps z => hm.nt a ps (by rw [← z]; exact e)
  have sF : Sub F (upd (upd F c' (CodeO c' q)) f o) := fun a u e => by
    have n1 : a ≠ f := fun z => by rw [z, Ff] at e; cases e
    rw [upd_ne n1]
    by_cases z : a = c'
    · subst z
      rw [upd_same]
      have := s0 _ _ e
      rw [hc] at this
      exact this
    · rw [upd_ne z]; exact e
  have st : StoR K ad L m (upd (upd F c' (CodeO c' q)) f o) (upd H0 f o) := by
    refine ⟨fun a u e => ?_, fun i xs e nn => ?_, hm.inj, hm.len, T0.ext fun b u e => ?_, fun a ps e => ?_⟩
    · by_cases z : a = f
      · subst z; rw [upd_same] at e ⊢; exact e
      · rw [upd_ne z] at e ⊢
        by_cases y : a = c'
        · subst y; rw [upd_same] at e; rw [hc]; exact e
        · rw [upd_ne y] at e; exact s0 _ _ e
    · obtain ⟨a, vs, e1, e2, e3, e4⟩ := hm.obj i xs e nn
      have e3' := up0 _ _ e3 e4.isCell.ntb
      have n1 : a ≠ f := ne1 _ _ e3
      have n2 : a ≠ c' := fun z => by
        rw [z, hc] at e3'
        exact e4.isCell.ncd (Option.some.inj e3').symm
      exact ⟨a, vs, e1, by rw [upd_ne n1, upd_ne n2]; exact e2, by rw [upd_ne n1]; exact e3', e4.mono sF⟩
    · have : b ≠ f := fun z => by rw [z, hf0] at e; cases e
      rw [upd_ne this]; exact e
    · by_cases z : a = f
      · subst z; rw [upd_same] at e; exact no ps (Option.some.inj e)
      · rw [upd_ne z] at e
        by_cases y : a = c'
        · subst y; rw [upd_same] at e; exact codeO_ne ps (Option.some.inj e)
        · rw [upd_ne y] at e; exact hm.nt a ps e
  refine ⟨_, ⟨sF, fun a u e _ t => by rw [upd_ne (ne1 _ _ e)]; exact up0 _ _ e t, fun _ => Iff.rfl, rfl, fun a => ?_, fun a u e t => ⟨u, by rw [upd_ne (ne1 _ _ e)]; exact up0 _ _ e t, t⟩⟩, st, upd_same, by rw [upd_ne ne, upd_same]⟩
  by_cases z : a = f
  · subst z; exact .inr (.inl (nt_of hf))
  · rw [upd_ne z]
    by_cases y : a = c'
    · subst y; exact .inr (.inr (.inl ⟨q, by rw [upd_ne z, upd_same]⟩))
    · rw [upd_ne y]; exact .inl rfl
theorem pe_lam1 (S : XO ad n X N sc Wi lv) (hl : n.lm = true) (hk : makerB sc = true) {k : Nat} {e' : Expr} (h : matL n N sc k e' = true) :
    starB e' = false ∧ PE X e' (fun σ H Q => ∃ L m F, StoR X.K ad L m F H ∧ ∀ F' H' r, Ext L m F H m F' H' → StoR X.K ad L m F' H' → LmR n N sc (X.env.qual ++ "<lambda>") X.env.cells F' k r → Q r H') := by
  unfold matL at h
  split at h
  case h_2 => cases h
  case h_1 params body lsc pos =>
  simp only [Bool.and_eq_true] at h
  obtain ⟨⟨h1, h2⟩, h3⟩ := h
  split at h3
  case h_2 => cases h3
  case h_1 e he =>
  refine ⟨rfl, ?_⟩
  obtain ⟨_, c, P, l1, l2, l3, l4⟩ := S.lam hl hk
  have L0 : LamS X.env.scope lsc := by rw [S.es]; exact lamS_by h1
  have hp := noPar_of h2
  refine (pe_lamV (T := ad.tb) l2 l1 l3 l4 (by rw [hp]; rfl) L0).imp fun σ H Q ⟨L, m, F, hm, k⟩ => ⟨hm.tabs, fun f c' pm ctv H0 eN T0 n1 n2 n3 => ?_⟩
  obtain ⟨F', ex, st, e1, e2⟩ := lam_in hm eN T0 n1 n2 n3 (o := LamO f (X.env.qual ++ "<lambda>") params body lsc X.env.cells pm c' ctv) lamO_ntb
  exact k F' _ _ ex st ⟨e, f, c', params, body, lsc, pm, ctv, he, rfl, e1, e2, h1, h2, h3⟩
theorem pa_lams (S : XO ad n X N sc Wi lv) (hl : n.lm = true) (hk : makerB sc = true) : ∀ (ks : List Nat) (es : List Expr), matLs n N sc ks es = true → PA X es (tLms ad n N X sc ks)
  | [], [], _ => pa_nil.to fun σ H Q ⟨L, m, F, hm, k⟩ => k F H [] .refl hm .nil
  | k :: ks, e :: es, h => by
    simp only [matLs, Bool.and_eq_true] at h
    obtain ⟨hs, pe⟩ := pe_lam1 S hl hk h.1
    refine (pa_cons pe (pa_lams S hl hk ks es h.2) (star_each hs _ _)).to fun σ H Q ⟨L, m, F, hm, w⟩ => ⟨L, m, F, hm, fun F1 H1 r ex st lr => ⟨L, m, F1, st, fun F2 H2 rs ex2 st2 la => ?_⟩⟩
    exact w F2 H2 (r :: rs) (ex.trans ex2) st2 (.cons (lr.mono ex2.sub) la)
  | [], _ :: _, h => by simp [matLs] at h
  | _ :: _, [], h => by simp [matLs] at h
/-- where a group of such statements stands: the slot i holds the list told by cur, new since the group's start or frozen -/
structure GSt (ad : Adr) (n : Wn) (N : List Str) (X : Cx) (sc : Scope) (Wi : Wz) (i : Nat) (s : Slots) (L : List Addr) (m : Sto) (F H Fs Hs : Hp) (σ : L2.St) (cur : Option (List Nat)) (fz : Bool) : Prop where
  len : σ.length = s.length
  sl : ∀ (j : Nat) (v : Vl), j ≠ i → s[j]? = some (some v) → ∃ x : V, σ[j]? = some (some x) ∧ VzR X.K ad Wi.z L F v x
  sto : StoR X.K ad L m F H
  ext : Ext L m Fs Hs m F H
  sto0 : StoR X.K ad L m Fs Hs
  cu : ∀ ks, cur = some ks → ∃ a rs, σ[i]? = some (some (.ref a)) ∧ H a = some (.lst rs) ∧ LmA n N sc (X.env.qual ++ "<lambda>") X.env.cells F ks rs ∧ ((F a = some (.lst rs) ∧ fz = true) ∨ (F a = none ∧ Nt Hs a))
variable (X n N sc ad XR Wi W C) in
def tGr (b i : Nat) (gs : List FG) (r : List EV.St) : TS := fun D σ H => ∃ s L m F Fs Hs cur fz ks, GSt ad n N X sc Wi i s L m F H Fs Hs σ cur fz ∧ (fz = true → ∀ k r, gs ≠ .app k :: r) ∧ b ≤ m.length ∧ i < s.length ∧ grpK cur gs = some ks ∧ HoldS X.K ad XR Wi (exs W C b r (s.set i (some (.fns ks))) m) b L m Fs Hs D
theorem GSt.put {i : Nat} {s : Slots} {L : List Addr} {m : Sto} {F H Fs Hs F1 H1 : Hp} {σ : L2.St} {cur : Option (List Nat)} {fz : Bool} {ks : List Nat} {rs : List V} {p : Addr} (g : GSt ad n N X sc Wi i s L m F H Fs Hs σ cur fz) (hi : i < s.length)
    (ex : Ext L m F H m F1 H1) (st : StoR X.K ad L m F1 H1) (hp : H1 p = none) (la : LmA n N sc (X.env.qual ++ "<lambda>") X.env.cells F1 ks rs) (hk : ks.length ≤ 1000) :
    GSt ad n N X sc Wi i s L m F1 (upd H1 p (.lst rs)) Fs Hs (σ.set i (some (.ref p))) (some ks) false := by
  have gr := Grow.bare (o := .lst rs) st.sub hp
  have Fp : F1 p = none := by
    cases z : F1 p with
    | none => rfl
    | some u => rw [st.sub _ _ z] at hp; cases hp
  refine ⟨by rw [List.length_set]; exact g.len, fun j v hj e => ?_, gr.sto st, (g.ext.trans ex).trans gr.ext, g.sto0, fun ks' e => ?_⟩
  · obtain ⟨x, e1, r⟩ := g.sl j v hj e
    exact ⟨x, by rw [List.getElem?_set_ne (Ne.symm hj)]; exact e1, r.mono ex.sub⟩
  · cases e
    exact ⟨p, rs, List.getElem?_set_self (by rw [g.len]; exact hi), upd_same, la, .inr ⟨Fp, (g.ext.trans ex).nt (nt_of hp)⟩⟩
theorem cap_of {l ks : List Nat} (h : capK l = some ks) : ks = l ∧ ks.length ≤ 1000 := by
  unfold capK at h
  split at h
  · rename_i hl
    cases h
    exact ⟨rfl, of_decide_eq_true hl⟩
  · cases h
theorem sz1000 {k : Nat} (h : k ≤ 1000) : k ≤ sizeLine := Nat.le_trans h (by decide)
/-- one such statement -/
theorem grp_one (S : SO ad n X N sc Wi lv) (hl : n.lm = true) (hm : makerB sc = true) {b i : Nat} {g : FG} {gs : List FG} {r : List EV.St} {x : Stmt} (h : matG n N sc i g x = true) :
    ∃ t : TS, PS X x t ∧ ∀ D σ H, tGr ad XR W C n N Wi X sc b i (g :: gs) r D σ H → t { D with nx := tGr ad XR W C n N Wi X sc b i gs r D } σ H := by
  have nd : X.N.Nodup := by rw [S.nm]; exact S.nd
  unfold matG at h
  split at h
  · -- a new list
    rename_i ks y p1 es p2 p3
    simp only [Bool.and_eq_true] at h
    obtain ⟨⟨h1, h2⟩, h3⟩ := h
    obtain ⟨l1, l2⟩ := S.stb _ h2
    refine ⟨_, ps_set nd (S.at_ h1) l1 (pe_lst (pa_lams S.toXO hl hm ks es h3)) (sw_plain rfl _ _ _) l2, fun D σ H ⟨s, L, m, F, Fs, Hs, cur, fzb, ks', g, hfz, hb, hi, hk, hh⟩ => ⟨L, m, F, g.sto, fun F1 H1 rs ex st la => ?_⟩⟩
    have hk' : (match stepK cur (.new ks) with | some l => grpK (some l) gs | none => none) = some ks' := hk
    have e0 : stepK cur (.new ks) = capK ks := by cases cur <;> rfl
    rw [e0] at hk'
    split at hk'
    case h_2 => cases hk'
    case h_1 l el =>
    obtain ⟨rfl, hz⟩ := cap_of el
    exact ⟨by rw [la.len]; exact sz1000 hz, fun p hp => ⟨s, L, m, F1, Fs, Hs, some l, false, ks', g.put hi ex st hp la hz, (fun z => by cases z), hb, hi, hk', hh⟩⟩
  · -- with more behind
    rename_i ks y p1 y' p2 es p3 p4 p5
    simp only [Bool.and_eq_true, decide_eq_true_eq] at h
    obtain ⟨⟨⟨⟨h1, h2⟩, rfl⟩, h4⟩, h3⟩ := h
    obtain ⟨l1, l2⟩ := S.stb _ h2
    obtain ⟨o1, o2, _⟩ := okNm_of h4
    have vis : Vis X.env.scope y' := by
      rcases l1 with z | z
      · exact .inl z
      · exact .inr (.inl z)
    refine ⟨_, ps_set nd (S.at_ h1) l1 (pe_op op_cat (pe_var (S.at_ h1) vis o1 o2) (pe_lst (pa_lams S.toXO hl hm ks es h3))) (sw_plain rfl _ _ _) l2, fun D σ H ⟨s, L, m, F, Fs, Hs, cur, fzb, ks', g, hfz, hb, hi, hk, hh⟩ => ?_⟩
    have hk' : (match stepK cur (.add ks) with | some l => grpK (some l) gs | none => none) = some ks' := hk
    cases cur with
    | none => cases hk'
    | some l0 =>
    obtain ⟨a, rs0, ea, ha, la0, fz⟩ := g.cu l0 rfl
    have e0 : stepK (some l0) (.add ks) = capK (l0 ++ ks) := rfl
    rw [e0] at hk'
    split at hk'
    case h_2 => cases hk'
    case h_1 l el =>
    obtain ⟨rfl, hz⟩ := cap_of el
    rw [List.length_append] at hz
    refine ⟨.ref a, ea, L, m, F, g.sto, fun F1 H1 rs ex st la => ⟨by rw [la.len]; exact sz1000 (by omega), fun p hp => ?_⟩⟩
    have ga : Nt Hs a ∨ ∃ rs, F a = some (.lst rs) := by
      rcases fz with ⟨z, _⟩ | ⟨_, z⟩
      · exact .inr ⟨_, z⟩
      · exact .inl z
    have no : ¬ Own L m a := fun q => by
      obtain ⟨vs, z1, _, z2⟩ := g.sto.owned q
      rcases ga with z | ⟨_, z⟩
      · obtain ⟨vs', w1, w2, _⟩ := g.sto0.owned q
        exact z.cell w1 w2
      · rw [z] at z2; cases z2
    have ha1 : H1 a = some (.lst rs0) := ex.keep a _ ha no fun ps z => by cases z
    have nap : a ≠ p := fun z => by rw [z, hp] at ha1; cases ha1
    have gr := Grow.bare (o := .lst rs) st.sub hp
    refine ⟨a, p, rs0, rs, rfl, rfl, by rw [upd_ne nap]; exact ha1, upd_same, by rw [la.len, la0.len]; exact sz1000 hz, fun p2 hp2 => ?_⟩
    have gg := g.put (F1 := F1) (H1 := upd H1 p (.lst rs)) hi (ex.trans gr.ext) (gr.sto st) hp2 ((la0.mono ex.sub).app la) (by rw [List.length_append]; exact hz)
    exact ⟨s, L, m, F1, Fs, Hs, some (l0 ++ ks), false, ks', gg, (fun z => by cases z), hb, hi, hk', hh⟩
  · -- one more
    rename_i k y p1 mn ap e' cp p2
    simp only [Bool.and_eq_true, decide_eq_true_eq] at h
    obtain ⟨⟨⟨⟨⟨h1, h2⟩, h4⟩, rfl⟩, h5⟩, h3⟩ := h
    obtain ⟨l1, l2⟩ := S.stb _ h2
    obtain ⟨o1, o2, _⟩ := okNm_of h4
    have vis : Vis X.env.scope y := by
      rcases l1 with z | z
      · exact .inl z
      · exact .inr (.inl z)
    obtain ⟨hst, pe⟩ := pe_lam1 S.toXO hl hm h3
    refine ⟨_, ps_expr (pe_bm PySem.F.plainAttrs_list PySem.F.slot_list_append PySem.F.type_list_append (mt_append) (pe_var (S.at_ h1) vis o1 o2) (pa_cons pe pa_nil (star_each hst _ _)) rfl (by rw [star_each hst]; rfl) h5 (star_each hst _ _) rfl) rfl, fun D σ H ⟨s, L, m, F, Fs, Hs, cur, fzb, ks', g, hfz, hb, hi, hk, hh⟩ => ?_⟩
    have hk' : (match stepK cur (.app k) with | some l => grpK (some l) gs | none => none) = some ks' := hk
    cases cur with
    | none => cases hk'
    | some l0 =>
    obtain ⟨a, rs0, ea, ha, la0, fz⟩ := g.cu l0 rfl
    have e0 : stepK (some l0) (.app k) = capK (l0 ++ [k]) := rfl
    rw [e0] at hk'
    split at hk'
    case h_2 => cases hk'
    case h_1 l el =>
    obtain ⟨rfl, hz⟩ := cap_of el
    rcases fz with ⟨_, fz⟩ | ⟨fz, na⟩
    · exact absurd rfl (hfz fz k gs)
    · refine ⟨.ref a, ea, .inl ⟨rfl, rs0, SqL.of ha⟩, L, m, F, g.sto, fun F1 H1 r1 ex st lr => ?_⟩
      rw [List.length_append, List.length_singleton] at hz
      have no : ¬ Own L m a := fun q => by
        obtain ⟨vs, w1, w2, _⟩ := g.sto0.owned q
        exact na.cell w1 w2
      have ha1 : H1 a = some (.lst rs0) := ex.keep a _ ha no fun ps z => by cases z
      have fa1 : F1 a = none := by
        rcases ex.fresh a with q | q | q
        · rw [q]; exact fz
        · exact (q.lst ha).elim
        · exact (q.lst st.sub ha1).elim
      refine ⟨a, rs0, r1, rfl, rfl, ha1, by rw [la0.len]; exact Nat.lt_of_lt_of_le (show l0.length < 1001 by omega) (by decide), ?_⟩
      have ex2 := g.ext.trans ex
      have ex3 : Ext L m Fs Hs m F1 (upd H1 a (.lst (rs0 ++ [r1]))) := by
        refine ⟨ex2.sub, fun c o e nn t => ?_, ex2.own, ex2.len, ex2.fresh, fun c o e t => ?_⟩
        · have nc : c ≠ a := fun z => by
            rw [z] at e
            obtain ⟨ps, w⟩ := na o e
            exact t ps w
          rw [upd_ne nc]; exact ex2.keep c o e nn t
        · have nc : c ≠ a := fun z => by
            rw [z] at e
            obtain ⟨ps, w⟩ := na o e
            exact t ps w
          rw [upd_ne nc]; exact ex2.there c o e t
      refine ⟨s, L, m, F1, Fs, Hs, some (l0 ++ [k]), false, ks', ⟨g.len, fun j v hj e => ?_, st.wr no fa1 ha1, ex3, g.sto0, fun ks2 e => ?_⟩, (fun z => by cases z), hb, hi, hk', hh⟩
      · obtain ⟨x, e1, r⟩ := g.sl j v hj e
        exact ⟨x, e1, r.mono ex.sub⟩
      · cases e
        exact ⟨a, rs0 ++ [r1], ea, upd_same, (la0.mono ex.sub).app (.cons lr .nil), .inr ⟨fa1, na⟩⟩
  · cases h
theorem grp_all (S : SO ad n X N sc Wi lv) (hl : n.lm = true) (ht : n.tp = true) (hm : makerB sc = true) {b i : Nat} {r : List EV.St} {rest : List Stmt} (hr : PSs X rest (tSs X.K ad XR Wi W C b r)) :
    ∀ (gs : List FG) (st : List Stmt), matGs n N sc i gs st = true → PSs X (st ++ rest) (tGr ad XR W C n N Wi X sc b i gs r)
  | [], [], _ => by
    refine hr.imp fun D σ H ⟨s, L, m, F, Fs, Hs, cur, fz, ks, g, hfz, hb, hi, hk, hh⟩ => ?_
    have ec : cur = some ks := hk
    subst ec
    obtain ⟨a, rs, ea, ha, la, fr⟩ := g.cu ks rfl
    have ez := S.zz hl ht
    have fin : ∀ F', Sub F F' → F' a = some (.lst rs) → StoR X.K ad L m F' H → Ext L m Fs Hs m F' H → tSs X.K ad XR Wi W C b r D σ H := fun F' sub fa st ex =>
      ⟨s.set i (some (.fns ks)), L, m, F', ⟨by rw [List.length_set]; exact g.len, fun j v e => (by
        by_cases z : i = j
        · subst z
          rw [List.getElem?_set_self hi] at e
          cases e
          refine ⟨.ref a, ea, ?_⟩
          show Wi.z.r F' (.ref a) ks
          rw [ez]
          exact ⟨a, rs, rfl, fa, la.mono sub⟩
        · rw [List.getElem?_set_ne z] at e
          obtain ⟨x, e1, q⟩ := g.sl j v (fun y => z y.symm) e
          exact ⟨x, e1, q.mono sub⟩)⟩, st, hb, HoldS.step ex.s hh⟩
    rcases fr with ⟨z, _⟩ | ⟨z1, z2⟩
    · exact fin F (Sub.refl _) z g.sto g.ext
    · have no : ¬ Own L m a := fun q => by
        obtain ⟨vs, w1, w2, _⟩ := g.sto0.owned q
        exact z2.cell w1 w2
      exact fin _ (sub_upd z1) upd_same (g.sto.frz no z1 ha) (g.ext.frz z2 z1 ha)
  | g :: gs, x :: xs, h => by
    simp only [matGs, Bool.and_eq_true] at h
    obtain ⟨t, ps, im⟩ := grp_one (XR := XR) (W := W) (C := C) (b := b) (gs := gs) (r := r) S hl hm h.1
    exact (pss_cons ps (grp_all S hl ht hm hr gs xs h.2)).imp fun D σ H q => im D σ H q
  | [], _ :: _, h => by simp [matGs] at h
  | _ :: _, [], h => by simp [matGs] at h
theorem sf_grp (S : SO ad n X N sc Wi lv) (hl : n.lm = true) (ht : n.tp = true) (hm : makerB sc = true) {b i : Nat} {gs : List FG} {r : List EV.St} {st rest : List Stmt} (hr : PSs X rest (tSs X.K ad XR Wi W C b r)) (h : matGs n N sc i gs st = true) :
    PSs X (st ++ rest) (tSs X.K ad XR Wi W C b (.grp i gs :: r)) := by
  refine (grp_all S hl ht hm hr gs st h).imp fun D σ H ⟨s, L, m, F, hs, hst, hb, hh⟩ => ?_
  simp only [exs, exS] at hh
  cases e : grpF (s[i]?) gs with
  | none => rw [e] at hh; exact hh.elim
  | some ks =>
    rw [e] at hh
    dsimp only at hh
    split at hh
    case isFalse => exact hh.elim
    case isTrue hi =>
    simp only [R.bind_ok] at hh
    have ek : grpK (fnsAt (s[i]?)) gs = some ks ∧ ∀ k r, gs ≠ .app k :: r := by
      unfold grpF at e
      split at e
      · cases e
      · rename_i z
        exact ⟨e, fun k r y => z k r y⟩
    refine ⟨s, L, m, F, F, H, fnsAt (s[i]?), true, ks, ⟨hs.len, fun j v _ q => hs.at_ j v q, hst, .refl, hst, fun k0 q => ?_⟩, fun _ => ek.2, hb, hi, ek.1, hh⟩
    unfold fnsAt at q
    split at q
    · rename_i l el
      cases q
      obtain ⟨x, e1, z⟩ := hs.at_ i _ el
      have z' : Wi.z.r F x k0 := z
      rw [S.zz hl ht] at z'
      obtain ⟨a, rs, rfl, fa, la⟩ := z'
      exact ⟨a, rs, e1, hst.sub _ _ fa, la, .inl ⟨fa, rfl⟩⟩
    · cases q
end
end EV

set_option Elab.async false
set_option linter.all false
set_option maxRecDepth 100000
set_option maxHeartbeats 4000000
/-! EV, part O: statements, by induction on them. -/
namespace EV
open PySem PySem.Spec PyProof.Rows L2
section
variable {ad : Adr} {XR : Xc → Value → Option Addr → Hp → Hp → Prop} {W : Wd} {C : Cal} {n : Wn} {N : List Str} {lv : Nat} {Wi : Wz}
theorem sws_tup {e : Expr} {es : List Expr} {k : Nat} {p : Pos} {l : Nat} {env : Env} : swapsWithSole [.Tuple es k p] e l env = pure false := by cases e <;> rfl
theorem sws_sub {e o i : Expr} {p : Pos} {l : Nat} {env : Env} : swapsWithSole [.Subscript o i p] e l env = pure false := by cases e <;> rfl
theorem swp_sub {e o i : Expr} {p : Pos} {env : Env} : swappedStores [.Subscript o i p] e env = pure none := by cases e <;> rfl
theorem frzS_at {n : Nat} {xs : D} : ∀ (s : Slots) (j : Nat) (v : Vl), (frzS n xs s)[j]? = some (some v) → (s[j]? = some (some (.loc n)) ∧ v = .dat xs) ∨ (s[j]? = some (some v) ∧ v ≠ .loc n)
  | [], j, v, h => by simp [frzS] at h
  | some (.loc k) :: r, 0, v, h => by
    simp only [frzS, List.getElem?_cons_zero, Option.some.injEq] at h
    split at h
    · rename_i q
      cases h
      exact .inl ⟨by simp [q], rfl⟩
    · rename_i q
      cases h
      exact .inr ⟨rfl, fun z => q (by cases z; rfl)⟩
  | some (.dat d) :: r, 0, v, h => by
    simp only [frzS, List.getElem?_cons_zero, Option.some.injEq] at h
    cases h
    exact .inr ⟨rfl, fun z => by cases z⟩
  | some (.fns d) :: r, 0, v, h => by
    simp only [frzS, List.getElem?_cons_zero, Option.some.injEq] at h
    cases h
    exact .inr ⟨rfl, fun z => by cases z⟩
  | none :: r, 0, v, h => by simp [frzS] at h
  | some (.loc k) :: r, j + 1, v, h => by
    simp only [frzS, List.getElem?_cons_succ] at h ⊢
    exact frzS_at r j v h
  | some (.dat d) :: r, j + 1, v, h => by
    simp only [frzS, List.getElem?_cons_succ] at h ⊢
    exact frzS_at r j v h
  | some (.fns d) :: r, j + 1, v, h => by
    simp only [frzS, List.getElem?_cons_succ] at h ⊢
    exact frzS_at r j v h
  | none :: r, j + 1, v, h => by
    simp only [frzS, List.getElem?_cons_succ] at h ⊢
    exact frzS_at r j v h
theorem frzS_len {n : Nat} {xs : D} : ∀ (s : Slots), (frzS n xs s).length = s.length
  | [] => rfl
  | some (.loc k) :: r => by simp [frzS, frzS_len r]
  | some (.dat d) :: r => by simp [frzS, frzS_len r]
  | some (.fns d) :: r => by simp [frzS, frzS_len r]
  | none :: r => by simp [frzS, frzS_len r]
theorem live_nil {m : Sto} {i j : Nat} (h : live (m.set i .nil) j) : live m j ∧ i ≠ j := by
  rw [live_set] at h
  split at h
  · exact absurd rfl h.2
  · rename_i z; exact ⟨h, z⟩
theorem nil_at {m : Sto} {i j : Nat} {o : MO} (h : (m.set i .nil)[j]? = some o) (nn : o ≠ .nil) : m[j]? = some o ∧ i ≠ j := by
  obtain ⟨⟨ys, q⟩, ne⟩ := live_nil (⟨o, h, nn⟩ : live (m.set i .nil) j)
  rw [List.getElem?_set_ne ne] at h
  exact ⟨h, ne⟩
/-- a dict that is done is locked -/
theorem pss_lock {X : Cx} {r' : List Stmt} {t : TS} (h : PSs X r' t) : PSs X r' (fun D σ H => ∃ p u, H p = some u ∧ IsCell u ∧ ∀ od, t D σ (upd H p (.frz od u))) := ⟨fun pins s σ H D I ⟨p, u, hp, c, q⟩ => by
  obtain ⟨od, I'⟩ := I.lock hp c.mut
  exact h.run pins s σ _ D I' (q od)⟩
/-- the empty cell k -/
theorem frz_core {L : List Addr} {m : Sto} {F H : Hp} {s : Slots} {σ : L2.St} {b k : Nat} {p : Addr} {K : PySem.W.Frag} {u w : HO} {o : MO} {d : D} (hs : SltR K ad Wi.z L F s σ) (hm : StoR K ad L m F H) (hk : b ≤ k) (em : m[k]? = some o) (nn : o ≠ .nil) (q1 : L[k]? = some p) (q2 : F p = none)
    (q3 : H p = some u) (q4 : IsCell u) (hw : ∀ ps, w ≠ .tbl ps) (rd : Rp K ad (upd F p w) (.ref p) d) :
    SltR K ad Wi.z L (upd F p w) (frzS k d s) σ ∧ StoR K ad L (m.set k .nil) (upd F p w) (upd H p w) ∧ ExtS b L m F H L (m.set k .nil) (upd F p w) (upd H p w) := by
  have lk : live m k := ⟨o, em, nn⟩
  have no : ∀ j a, live (m.set k .nil) j → L[j]? = some a → a ≠ p := fun j a lj ej z => by
    subst z
    exact (live_nil lj).2 (hm.inj k j a lk (live_nil lj).1 q1 ej)
  refine ⟨⟨by rw [frzS_len]; exact hs.len, fun j v e => ?_⟩, ⟨fun a x e => ?_, fun j ys e ny => ?_, fun a c d la lc => hm.inj a c d (live_nil la).1 (live_nil lc).1, by rw [List.length_set]; exact hm.len, tabs_wr hm.tabs q3 q4, hm.nt.upd hw⟩, ?_⟩
  · rcases frzS_at s j v e with ⟨e1, rfl⟩ | ⟨e1, ne⟩
    · obtain ⟨x, w1, a, w2, rfl⟩ := hs.at_ j _ e1
      rw [q1] at w2; cases w2
      exact ⟨_, w1, rd⟩
    · exact (hs.mono (sub_upd q2)).at_ j v e1
  · by_cases z : a = p
    · subst z; rw [upd_same] at e ⊢; exact e
    · rw [upd_ne z] at e ⊢; exact hm.sub _ _ e
  · obtain ⟨e', _⟩ := nil_at e ny
    obtain ⟨a, x, e1, e2, e3, e4⟩ := hm.obj j ys e' ny
    have ne := no j a ⟨ys, e, ny⟩ e1
    exact ⟨a, x, e1, by rw [upd_ne ne]; exact e2, by rw [upd_ne ne]; exact e3, e4.mono (sub_upd q2)⟩
  · refine ⟨sub_upd q2, fun a x e n _ => ?_, fun j hj => ⟨rfl, ?_⟩, by rw [List.length_set], fun a => ?_, fun a x e t => ?_, fun a ⟨j, hj, l, e⟩ => .inl ⟨j, hj, (live_nil l).1, e⟩⟩
    · have ne : a ≠ p := fun z => n (z ▸ ⟨k, lk, q1⟩)
      rw [upd_ne ne]; exact e
    · rw [live_set, if_neg (by omega)]
    · by_cases q : a = p
      · subst q; exact .inr (.inr (.inl ⟨k, hk, lk, q1⟩))
      · rw [upd_ne q]; exact .inl rfl
    · by_cases q : a = p
      · subst q; exact ⟨w, upd_same, hw⟩
      · exact ⟨x, by rw [upd_ne q]; exact e, t⟩
theorem sf_frz {X : Cx} {b i : Nat} {r : List EV.St} {r' : List Stmt} (h : PSs X r' (tSs X.K ad XR Wi W C b r)) : PSs X r' (tSs X.K ad XR Wi W C b (.frz i :: r)) := by
  refine ⟨fun pins s0 σ H D I ⟨s, L, m, F, hs, hm, hb, hh⟩ => ?_⟩
  simp only [exs, exS] at hh
  cases el : locAt s i with
  | none =>
    rw [el] at hh
    exact h.run pins s0 σ H D I ⟨s, L, m, F, hs, hm, hb, hh⟩
  | some k =>
    rw [el] at hh
    dsimp only at hh
    split at hh
    case isFalse => exact hh.elim
    case isTrue hk =>
    cases em : m[k]? with
    | none => rw [em] at hh; exact hh.elim
    | some o =>
      rw [em] at hh
      cases o with
      | nil => exact hh.elim
      | lst xs =>
        simp only [Option.bind_some, moD, R.bind_ok] at hh
        obtain ⟨p, vs, q1, q2, q3, q4⟩ := hm.lstAt k xs em
        obtain ⟨z1, z2, z3⟩ := frz_core (d := .lst xs) (w := .lst vs) hs hm hk em (by intro z; cases z) q1 q2 q3 (.lst vs) (by intro _ z; cases z) (.lst upd_same (q4.mono (sub_upd q2)))
        have e : upd H p (.lst vs) = H := by
          funext a
          by_cases z : a = p
          · subst z; rw [upd_same]; exact q3.symm
          · rw [upd_ne z]
        rw [e] at z2 z3
        exact h.run pins s0 σ H D I ⟨_, L, _, _, z1, z2, by rw [List.length_set]; exact hb, HoldS.step (b := b) z3 hh⟩
      | dK ks ds =>
        simp only [Option.bind_some, moD, R.bind_ok] at hh
        obtain ⟨p, u, q1, q2, q3, q4⟩ := hm.obj k _ em (by intro z; cases z)
        cases q4 with
        | @dK _ _ vs l rr =>
          refine (pss_lock h).run pins s0 σ H D I ⟨p, _, q3, .dK _, fun od => ?_⟩
          obtain ⟨z1, z2, z3⟩ := frz_core (d := .dK ks ds) (w := .frz od (.dK (ks.zip vs))) hs hm hk em (by intro z; cases z) q1 q2 q3 (.dK _) (by intro _ z; cases z) (.dK upd_same l (rr.mono (sub_upd q2)))
          exact ⟨_, L, _, _, z1, z2, by rw [List.length_set]; exact hb, HoldS.step (b := b) z3 hh⟩
      | dT ks ds =>
        simp only [Option.bind_some, moD, R.bind_ok] at hh
        obtain ⟨p, u, q1, q2, q3, q4⟩ := hm.obj k _ em (by intro z; cases z)
        cases q4 with
        | @dT _ _ vs l rr =>
          refine (pss_lock h).run pins s0 σ H D I ⟨p, _, q3, .dT _, fun od => ?_⟩
          obtain ⟨z1, z2, z3⟩ := frz_core (d := .dT ks ds) (w := .frz od (.dT (ks.zip vs))) hs hm hk em (by intro z; cases z) q1 q2 q3 (.dT _) (by intro _ z; cases z) (.dT upd_same l (rr.mono (sub_upd q2)))
          exact ⟨_, L, _, _, z1, z2, by rw [List.length_set]; exact hb, HoldS.step (b := b) z3 hh⟩
/-! parallel stores with new parts -/
theorem pps_all {X : Cx} {sc : Scope} (S : XO ad n X N sc Wi lv) (G : GO X.K ad XR W C X.prog X.w X.mg X.base n lv) : ∀ (ps : List PX) (es' : List Expr), matPs n N sc ps es' = true → PA X es' (tPs X.K ad XR Wi W C ps)
  | [], [], _ => pp_nil
  | p :: ps, e :: es, h => by
    simp only [matPs, Bool.and_eq_true] at h
    have ih := pps_all S G ps es h.2
    have h1 := h.1
    cases p with
    | vl a =>
      simp only [matP, Bool.and_eq_true, Bool.not_eq_true'] at h1
      exact pp_vl (snd_E _ _ X sc Wi S G _ h1.2) ih h1.1
    | nl c a =>
      simp only [matP, Bool.and_eq_true, Bool.not_eq_true'] at h1
      exact pp_nl (snd_N S G h1.1.1 h1.2) ih h1.1.2
    | nd c t =>
      unfold matP at h1
      split at h1 <;> first | contradiction | skip
      exact pp_nd ih
  | [], _ :: _, h => by simp [matPs] at h
  | _ :: _, [], h => by simp [matPs] at h
theorem snd_D {X : Cx} {sc : Scope} {q : DX} (S : XO ad n X N sc Wi lv) (G : GO X.K ad XR W C X.prog X.w X.mg X.base n lv) {e' : Expr} (h : matD n N sc q e' = true) : PE X e' (tDX X.K ad XR Wi W C q) := by
  unfold matD at h
  split at h
  · exact pd_k0
  · exact pd_t0
  · simp only [Bool.and_eq_true] at h
    exact pd_t1 S.room.u64 (snd_E _ _ X sc Wi S G _ h.1) (snd_E _ _ X sc Wi S G _ h.2)
  · obtain ⟨z1, z2, z3, z4, z5, z6, z7⟩ := lit_of S G h
    exact pd_lit z1 z2 z3 z4 z5 z6 z7
  · cases h
theorem all2 {f : Str → Bool} {x y : Str} (h : [x, y].all f = true) : f x = true ∧ f y = true := by simpa using h
theorem all3 {f : Str → Bool} {x y z : Str} (h : [x, y, z].all f = true) : f x = true ∧ f y = true ∧ f z = true := by simpa using h
theorem snd_pnw2 {X : Cx} {sc : Scope} {b i j : Nat} {ps : List PX} {x y : Str} {px py pt p2 pos : Pos} {kt k2 : Nat} {a c : Expr} (S : SO ad n X N sc Wi lv) (G : GO X.K ad XR W C X.prog X.w X.mg X.base n lv) (h1 : atB N i x = true) (h2 : atB N j y = true) (h3 : i ≠ j) (h4 : matPs n N sc ps [a, c] = true)
    (h5 : parB sc [x, y] [.Name x px, .Name y py] [a, c] = true) : PS X (.Assign [.Tuple [.Name x px, .Name y py] kt pt] (.Tuple [a, c] k2 p2) pos) (tS X.K ad XR Wi W C b (.pnw [i, j] ps)) := by
  have pa := pps_all S.toXO G ps _ h4
  have nd : X.N.Nodup := by rw [S.nm]; exact S.nd
  have es := S.es
  simp only [parB, Bool.or_eq_true, Bool.and_eq_true, decide_eq_true_eq] at h5
  rcases h5 with ⟨hl, hw⟩ | ⟨hl, hw⟩
  · obtain ⟨l1, l2⟩ := all2 hl
    refine (ps_par S.calm nd (S.at_ h1) (S.at_ h2) h3 (by rw [es]; exact isKind_of l1) (by rw [es]; exact isKind_of l2) pa (swp_of es S.kd hw) rfl).imp fun D σ H q => ?_
    refine (pnw_read q).mono fun xs H1 ⟨hx, q1, _⟩ => ?_
    match xs, hx, q1 with
    | [v, w], _, q1 => exact ⟨v, w, rfl, q1⟩
  · obtain ⟨l1, l2⟩ := all2 hl
    obtain ⟨m1, m2⟩ := S.stb _ l1
    obtain ⟨m3, m4⟩ := S.stb _ l2
    refine (ps_asg (pe_tup pa) (pg_tup S.calm (pgs_cons (pg_name nd (S.at_ h1) m1 m2) (pgs_cons (pg_name nd (S.at_ h2) m3 m4) pgs_nil rfl) rfl) rfl rfl) sws_tup (swp_of es S.kd hw) rfl).imp fun D σ H q => ?_
    refine (pnw_read q).mono fun xs H1 ⟨hx, _, q1⟩ => ?_
    match xs, hx, q1 with
    | [v, w], _, q1 =>
      exact ⟨by rw [sizeLine_eq]; show 2 ≤ _; decide, fun p hp => ⟨p, [v, w], rfl, .inl (.inl upd_same), rfl, v, [w], rfl, w, [], rfl, rfl, q1 p hp⟩⟩
theorem snd_pnw3 {X : Cx} {sc : Scope} {b i j l : Nat} {ps : List PX} {x y z : Str} {px py pz pt p2 pos : Pos} {kt k2 : Nat} {a c d : Expr} (S : SO ad n X N sc Wi lv) (G : GO X.K ad XR W C X.prog X.w X.mg X.base n lv) (h1 : atB N i x = true) (h2 : atB N j y = true) (h2' : atB N l z = true) (h3 : i ≠ j) (h3' : i ≠ l) (h3'' : j ≠ l) (h4 : matPs n N sc ps [a, c, d] = true)
    (h5 : parB sc [x, y, z] [.Name x px, .Name y py, .Name z pz] [a, c, d] = true) : PS X (.Assign [.Tuple [.Name x px, .Name y py, .Name z pz] kt pt] (.Tuple [a, c, d] k2 p2) pos) (tS X.K ad XR Wi W C b (.pnw [i, j, l] ps)) := by
  have pa := pps_all S.toXO G ps _ h4
  have nd : X.N.Nodup := by rw [S.nm]; exact S.nd
  have es := S.es
  simp only [parB, Bool.or_eq_true, Bool.and_eq_true, decide_eq_true_eq] at h5
  rcases h5 with ⟨hl, hw⟩ | ⟨hl, hw⟩
  · obtain ⟨l1, l2, l3⟩ := all3 hl
    refine (ps_par3 S.calm nd (S.at_ h1) (S.at_ h2) (S.at_ h2') h3 h3' h3'' (by rw [es]; exact isKind_of l1) (by rw [es]; exact isKind_of l2) (by rw [es]; exact isKind_of l3) pa (swp_of es S.kd hw) rfl).imp fun D σ H q => ?_
    refine (pnw_read q).mono fun xs H1 ⟨hx, q1, _⟩ => ?_
    match xs, hx, q1 with
    | [v, w, u], _, q1 => exact ⟨v, w, u, rfl, q1⟩
  · obtain ⟨l1, l2, l3⟩ := all3 hl
    obtain ⟨m1, m2⟩ := S.stb _ l1
    obtain ⟨m3, m4⟩ := S.stb _ l2
    obtain ⟨m5, m6⟩ := S.stb _ l3
    refine (ps_asg (pe_tup pa) (pg_tup S.calm (pgs_cons (pg_name nd (S.at_ h1) m1 m2) (pgs_cons (pg_name nd (S.at_ h2) m3 m4) (pgs_cons (pg_name nd (S.at_ h2') m5 m6) pgs_nil rfl) rfl) rfl) rfl rfl) sws_tup (swp_of es S.kd hw) rfl).imp fun D σ H q => ?_
    refine (pnw_read q).mono fun xs H1 ⟨hx, _, q1⟩ => ?_
    match xs, hx, q1 with
    | [v, w, u], _, q1 =>
      exact ⟨by rw [sizeLine_eq]; show 3 ≤ _; decide, fun p hp => ⟨p, [v, w, u], rfl, .inl (.inl upd_same), rfl, v, [w, u], rfl, w, [u], rfl, u, [], rfl, rfl, q1 p hp⟩⟩
theorem aug_two {op : Operator} (h : augB op = true) : op = .Add ∨ op = .Sub := by
  cases op <;> first | exact .inl rfl | exact .inr rfl | cases h
mutual
theorem snd_S : ∀ (x : EV.St) (X : Cx) (sc : Scope) (b : Nat), SO ad n X N sc Wi lv → GO X.K ad XR W C X.prog X.w X.mg X.base n lv → ∀ x' : Stmt, matS W.xk n N sc x x' = true → PS X x' (tS X.K ad XR Wi W C b x)
  | x, X, sc, b, S, G, x', h => by
    unfold matS at h
    split at h
    · -- set name
      simp only [Bool.and_eq_true, Bool.not_eq_true'] at h
      exact (snd_asgE S G h.1.1.1 h.1.1.2 h.1.2 h.2).imp fun D σ H q => set_read q
    · -- set tuple
      simp only [Bool.and_eq_true] at h
      obtain ⟨⟨h1, h2⟩, h3⟩ := h
      exact (ps_asg (snd_E _ _ X sc Wi S.toXO G _ h2) (pg_d S.toXO S.stb _ _ h1) sws_tup (swpT_of S.es S.kd h3) rfl).imp fun D σ H q => setT_read q
    · -- a, b = x, y
      simp only [Bool.and_eq_true, decide_eq_true_eq] at h
      obtain ⟨⟨⟨⟨⟨⟨h1, h2⟩, h3⟩, h4⟩, h5⟩, h6⟩, h7⟩ := h
      have es := S.es
      exact (ps_par S.calm (by rw [S.nm]; exact S.nd) (S.at_ h1) (S.at_ h2) h3 (by rw [es]; exact isKind_of h5) (by rw [es]; exact isKind_of h6) (snd_Es _ _ X sc Wi S.toXO G _ h4) (swp_of es S.kd h7) rfl).imp fun D σ H q => par2_read q
    · -- a, b, c = x, y, z
      simp only [Bool.and_eq_true, decide_eq_true_eq] at h
      obtain ⟨⟨⟨⟨⟨⟨⟨⟨⟨⟨h1, h2⟩, h3⟩, h4⟩, h5⟩, h6⟩, h7⟩, h8⟩, h9⟩, h10⟩, h11⟩ := h
      have es := S.es
      exact (ps_par3 S.calm (by rw [S.nm]; exact S.nd) (S.at_ h1) (S.at_ h2) (S.at_ h3) h4 h5 h6 (by rw [es]; exact isKind_of h8) (by rw [es]; exact isKind_of h9) (by rw [es]; exact isKind_of h10) (snd_Es _ _ X sc Wi S.toXO G _ h7) (swp_of es S.kd h11) rfl).imp fun D σ H q => par3_read q
    · -- new dict
      simp only [Bool.and_eq_true, Bool.not_eq_true'] at h
      obtain ⟨⟨⟨h1, h2⟩, h3⟩, h4⟩ := h
      obtain ⟨l1, l2⟩ := S.stb _ h2
      exact (ps_set (by rw [S.nm]; exact S.nd) (S.at_ h1) l1 (snd_D S.toXO G h4) (sw_plain h3 _ _ _) l2).imp fun D σ H q => newd_read q
    · simp only [Bool.and_eq_true, decide_eq_true_eq] at h
      obtain ⟨⟨⟨⟨h1, h2⟩, h3⟩, h4⟩, h5⟩ := h
      exact snd_pnw2 S G h1 h2 h3 h4 h5
    · simp only [Bool.and_eq_true, decide_eq_true_eq] at h
      obtain ⟨⟨⟨⟨⟨⟨⟨h1, h2⟩, h3⟩, h4⟩, h5⟩, h6⟩, h7⟩, h8⟩ := h
      exact snd_pnw3 S G h1 h2 h3 h4 h5 h6 h7 h8
    · -- new list
      simp only [Bool.and_eq_true] at h
      exact (snd_asgN S G h.1.1.1 h.1.1.2 h.1.2 h.2).imp fun D σ H q => newl_read q
    · -- x[i] = e
      simp only [Bool.and_eq_true, Bool.not_eq_true'] at h
      obtain ⟨⟨⟨⟨⟨h1, h2⟩, h3⟩, h4⟩, h5⟩, h6⟩ := h
      obtain ⟨o1, o2, _⟩ := okNm_of h3
      exact (ps_asg (snd_E _ _ X sc Wi S.toXO G _ h6) (pg_sub (pe_var (S.at_ h1) (S.vis h2) o1 o2) (snd_E _ _ X sc Wi S.toXO G _ h4) (set_any S.room.u64) (slice_asg h5)) sws_sub swp_sub rfl).imp fun D σ H q => sset_read q
    · -- x.append(e)
      simp only [Bool.and_eq_true, Bool.not_eq_true', decide_eq_true_eq] at h
      obtain ⟨⟨⟨⟨⟨⟨h1, h2⟩, h3⟩, rfl⟩, h5⟩, h6⟩, h7⟩ := h
      obtain ⟨o1, o2, _⟩ := okNm_of h3
      exact sf_app (pe_var (S.at_ h1) (S.vis h2) o1 o2) (snd_E _ _ X sc Wi S.toXO G _ h7) h5 h6
    · -- x += e
      simp only [Bool.and_eq_true, decide_eq_true_eq] at h
      obtain ⟨⟨⟨⟨h1, h2⟩, h3⟩, h4⟩, h5⟩ := h
      subst h3
      obtain ⟨l1, l2⟩ := S.stb _ h2
      have pe := snd_E _ _ X sc Wi S.toXO G _ h5
      have nd : X.N.Nodup := by rw [S.nm]; exact S.nd
      rcases aug_two h4 with rfl | rfl
      · exact (ps_aug nd (S.at_ h1) l1 pe ip_add l2).imp fun D σ H q => aug_read q (.inl ⟨rfl, rfl⟩)
      · exact (ps_aug nd (S.at_ h1) l1 pe ip_sub l2).imp fun D σ H q => aug_read q (.inr ⟨rfl, rfl⟩)
    · -- if
      simp only [Bool.and_eq_true] at h
      exact sf_ife (snd_T _ _ X sc Wi S.toXO G _ h.1.1) (snd_Ss _ X sc b S G _ h.1.2) (snd_Ss _ X sc b S G _ h.2)
    · simp only [Bool.and_eq_true] at h
      exact sf_whl S.own (snd_T _ _ X sc Wi S.toXO G _ h.1) (snd_Ss _ X sc b S G _ h.2)
    · simp only [Bool.and_eq_true, Bool.not_eq_true'] at h
      obtain ⟨⟨⟨⟨h1, h2⟩, h3⟩, h4⟩, h5⟩ := h
      exact sf_for S.own S.calm (pi_all S.toXO G h2 h3 (snd_Es _ _ X sc Wi S.toXO G _ h3) (snd_H _ _ X sc Wi S.toXO G)) (pg_d S.toXO S.stb _ _ h1) (snd_Ss _ X sc b S G _ h5) h4
    · exact sf_ret (snd_E _ _ X sc Wi S.toXO G _ h)
    · exact sf_retn
    · simp only [Bool.and_eq_true] at h
      exact sf_retf (snd_N S.toXO G h.1 h.2)
    · exact sf_brk
    · exact sf_ctn
    · exact sf_pass
    · simp only [Bool.and_eq_true, Bool.not_eq_true'] at h
      exact sf_exp (snd_E _ _ X sc Wi S.toXO G _ h.2) (sw_plain h.1 _ _ _)
    · simp only [Bool.and_eq_true, decide_eq_true_eq] at h
      obtain ⟨⟨⟨⟨⟨h1, h2⟩, h3⟩, rfl⟩, h5⟩, h6⟩ := h
      obtain ⟨o1, o2, _⟩ := okNm_of h3
      obtain ⟨z1, z2, z3, z4, z5, z6, z7⟩ := lit_of S.toXO G h6
      exact sf_upd (pe_var (S.at_ h1) (S.vis h2) o1 o2) z1 z2 z3 z4 z5 z6 z7 h5
    · simp only [Bool.and_eq_true, Bool.not_eq_true'] at h
      exact sf_trx S G h.1.2 h.1.1 h.2
    · exact sf_never
    · simp only [Bool.and_eq_true] at h
      obtain ⟨⟨h1, h2⟩, h3⟩ := h
      split at h1
      case h_2 => cases h1
      case h_1 kx hk =>
      simp only [Bool.and_eq_true, decide_eq_true_eq] at h1
      obtain ⟨rfl, h1⟩ := h1
      exact sf_rse G S.toXO hk h1 (S.gl h2) h3
    · simp only [Bool.and_eq_true, Bool.not_eq_true'] at h
      obtain ⟨⟨⟨⟨h1, h2⟩, h3⟩, h4⟩, h5⟩ := h
      split at h1
      case h_2 => cases h1
      case h_1 kx hk =>
      simp only [Bool.and_eq_true, decide_eq_true_eq] at h1
      obtain ⟨rfl, h1⟩ := h1
      exact sf_rsk G S.toXO hk h1 (S.gl h2) h3 h4 (snd_E _ _ X sc Wi S.toXO G _ h5)
    · cases h
theorem snd_Ss : ∀ (x : List EV.St) (X : Cx) (sc : Scope) (b : Nat), SO ad n X N sc Wi lv → GO X.K ad XR W C X.prog X.w X.mg X.base n lv → ∀ x' : List Stmt, matSs W.xk n N sc x x' = true → PSs X x' (tSs X.K ad XR Wi W C b x)
  | [], X, sc, b, S, G, x', h => by
    cases x' with
    | nil => exact sf_nil
    | cons => simp [matSs] at h
  | x :: r, X, sc, b, S, G, x', h => by
    unfold matSs at h
    split at h
    · rename_i e2; cases e2
    · rename_i e1; cases e1
      exact sf_frz (snd_Ss r X sc b S G _ h)
    · rename_i i gs e1; cases e1
      simp only [Bool.and_eq_true] at h
      obtain ⟨⟨⟨⟨h1, h2⟩, h3⟩, h4⟩, h5⟩ := h
      have z := sf_grp S h1 h2 h3 (snd_Ss r X sc b S G _ h5) h4
      rw [List.take_append_drop] at z
      exact z
    · rename_i e1; cases e1
      simp only [Bool.and_eq_true] at h
      exact sf_cons (snd_S x X sc b S G _ h.1) (snd_Ss r X sc b S G _ h.2)
    · cases h
end
end
end EV

set_option Elab.async false
set_option linter.all false
set_option maxRecDepth 100000
set_option maxHeartbeats 4000000
/-! EV, part 3: [tell(f) for f in fs], fs a list of the def's lambdas. -/
namespace EV
open PySem PySem.Spec PyProof.Rows L2 LamX
section
variable {ad : Adr} {XR : Xc → Value → Option Addr → Hp → Hp → Prop} {W W0 : Wd} {C : Cal} {n : Wn} {N : List Str} {lv : Nat} {Wi : Wz}
variable {X : Cx} {sc : Scope}
theorem inv_tolds {t i : Nat} {e' : Expr} (h : matE n N (.tolds t i) sc e' = true) : ∃ x z y p1 p2 p3 p4 p5 p6 scope, e' = .ListComp (.Call (.Name x p1) [.Name z p2] [] p3) [⟨.Name z p4, .Name y p5, [], 0⟩] scope p6 ∧ n.lm = true ∧ n.tp = true ∧ makerB sc = true ∧ n.tnm[t]? = some x ∧
    glbB (inScope scope sc) x = true ∧ okNm x = true ∧ locB scope z = true ∧ okNm z = true ∧ atB N i y = true ∧ visB sc y = true ∧ okNm y = true ∧ atB N (N.idxOf z) z = true ∧ blkC N sc scope [(z, N.idxOf z)] = true := by
  unfold matE at h
  split at h <;> first | contradiction | skip
  cases ‹Ex.tolds _ _ = Ex.tolds _ _›
  simp only [Bool.and_eq_true, decide_eq_true_eq] at h
  obtain ⟨⟨⟨⟨⟨⟨⟨⟨⟨⟨⟨⟨⟨⟨h1, h2⟩, h3⟩, rfl⟩, h4⟩, h5⟩, h6⟩, rfl⟩, h7⟩, h8⟩, h9⟩, h10⟩, h11⟩, h12⟩, h13⟩ := h
  exact ⟨_, _, _, _, _, _, _, _, _, _, rfl, h1, h2, h3, h4, h5, h6, h7, h8, h9, h10, h11, h12, h13⟩
/-- what one turn wishes -/
def tTurn (K : PySem.W.Frag) (ad : Adr) (XR : Xc → Value → Option Addr → Hp → Hp → Prop) (W0 : Wd) (C : Cal) (n : Wn) (N : List Str) (sc : Scope) (z : Zt) (q : Str) (cells : List (Str × Addr)) (T : Tl) (j : Nat) (σ : L2.St) : TE := fun σ2 H Q =>
  ∃ (s : Slots) (L : List Addr) (m : Sto) (F : Hp) (e : Ex) (f c' : Addr) (params : Arguments) (body : Expr) (lsc : Scope) (pm ctv : Value), SltR K ad z L F s σ ∧ StoR K ad L m F H ∧ σ2[j]? = some (some (.ref f)) ∧ F f = some (LamO f q params body lsc cells pm c' ctv) ∧ F c' = some (CodeO c' q) ∧
    lamSB sc lsc = true ∧ noParB params = true ∧ matE n.in_ N e lsc body = true ∧ Hold K ad XR (fun _ _ _ => False) (fun F' _ d x => Rp K ad F' x d) (tellR T (ev W0 C e s m)) L m F H Q
/-- a turn -/
theorem pf_turn {T : Tl} {t jz : Nat} {x z : Str} {p1 p2 p3 : Pos} {scope : Scope} (S : XO ad n X N sc Wi lv) (G0 : GO X.K ad XR W0 C X.prog X.w X.mg X.base n.in_ lv) (hlm : n.lm = true) (hmk : makerB sc = true) (eT : W0.tl[t]? = some T) (ht : n.tnm[t]? = some x) (hgl : glbB (inScope scope sc) x = true) (hok : okNm x = true)
    (hz : locB scope z = true) (hzo : okNm z = true) (hNz : N[jz]? = some z) {pins : List (Addr × Obj)} {σ : L2.St} {s0 : Shared} {H0 : Hp} {C0 : Addr} {cl0 : List (Str × Addr)} {fp : List Addr}
    (up : ∀ (pl : List (Addr × Obj)) (σ1 : L2.St) (H1 : Hp) (s1 : Shared), Inv (X.blk s0 H0 scope (compEnvC scope cl0 C0 X.env) fp) pl σ1 H1 s1 → Inv X pins σ H1 s1) {pl : List (Addr × Obj)} {s1 : Shared} {σ1 : L2.St} {H1 : Hp} {Q : VK}
    (IY : Inv (X.blk s0 H0 scope (compEnvC scope cl0 C0 X.env) fp) pl σ1 H1 s1) (h : tTurn X.K ad XR W0 C n N sc Wi.z (X.env.qual ++ "<lambda>") X.env.cells T jz σ σ1 H1 Q) :
    wpAny (model X.prog X.w) X.A (eval (.Call (.Name x p1) [.Name z p2] [] p3) (compEnvC scope cl0 C0 X.env)) (fun u s2 => EP (X.blk s0 H0 scope (compEnvC scope cl0 C0 X.env) fp) pl σ1 Q u s2) (fun _ _ => False) s1 := by
  obtain ⟨s, L, m, F, e, f, c', params, body, lsc, pm, ctv, hs, hm, hsz, hfo, hco, hls, hnp, hmat, hh⟩ := h
  obtain ⟨g, a, Ng, pg, bg, sg, dV, kV, doc, pmg, cdv, ct, oc, an, od, osl, t1, t2, t3, t4, t5, t6, t7, t8, t9, t10⟩ := G0.tld t T x eT ht
  unfold matTl at t10
  split at t10
  case h_2 => cases t10
  case h_1 a' q1 q2 q3 h0 hds q4 zf kc q5 q6 =>
  simp only [Bool.and_eq_true, decide_eq_true_eq] at t10
  obtain ⟨⟨rfl, rfl⟩, t10⟩ := t10
  obtain ⟨ls, c1, c2⟩ := clauses_ok (P := X.prog) G0.bs t6.nd G0.exc (fun i j hi hj => by rw [← G0.tlx t T eT i j hi hj]; exact G0.exm i j hi hj) T.cs (h0 :: hds) t10
  obtain ⟨hr, _⟩ := S.lam hlm hmk
  have L0 : LamS X.env.scope lsc := by rw [S.es]; exact lamS_by hls
  have nm : makerB lsc = false := by
    unfold makerB
    rw [List.any_eq_false]
    intro y hy
    obtain ⟨h1, h2⟩ := L0.own y hy
    simp [h1, h2]
  have hp := noPar_of hnp
  have o1 := okNm_of hok
  have o2 := okNm_of t9
  have o3 := okNm_of hzo
  have hu : X.A.units + 3 + 64 < cLine := by
    have := hr.un
    omega
  have Sb := S.blk (fun _ => hmk) s0 H0 scope C0 cl0 fp
  have vz : Vis (compEnvC scope cl0 C0 X.env).scope z := by
    rcases (StB.blk (X := X) s0 H0 scope C0 cl0 fp z hz).1 with w | w
    · exact .inl w
    · exact .inr (.inl w)
  refine told_at (ls := ls) (j := 3 * lv + 1) (params := params) (te := tE X.K ad XR (Wi.to fun cls d H2 => ∃ F2 xc m2, ev W0 C e s m = .exc xc m2 ∧ Ext L m F H1 m2 F2 H2 ∧ StoR X.K ad L m2 F2 H2 ∧ XR xc cls d F2 H2) W0 C e)
    (E := fun cls d H2 => ∃ F2 xc m2, ev W0 C e s m = .exc xc m2 ∧ Ext L m F H1 m2 F2 H2 ∧ StoR X.K ad L m2 F2 H2 ∧ XR xc cls d F2 H2) (pm := pm) (c' := c') (ctv := ctv) (body := body) (lsc := lsc)
    up IY (Sb.gl hgl) t1 t2 t3 t4 t5 t6 t7 t8 (fun s H => c1 X.w X.base x g cdv X.A X.stack s H S.grd hu) hr L0 (by rw [hp]; exact fun _ _ _ _ _ => rfl)
    (fun s1 s2 H2 => snd_E e n.in_ (lamCx X (X.A.deeper (hEnv x sg s1 g cdv)) (hEnv x sg s1 g cdv :: X.stack) s2 H2 _ lsc f c') lsc (Wi.to _) ⟨S.nm, rfl, S.nd, rfl, (hr.deeper (hEnv x sg s1 g cdv)).deeper _, fun _ z => (by rw [nm] at z; cases z), (fun _ z => Bool.noConfusion z), S.grd, takes_of rfl rfl rfl rfl⟩ G0 body hmat)
    (by rw [S.nm]; exact hNz) vz hsz (hm.sub _ _ hfo) (hm.sub _ _ hco) ⟨s, L, m, F, hs, hm, ?_⟩ (fun cls d H2 D hD ⟨F2, xc, m2, q, ex, st, xr⟩ => ?_) o1.1 o2.1 o2.2.1 o3.1 o3.2.1
  · cases q : ev W0 C e s m with
    | ok v m2 =>
      rw [q] at hh
      exact fun F2 H2 y ex st r => hh F2 H2 (.str T.fine) ex st (.str _)
    | exc xc m2 => exact fun F2 H2 cls d ex st xr => ⟨F2, xc, m2, rfl, ex, st, xr⟩
    | bad => rw [q] at hh; exact hh
  · rw [q] at hh
    unfold tellR at hh
    dsimp only at hh
    cases ty : tellC T.cs xc with
    | none => rw [ty] at hh; exact hh.elim
    | some y =>
      rw [ty] at hh
      have xr' : xrE X.K ad W0 xc cls d F2 H2 := by rw [← G0.xre]; exact xr
      have hlen : Ng.length = (L2.start Ng [V.ref f]).length := by
        have : 0 < Ng.length := (List.getElem?_eq_some_iff.mp t7).1
        simp [L2.start]
        omega
      refine c2 xc y cls d F2 H2 _ D ty xr' st.sub (fun F' H' g => ?_) hlen
      rw [hD]
      exact hh F' H' (.str y) (ex.trans g.ext) (g.sto st) (.str y)
/-- the list of ends, told one by one -/
theorem pf_tolds {t i : Nat} {e' : Expr} (S : XO ad n X N sc Wi lv) (G0 : GO X.K ad XR W0 C X.prog X.w X.mg X.base n.in_ lv) (hW : W.tl = W0.tl) (hap : ∀ (k : Nat) (e : Ex) (s : Slots) (m : Sto), n.lms[k]? = some e → W.ap k s m = ev W0 C e s m) (h : matE n N (.tolds t i) sc e' = true) :
    PE X e' (tE X.K ad XR Wi W C (.tolds t i)) := by
  obtain ⟨x, z, y, p1, p2, p3, p4, p5, p6, scope, rfl, h1, h2, h3, h4, h5, h6, h7, h8, h9, h10, h11, h12, h13⟩ := inv_tolds h
  refine ⟨fun pins s0 σ H Q I ⟨s, L, m, F, hs, hm, hh⟩ => ?_⟩
  simp only [ev] at hh
  cases eT : W.tl[t]? with
  | none => rw [eT] at hh; exact hh.elim
  | some T =>
  rw [eT] at hh
  cases eS : s[i]? with
  | none => rw [eS] at hh; exact hh.elim
  | some o =>
  rw [eS] at hh
  cases o with
  | none => exact hh.elim
  | some v =>
  cases v with
  | dat d => exact hh.elim
  | loc k => exact hh.elim
  | fns ks =>
  dsimp only at hh
  obtain ⟨v, e1, zr⟩ := hs.at_ i _ eS
  have zr' : Wi.z.r F v ks := zr
  rw [S.zz h1 h2] at zr'
  obtain ⟨a, rs, rfl, fa, la⟩ := zr'
  have nd : X.N.Nodup := by rw [S.nm]; exact S.nd
  have o3 := okNm_of h11
  have hh1 := frz_hold hm hh
  have lrs := la.len
  refine (pe_lcI (own := [(z, N.idxOf z)]) (g := gName (N.idxOf z)) (te := tTurn X.K ad XR W0 C n N sc Wi.z (X.env.qual ++ "<lambda>") X.env.cells T (N.idxOf z)) S.calm nd (pi_list (pe_var (S.at_ h9) (S.vis h10) o3.1 o3.2.1)) (by rw [S.nm, S.es]; exact blkOk_by h13)
    (fun s H C0 cl fp => pg_name nd (by show X.N[_]? = _; rw [S.nm]; exact of_decide_eq_true h12) (StB.blk s H scope C0 cl fp z h7).1 (StB.blk s H scope C0 cl fp z h7).2)
    (fun pins σ s H C0 cl fp up pl s1 σ1 H1 Q IY q => pf_turn S G0 h1 h3 (by rw [← hW]; exact eT) h4 h5 h6 h7 h8 (of_decide_eq_true h12) up IY q) (fun _ => rfl)).run pins s0 σ H Q I
    ⟨.ref a, e1, a, rfl, ⟨rs, SqL.of (hm.sub _ _ fa)⟩, fun D0 hD0 => ?_⟩
  have hF0 : F D0 = none := by
    cases q : F D0 with
    | none => rfl
    | some u => rw [hm.sub _ _ q] at hD0; cases hD0
  refine ⟨fun j mm H' => mm = rs.length - j ∧ j ≤ rs.length ∧ ∃ m' F' acc vs, Ext L m F H m' F' H' ∧ StoR X.K ad L m' F' H' ∧ F' D0 = none ∧ H' D0 = some (.lst vs) ∧ RpA X.K ad F' vs acc ∧ acc.length = j ∧
    Hold X.K ad XR Wi (relN X.K ad H) ((tellAll T W.ap s (ks.drop j) m').bind fun ys m => .ok (acc ++ ys) m) L m F H Q, ⟨rs.length, rfl, Nat.zero_le _, ?_⟩, ?_⟩
  · have g := Grow.bare (o := .lst []) hm.sub hD0
    refine ⟨m, F, [], [], g.ext, g.sto hm, hF0, upd_same, .nil, rfl, ?_⟩
    have e : (fun (ys : List D) (m : Sto) => (R.ok ([] ++ ys) m : R (List D))) = fun ys m => .ok ys m := by
      funext ys m
      rw [List.nil_append]
    rw [List.drop_zero, e]
    have e2 : ∀ r : R (List D), r.bind (fun ys m => .ok ys m) = r := fun r => by cases r <;> rfl
    rw [e2]
    exact hh1
  · rintro j mm H' ⟨rfl, hj, m', F', acc, vs, ex, st, fD, hD, rep, hl, hold⟩
    have sq : SqL X.K H' a rs := SqL.of (st.sub _ _ (ex.sub _ _ fa))
    by_cases lt : j < rs.length
    · obtain ⟨k, ek⟩ : ∃ k, ks[j]? = some k := ⟨_, List.getElem?_eq_getElem (by omega)⟩
      obtain ⟨r0, er, lr⟩ := la.get ek
      refine .inr ⟨⟨rs, r0, sq, er⟩, fun H2 => ∃ m' F' acc vs, Ext L m F H m' F' H2 ∧ StoR X.K ad L m' F' H2 ∧ F' D0 = none ∧ H2 D0 = some (.lst vs) ∧ RpA X.K ad F' vs acc ∧ acc.length = j + 1 ∧
        Hold X.K ad XR Wi (relN X.K ad H) ((tellAll T W.ap s (ks.drop (j + 1)) m').bind fun ys m => .ok (acc ++ ys) m) L m F H Q, fun H2 w => ⟨rs.length - (j + 1), by omega, rfl, lt, w⟩, fun x0 H2 hy => ?_⟩
      obtain ⟨rfl, hx⟩ := hy
      have ex0 : r0 = x0 := by
        have := hx rs sq
        rw [er] at this
        exact Option.some.inj this
      subst ex0
      obtain ⟨e, f, c', params, body, lsc, pm, ctv, g1, rfl, g3, g4, g5, g6, g7⟩ := lr
      have hjz : N.idxOf z < σ.length := by
        rw [I.len, S.nm]
        exact (List.getElem?_eq_some_iff.mp (of_decide_eq_true h12)).1
      show wipe ((wipe σ [N.idxOf z]).set (N.idxOf z) (some (.ref f))) [N.idxOf z] = wipe σ [N.idxOf z] ∧ _
      refine ⟨by simp [wipe], s, L, m', F', e, f, c', params, body, lsc, pm, ctv, hs.mono ex.sub, st, List.getElem?_set_self (by rw [wipe_length]; exact hjz), ex.sub _ _ g3, ex.sub _ _ g4, g5, g6, g7, ?_⟩
      have hdrop : ks.drop j = k :: ks.drop (j + 1) := by
        obtain ⟨w1, w2⟩ := List.getElem?_eq_some_iff.mp ek
        rw [List.drop_eq_getElem_cons w1, w2]
      rw [hdrop] at hold
      simp only [tellAll, hap k e s _ g1] at hold
      cases q : tellR T (ev W0 C e s m') with
      | bad => rw [q] at hold; exact hold
      | exc xc m2 =>
        exfalso
        unfold tellR at q
        split at q
        · cases q
        · split at q <;> cases q
        · cases q
      | ok d m4 =>
        rw [q] at hold
        simp only [R.bind_ok] at hold
        intro F4 H4 v4 ex4 st4 r4
        have nD : ¬ Own L m' D0 := fun w => by
          obtain ⟨us, w1, _⟩ := hm.owned ((ex.ownA D0).mp w)
          rw [hD0] at w1; cases w1
        have hD4 : H4 D0 = some (.lst vs) := ex4.keep _ _ hD nD fun ps w => by cases w
        have fD4 : F4 D0 = none := by
          rcases ex4.fresh D0 with w | w | w
          · rw [w]; exact fD
          · exact (w.lst hD).elim
          · exact (w.lst st4.sub hD4).elim
        have nD4 : ¬ Own L m4 D0 := fun w => nD ((ex4.ownA D0).mp w)
        have hz : ks.length ≤ rs.length := by omega
        have small : rs.length ≤ sizeLine := by
          have := I.hok a _ (hm.sub _ _ fa)
          exact this.1
        refine ⟨vs, hD4, by rw [rep.len, hl]; omega, m4, F4, acc ++ [d], vs ++ [v4], (ex.trans ex4).wr hD0, st4.wr nD4 fD4 hD4, fD4, upd_same, (rep.mono ex4.sub).app (.cons r4 .nil), by rw [List.length_append, hl]; rfl, ?_⟩
        have e3 : ∀ r : R (List D), ((r.bind fun ys m => .ok (d :: ys) m).bind fun ys m => .ok (acc ++ ys) m) = (r.bind fun ys m => (.ok ((acc ++ [d]) ++ ys) m : R (List D))) := fun r => by
          cases r with
          | ok ys m => simp [R.bind]
          | exc => rfl
          | bad => rfl
        rw [e3] at hold
        exact hold
    · have ej : j = rs.length := by omega
      refine .inl ⟨⟨rs, sq, by omega⟩, ?_⟩
      rw [List.drop_eq_nil_of_le (by omega)] at hold
      simp only [tellAll, R.bind_ok, List.append_nil] at hold
      exact hold F' H' _ ex st ⟨D0, vs, rfl, fD, nt_of hD0, hD, rep⟩
end
end EV

set_option Elab.async false
set_option linter.all false
set_option maxRecDepth 100000
set_option maxHeartbeats 4000000
/-! EV, part P: defs. -/
namespace EV
open PySem PySem.Spec PyProof.Rows L2
section
variable {K : PySem.W.Frag} {ad : Adr} {XR : Xc → Value → Option Addr → Hp → Hp → Prop} {L L' Lc : List Addr} {m m' : Sto} {F H F' H' : Hp} {c : Nat}
/-! ### the store at a def's entry and end -/
theorem pad_live {i : Nat} : live (m ++ List.replicate c MO.nil) i ↔ live m i := by
  unfold live
  by_cases h : i < m.length
  · rw [List.getElem?_append_left h]
  · rw [List.getElem?_append_right (by omega), List.getElem?_eq_none (show m.length ≤ i by omega)]
    constructor
    · rintro ⟨xs, e, n⟩
      rw [List.getElem?_replicate] at e
      split at e
      · cases e; exact absurd rfl n
      · cases e
    · rintro ⟨xs, e, _⟩; cases e
theorem pad_sto (st : StoR K ad L m F H) : StoR K ad (L ++ List.replicate c 0) (m ++ List.replicate c MO.nil) F H where
  sub := st.sub
  obj := fun i xs e nn => by
    have l := pad_live.mp (⟨xs, e, nn⟩ : live (m ++ List.replicate c MO.nil) i)
    have hi := live_lt l
    rw [List.getElem?_append_left hi] at e
    obtain ⟨a, vs, e1, e2⟩ := st.obj i xs e nn
    exact ⟨a, vs, by rw [List.getElem?_append_left (by rw [st.len]; exact hi)]; exact e1, e2⟩
  inj := fun i j a li lj ei ej => by
    have hi := live_lt (pad_live.mp li)
    have hj := live_lt (pad_live.mp lj)
    rw [← st.len] at hi hj
    rw [List.getElem?_append_left hi] at ei
    rw [List.getElem?_append_left hj] at ej
    exact st.inj i j a (pad_live.mp li) (pad_live.mp lj) ei ej
  len := by rw [List.length_append, List.length_append, List.length_replicate, List.length_replicate, st.len]
  tabs := st.tabs
  nt := st.nt
theorem cut_live {b i : Nat} : live (m.take b) i ↔ i < b ∧ live m i := by
  unfold live
  rw [List.getElem?_take]
  by_cases h : i < b
  · simp [h]
  · simp [h]
theorem cut_ext (st : StoR K ad L m F H) (e : ExtS m.length (L ++ List.replicate c 0) (m ++ List.replicate c MO.nil) F H L' m' F' H') : Ext L m F H (m'.take m.length) F' H' where
  sub := e.sub
  keep := fun a o h n => e.keep a o h fun ⟨i, l, q⟩ => n ⟨i, pad_live.mp l, by
    rw [List.getElem?_append_left (by rw [st.len]; exact live_lt (pad_live.mp l))] at q
    exact q⟩
  own := fun i => by
    rw [cut_live]
    constructor
    · rintro ⟨h, l⟩
      exact pad_live.mp ((e.base i h).2.mp l)
    · intro l
      have h := live_lt l
      exact ⟨h, (e.base i h).2.mpr (pad_live.mpr l)⟩
  len := by
    rw [List.length_take, e.len, List.length_append]
    omega
  fresh := fun a => by
    rcases e.fresh a with q | q | ⟨i, hi, l, _⟩ | q
    · exact .inl q
    · exact .inr (.inl q)
    · have := live_lt (pad_live.mp l)
      omega
    · exact .inr (.inr q)
  there := e.there
theorem cut_sto (st : StoR K ad L m F H) (e : ExtS m.length (L ++ List.replicate c 0) (m ++ List.replicate c MO.nil) F H L' m' F' H') (st' : StoR K ad L' m' F' H') : StoR K ad L (m'.take m.length) F' H' := by
  have same : ∀ i, i < m.length → L'[i]? = L[i]? := fun i h => by
    rw [(e.base i h).1, List.getElem?_append_left (by rw [st.len]; exact h)]
  refine ⟨st'.sub, fun i xs q nn => ?_, fun i j a li lj ei ej => ?_, ?_, st'.tabs, st'.nt⟩
  · have h := (cut_live.mp (⟨xs, q, nn⟩ : live (m'.take m.length) i)).1
    rw [List.getElem?_take, if_pos h] at q
    obtain ⟨a, vs, e1, e2⟩ := st'.obj i xs q nn
    exact ⟨a, vs, by rw [← same i h]; exact e1, e2⟩
  · obtain ⟨hi, li⟩ := cut_live.mp li
    obtain ⟨hj, lj⟩ := cut_live.mp lj
    rw [← same i hi] at ei
    rw [← same j hj] at ej
    exact st'.inj i j a li lj ei ej
  · rw [List.length_take, e.len, List.length_append, st.len]
    omega
theorem cut_rel {H0 : Hp} {v : RV} {x : V} (st : StoR K ad L m F H) (e : ExtS m.length (L ++ List.replicate c 0) (m ++ List.replicate c MO.nil) F H L' m' F' H') (ho : outOk m.length v = true) (r : relR K ad L' H0 F' H' v x) : relR K ad L H0 F' H' v x := by
  cases v with
  | new xs => exact r
  | vl v =>
    cases v with
    | dat d => exact r
    | fns k => exact r
    | loc k =>
      have hk : k < m.length := of_decide_eq_true ho
      obtain ⟨a, e1, e2⟩ := r
      refine ⟨a, ?_, e2⟩
      rw [(e.base k hk).1, List.getElem?_append_left (by rw [st.len]; exact hk)] at e1
      exact e1
theorem VlRs.app : ∀ {vs ws : List Vl} {xs ys : List V}, VlRs K ad L F vs xs → VlRs K ad L F ws ys → VlRs K ad L F (vs ++ ws) (xs ++ ys)
  | _, _, _, _, .nil, h => h
  | _, _, _, _, .cons a b, h => .cons a (VlRs.app b h)
theorem VlRs.of_dat : ∀ {xs : List V} {ds : List D}, RpA K ad F xs ds → VlRs K ad L F (ds.map Vl.dat) xs
  | _, _, .nil => .nil
  | _, _, .cons a b => .cons a (VlRs.of_dat b)
theorem VlRs.get : ∀ {vs : List Vl} {xs : List V} {i : Nat} {v : Vl}, VlRs K ad L F vs xs → vs[i]? = some v → ∃ x, xs[i]? = some x ∧ VlR K ad L F v x
  | _, _, _, _, .nil, e => by simp at e
  | _, _, 0, _, .cons a _, e => by simp at e; subst e; exact ⟨_, rfl, a⟩
  | _, _, i + 1, _, .cons _ b, e => by
    obtain ⟨x, h1, h2⟩ := VlRs.get (i := i) b (by simpa using e)
    exact ⟨x, by simpa using h1, h2⟩
theorem VlRs.pad (e : VlR K ad L F = VlR K ad L F) : ∀ {vs : List Vl} {xs : List V}, VlRs K ad L F vs xs → VlRs K ad (L ++ Lc) F vs xs
  | _, _, .nil => .nil
  | _, _, .cons (v := v) a b => .cons (by
    cases v with
    | dat d => exact a
    | fns k => exact a
    | loc k =>
      obtain ⟨p, e1, e2⟩ := a
      exact ⟨p, by rw [List.getElem?_append_left (List.getElem?_eq_some_iff.mp e1).1]; exact e1, e2⟩) (VlRs.pad e b)
theorem slt_start {vs : List Vl} {xs : List V} {N : List Str} {ns np : Nat} (r : VlRs K ad L F vs xs) (hn : N.length = ns) (hp : vs.length = np) {zz : Zt} : SltR K ad zz L F (vs.map some ++ List.replicate (ns - np) none) (L2.start N xs) where
  len := by
    unfold L2.start
    rw [List.length_append, List.length_append, List.length_map, List.length_map, List.length_replicate, List.length_replicate, ← r.len, hn, hp]
  at_ := fun i v e => by
    by_cases h : i < vs.length
    · rw [List.getElem?_append_left (by rw [List.length_map]; exact h), List.getElem?_map] at e
      cases q : vs[i]? with
      | none => rw [q] at e; cases e
      | some u =>
        rw [q] at e
        cases e
        obtain ⟨x, e1, r1⟩ := r.get q
        refine ⟨x, ?_, r1.vz⟩
        unfold L2.start
        rw [List.getElem?_append_left (by rw [List.length_map, ← r.len]; exact h), List.getElem?_map, e1]
        rfl
    · rw [List.getElem?_append_right (by rw [List.length_map]; omega), List.getElem?_replicate] at e
      split at e <;> cases e
end
/-! ### what must be known of a def -/
def fnScB (N ps : List Str) (sc : Scope) : Bool :=
  (match sc.kind with | .function => true | _ => false) && !sc.isCoroutine && !sc.isGenerator && decide N.Nodup && decide (N.take ps.length = ps) && ps.all (locB sc) && sc.names.all (fun y => match y.2 with | .free => false | _ => true)
theorem fnSc_of {N ps : List Str} {sc : Scope} (h : fnScB N ps sc = true) : FnScope N ps sc := by
  simp only [fnScB, Bool.and_eq_true, Bool.not_eq_true', decide_eq_true_eq, List.all_eq_true] at h
  obtain ⟨⟨⟨⟨⟨⟨h1, h2⟩, h3⟩, h4⟩, h5⟩, h6⟩, h7⟩ := h
  refine ⟨?_, h2, h3, h4, h5, fun x hx => ?_, fun y hy e => ?_⟩
  · split at h1
    · assumption
    · cases h1
  · have := locB_of (h6 x hx)
    exact this
  · have := h7 y hy
    rw [e] at this
    cases this
/-- how n written arguments are bound -/
def BindN (K : PySem.W.Frag) (fd : FuncData) (ps : List Str) (dvs : List V) : Prop :=
  ∀ n, n ≤ ps.length → ps.length ≤ n + dvs.length → ∃ ds, Vals (dvs.drop (n + dvs.length - ps.length)) ds ∧ Binds K fd ps ds
structure FnA (K : PySem.W.Frag) (ad : Adr) (W : Wd) (n : Wn) (N ps : List Str) (qual : Str) (body : List Stmt) (scope : Scope) (f : Fn) (a : Addr) : Prop where
  sc : fnScB N ps scope = true
  mat : matSs W.xk (n.at_ f.lm f.lms) N scope f.body body = true
  np : ps.length = f.np
  ns : N.length = f.ns
  fun_ : ∃ (name : Str) (params : Arguments) (dV kV doc pm cdv ct oc : Value) (an od : Option Addr) (osl : Array (Option Value)) (dvs : List V),
    K.lookup a = some ⟨oc, od, .func (PySem.W.fnOf name qual params body scope dV kV doc pm an cdv ct), osl⟩ ∧ PySem.W.codeIn K cdv qual = true ∧
    dvs.length = f.dfl.length ∧ (∀ F, RpA K ad F dvs f.dfl) ∧ BindN K (PySem.W.fnOf name qual params body scope dV kV doc pm an cdv ct) ps dvs ∧
    (f.lm = true → ∃ c P, cdv = .ref c ∧ PySem.W.codeHdIn K c P = true ∧ (P, (qual ++ ".<locals>.") ++ "<lambda>") ∈ ad.tb ∧ ∀ p ∈ ad.tb, p.1 = P → p.2 = (qual ++ ".<locals>.") ++ "<lambda>")
theorem wd_con {W : Wd} {C : Cal} {f : Fn} : (wdOf W C f).con = W.con := by unfold wdOf; split <;> rfl
theorem wd_xk {W : Wd} {C : Cal} {f : Fn} : (wdOf W C f).xk = W.xk := by unfold wdOf; split <;> rfl
theorem wd_tl {W : Wd} {C : Cal} {f : Fn} : (wdOf W C f).tl = W.tl := by unfold wdOf; split <;> rfl
theorem wd_ap0 {W : Wd} {C : Cal} {f : Fn} (h : W.ap = apBad) : { wdOf W C f with ap := apBad } = W := by
  obtain ⟨w1, w2, w3, w4, w5⟩ := W
  dsimp only at h
  subst h
  unfold wdOf
  split <;> rfl
theorem wd_ap {W : Wd} {C : Cal} {f : Fn} {k : Nat} {e : Ex} {s : Slots} {m : Sto} (h : f.lms[k]? = some e) : (wdOf W C f).ap k s m = ev W C e s m := by
  unfold wdOf
  split
  · rename_i q
    rw [q] at h
    simp at h
  · show apOf W C f.lms k s m = _
    unfold apOf
    rw [h]
theorem matCs_xk {W W' : Wd} (h : W.xk = W'.xk) {bs : List Str} {N : List Str} {sg : Scope} : ∀ (cs : List Tc) (hs : List ExceptHandler), matCs W bs N sg cs hs = matCs W' bs N sg cs hs
  | [], [] => rfl
  | [], _ :: _ => rfl
  | _ :: _, [] => rfl
  | c :: cs, x :: hs => by
    simp only [matCs, matC, h, matCs_xk h cs hs]
theorem TldF.to {K : PySem.W.Frag} {W W' : Wd} {mg : Str → Option Value} {bs : List Str} {T : Tl} {x : Str} (h : W.xk = W'.xk) (z : TldF K W mg bs T x) : TldF K W' mg bs T x := by
  obtain ⟨g, a, N, pg, bg, sg, dV, kV, doc, pm, cdv, ct, oc, an, od, osl, z1, z2, z3, z4, z5, z6, z7, z8, z9, z10⟩ := z
  refine ⟨g, a, N, pg, bg, sg, dV, kV, doc, pm, cdv, ct, oc, an, od, osl, z1, z2, z3, z4, z5, z6, z7, z8, z9, ?_⟩
  unfold matTl at z10 ⊢
  split at z10
  · simp only [matCs_xk h] at z10
    exact z10
  · cases z10
theorem GO.off {K : PySem.W.Frag} {ad : Adr} {XR : Xc → Value → Option Addr → Hp → Hp → Prop} {W : Wd} {C : Cal} {n : Wn} {lv : Nat} {P : Program} {w : World} {mg : Str → Option Value} {base : Heap} (G : GO K ad XR W C P w mg base n lv) (hW : W.ap = apBad) (f : Fn) :
    GO K ad XR (wdOf W C f) C P w mg base (n.at_ f.lm f.lms) lv := by
  have e0 : ∀ cls x F H d, xrE K ad (wdOf W C f) x cls d F H = xrE K ad W x cls d F H := fun cls x F H d => by
    unfold xrE
    rw [wd_xk]
  refine ⟨by rw [wd_con]; exact G.con, G.bs, G.fn, ?_, by rw [wd_con]; exact G.cnn, fun k e s m h => ?_, by rw [wd_xk]; exact G.exc, by rw [wd_xk]; exact G.exm, by rw [wd_tl, wd_xk]; exact G.tlx, by rw [wd_xk]; exact G.xgn, fun t T x h1 h2 => ?_, G.run, ?_⟩
  · rw [G.xre]
    funext x cls d F H
    exact (e0 cls x F H d).symm
  · rw [wd_ap0 hW]
    exact wd_ap h
  · rw [wd_tl] at h1
    exact (G.tld t T x h1 h2).to wd_xk.symm
  · intro _ X N sc Wi t i e' h1 h2 h3 h4 h5 S hm
    subst h1 h2 h3 h4 h5
    exact pf_tolds (W := wdOf W C f) (W0 := W) S ⟨G.con, G.bs, G.fn, G.xre, G.cnn, (fun _ _ _ _ h => by cases h), G.exc, G.exm, G.tlx, G.xgn, G.tld, G.run, fun z => Bool.noConfusion z⟩ wd_tl (fun k e s m h => wd_ap h) hm
section
variable {K : PySem.W.Frag} {ad : Adr} {XR : Xc → Value → Option Addr → Hp → Hp → Prop} {W : Wd} {C : Cal} {n : Wn} {N ps : List Str} {lv : Nat} {P : Program} {w : World} {mg : Str → Option Value} {base : Heap}
theorem fn_run {qual : Str} {body : List Stmt} {scope : Scope} {f : Fn} {a : Addr} (T : FnA K ad W n N ps qual body scope f a) (G : GO K ad XR W C P w mg base n lv) (hW : W.ap = apBad) (hbt : ∀ p ∈ ad.tb, base.BuiltinsAt mg p.1 ∧ mainGlobals ≠ p.1) : FnG K ad XR P w mg base (lv + 1) a (runF W C f) := by
  intro A outer s H us vs Q E L m F as room grd e0 rv st ra hold
  obtain ⟨name, params, dV, kV, doc, pm, cdv, ct, oc, an, od, osl, dvs, lk, hcd, dl, dr, bind, lam⟩ := T.fun_
  have S := fnSc_of T.sc
  have kin0 : K.In s.heap := (e0.mod.kin).keeps fun p o q => (e0.bs p o q).1
  have lim0 : s.heap.NoLimit := (e0.mod.nolimit).keeps fun p o q => (e0.bs p o q).1
  unfold runF at hold
  dsimp only at hold
  split at hold
  case isFalse => exact hold.elim
  case isTrue hlen =>
  have la : as.length = us.length := by rw [ra.len, rv.length]
  have lv0 : vs.length = us.length := rv.length
  rw [List.length_append, List.length_map, List.length_drop] at hlen
  obtain ⟨ds, rd, hb⟩ := bind as.length (by rw [T.np]; omega) (by rw [T.np, dl]; omega)
  have ej : as.length + dvs.length - ps.length = as.length + f.dfl.length - f.np := by rw [dl, T.np]
  rw [ej] at rd
  have rall : Vals (vs ++ dvs.drop (as.length + f.dfl.length - f.np)) (us ++ ds) := rv.append rd
  have lall : (us ++ ds).length = ps.length := by
    rw [← rall.length, List.length_append, List.length_drop, T.np, dl]
    omega
  have hkind : ∀ y ∈ ps.zip (us ++ ds), scope.names.lookup y.1 = some .local ∨ (scope.names.lookup y.1 = some .cell ∧ ((cellsFrom (s.heap.objs.size + 1) scope.names []).lookup y.1).isSome = true) := by
    rintro ⟨p, v⟩ hy
    rcases S.par p (List.of_mem_zip hy).1 with q | q
    · left; exact q
    · right; exact ⟨q, PySem.W.cellsFrom_some _ _ _ (.inl q)⟩
  have bnd : BindsTo s (PySem.W.fnOf name qual params body scope dV kV doc pm an cdv ct) ⟨us, []⟩ (ps.zip (us ++ ds)) := hb s us kin0 lall
  refine codeAny_call_function room.depth (kin0 _ _ lk) rfl S.co S.gen rfl (PySem.W.codeRec_of kin0 hcd) (bnd _ _ _ _ ?_)
  refine wpAny_newFunctionEnv_cells S.kind hkind fun env' he s2 ic => ?_
  subst he
  refine ⟨lim0.keeps ic.toInCall.keep, codeAny_func ?_⟩
  have J0 := inv_start (CX := L2.CX P w) (E := E) S room.hd e0 (show (vs ++ dvs.drop (as.length + f.dfl.length - f.np)).length = ps.length by rw [rall.length, lall]) rall ic
  have room' : Room (3 * lv + 2 + 1) A := room
  have roomD := room'.deeper (envOfC qual scope s.heap.objs.size a cdv)
  have X0 : SO ad (n.at_ f.lm f.lms) (cxOf (L2.CX P w) P w K mg base N qual scope a cdv A outer s H E) N scope ⟨E, zOf (n.at_ f.lm f.lms) N scope ((cxOf (L2.CX P w) P w K mg base N qual scope a cdv A outer s H E).env.qual ++ "<lambda>") (cxOf (L2.CX P w) P w K mg base N qual scope a cdv A outer s H E).env.cells⟩ lv := {
    zz := fun _ _ => rfl, nm := rfl, es := rfl, nd := S.nd, calm := rfl, room := roomD.mono (by omega), lam := fun hl _ => ⟨roomD, (let ⟨c, Pt, h1, h2, h3, h4⟩ := lam hl; ⟨c, Pt, h1, ⟨PySem.W.codeHd_of_K e0.mod.kin h2, (hbt _ h3).1, (hbt _ h3).2⟩, h3, h4⟩)⟩, grd := grd, tk := takes_of rfl rfl rfl rfl, kd := S.kind, own := passes_of rfl, sh := rfl, sf := rfl
    stb := fun x hx => ⟨locB_of hx, .inl rfl⟩ }
  have bodyR := snd_Ss (ad := ad) (XR := XR) (C := C) f.body _ scope m.length X0 (G.off hW f) body (by rw [wd_xk]; exact T.mat)
  have slt : ∀ zt : Zt, SltR K ad zt (L ++ List.replicate f.nc 0) F ((as ++ (f.dfl.drop (as.length + f.dfl.length - f.np)).map Vl.dat).map some ++ List.replicate (f.ns - f.np) none) (L2.start N (vs ++ dvs.drop (as.length + f.dfl.length - f.np))) :=
    fun zt => slt_start (VlRs.app (VlRs.pad rfl ra) (VlRs.of_dat ((dr F).drop _))) T.ns (by rw [List.length_append, List.length_map, List.length_drop]; exact hlen)
  have sto := pad_sto (c := f.nc) st
  have go : ∀ zt : Zt, HoldS K ad XR ⟨E, zt⟩ (exs (wdOf W C f) C m.length f.body ((as ++ (f.dfl.drop (as.length + f.dfl.length - f.np)).map Vl.dat).map some ++ List.replicate (f.ns - f.np) none) (m ++ List.replicate f.nc .nil)) m.length (L ++ List.replicate f.nc 0) (m ++ List.replicate f.nc .nil) F H { nx := fun _ H' => Q .non H', rt := Q } := by
    intro zt
    cases q : exs (wdOf W C f) C m.length f.body ((as ++ (f.dfl.drop (as.length + f.dfl.length - f.np)).map Vl.dat).map some ++ List.replicate (f.ns - f.np) none) (m ++ List.replicate f.nc .nil) with
    | ok o m' =>
      rw [q] at hold
      cases o with
      | nx s' => exact fun L' F' H' σ' ex st' _ => hold F' H' .non (cut_ext st ex) (cut_sto st ex st') .non
      | ret v =>
        dsimp only at hold
        split at hold
        case isFalse => exact hold.elim
        case isTrue ho => exact fun L' F' H' x ex st' r => hold F' H' x (cut_ext st ex) (cut_sto st ex st') (cut_rel st ex ho r)
      | brk s' => exact hold.elim
      | ctn s' => exact hold.elim
    | exc x m' =>
      rw [q] at hold
      exact fun L' F' H' cl d ex st' r => hold F' H' cl d (cut_ext st ex) (cut_sto st ex st') r
    | bad => rw [q] at hold; exact hold
  refine wpAny_mono (bodyR.run [] s2 _ H _ J0 ⟨_, _, _, F, slt _, sto, by rw [List.length_append]; omega, go _⟩) (fun fl s3 hs => ?_) fun _ _ z => z
  cases fl with
  | next =>
    obtain ⟨τ, H3, J, q⟩ := hs
    exact ⟨V.non, H3, J.os, J.bare, J.base, J.hok, rfl, q⟩
  | ret u =>
    obtain ⟨v, τ, H3, J, rvu, q⟩ := hs
    exact ⟨v, H3, J.os, J.bare, J.base, J.hok, rvu, q⟩
  | brk => obtain ⟨_, _, _, z⟩ := hs; exact z.elim
  | cont => obtain ⟨_, _, _, z⟩ := hs; exact z.elim
end
end EV

set_option Elab.async false
set_option linter.all false
set_option maxRecDepth 100000
set_option maxHeartbeats 4000000
/-! EV, part Q: all defs of a table; the law. -/
namespace EV
open PySem PySem.Spec PyProof.Rows L2
section
variable {K : PySem.W.Frag} {ad : Adr} {XR : Xc → Value → Option Addr → Hp → Hp → Prop} {W : Wd} {n : Wn} {P : Program} {w : World} {mg : Str → Option Value} {base : Heap}
/-- the module's table, as the top has left it -/
structure Tab (K : PySem.W.Frag) (ad : Adr) (W : Wd) (n : Wn) (mg : Str → Option Value) (P : Program) : Prop where
  con : ∀ (g : Nat) (p : Str × D), W.con[g]? = some p → ∃ v u, mg p.1 = some u ∧ RelV v u ∧ ∀ F, Rp K ad F v p.2
  bs : ∀ x, n.bs.contains x = true → mg x = none
  fn : ∀ (k : Nat) (x : Str), n.fnm[k]? = some x → mg x = some (.ref (ad k)) ∧ PySem.W.keepIn K (.ref (ad k)) = true
  fa : ∀ (k : Nat) (x : Str) (f : Fn), n.fnm[k]? = some x → W.fn[k]? = some f → ∃ N ps qual body scope, FnA K ad W n N ps qual body scope f (ad k)
  exc : ∀ (k : Nat) (x : Xk), W.xk[k]? = some x → ExcF K ad P mg k x
  exm : ∀ i j : Nat, i < W.xk.length → j < W.xk.length → PySem.W.exmOne K (.ref (ad.ex i)) (.ref (ad.ex j)) = some (supX W.xk i j)
  tlx : ∀ (t : Nat) (T : Tl), W.tl[t]? = some T → ∀ i j : Nat, i < W.xk.length → j < W.xk.length → supX W.xk i j = decide (i = j)
  xgn : n.xg = W.xk.map (·.g)
  tld : ∀ (t : Nat) (Tl : Tl) (x : Str), W.tl[t]? = some Tl → n.tnm[t]? = some x → TldF K W mg n.bs Tl x
  cnn : n.cn = W.con
  nlm : n.lms = []
  ntp : n.tp = false
  apb : W.ap = apBad
theorem tab_go (P : Program) (w : World) (base : Heap) (T : Tab K ad W n mg P) (hx : XR = xrE K ad W) (hbt : ∀ p ∈ ad.tb, base.BuiltinsAt mg p.1 ∧ mainGlobals ≠ p.1) : ∀ lv : Nat, GO K ad XR W (callF W lv) P w mg base n lv
  | 0 => ⟨T.con, T.bs, T.fn, hx, T.cnn, (fun _ _ _ _ h => by rw [T.nlm] at h; cases h), T.exc, T.exm, T.tlx, T.xgn, T.tld, fun k x hk A outer s H us vs Q E L m F as _ _ _ _ _ _ h => by
    have h' : Hold K ad XR E (relR K ad L H) .bad L m F H Q := h
    exact h'.elim, fun z => by rw [T.ntp] at z; cases z⟩
  | lv + 1 => ⟨T.con, T.bs, T.fn, hx, T.cnn, (fun _ _ _ _ h => by rw [T.nlm] at h; cases h), T.exc, T.exm, T.tlx, T.xgn, T.tld, fun k x hk => by
    cases e : W.fn[k]? with
    | none =>
      intro A outer s H us vs Q E L m F as _ _ _ _ _ _ h
      simp only [callF, e] at h
      exact h.elim
    | some f =>
      obtain ⟨N, ps, qual, body, scope, fa⟩ := T.fa k x f hk e
      have g := fn_run (XR := XR) fa (tab_go P w base T hx hbt lv) T.apb hbt
      have ec : callF W (lv + 1) k = runF W (callF W lv) f := by
        funext vs m
        simp only [callF, e]
      rw [ec]
      exact g, fun z => by rw [T.ntp] at z; cases z⟩
end
theorem ints_rp {K : PySem.W.Frag} {ad : Adr} {F : Hp} : ∀ ns : List Int, RpA K ad F (ns.map V.int) (ns.map D.int)
  | [] => .nil
  | i :: r => .cons (.int i) (ints_rp r)
/-- the law's call, over the heap that the top has left -/
theorem law_at {P : Program} {w : World} {K : PySem.W.Frag} {ad : Adr} {W : Wd} {n : Wn} {mg mb : Str → Option Value} {lv k : Nat} {a : Addr} {s1 : Shared} {vs : List Value} {ns : List Int} {x : Str}
    (T : Tab K ad W n mg P) (hk : n.fnm[k]? = some x) (kin : K.In s1.heap) (hmg : s1.heap.Ns mainGlobals mg) (hmb : s1.heap.Ns builtinsNs mb) (hbt : ∀ y : Str, y ≠ "__name__" → mb y = bootBuiltins y) (nol : s1.heap.NoLimit) (gens : s1.gens = #[])
    (hT : ∀ p ∈ ad.tb, s1.heap.get? p.1 = some { cls := .none, data := .fields #[] } ∧ K.lookup p.1 = none ∧ ∃ c, PySem.W.CodeHd s1.heap c p.1)
    (hbm : ∃ (bm : Addr) (ob : Obj), mg "__builtins__" = some (.ref bm) ∧ bm ≠ builtinsNs ∧ s1.heap.get? bm = some ob ∧ ob.cls = .type "module" ∧ ob.dict = some builtinsNs ∧ ob.data = .plain)
    (obj : s1.heap.get? a = some { cls := .type "list", data := .seq vs.toArray }) (hi0 : IntsAre vs ns) (short : ns.length ≤ sizeLine) (room : Room (3 * lv) callerA)
    (law : callF W lv k [.dat (.scr (ns.map .int))] [] = .ok (.vl (.dat (.bl true))) []) :
    codeAny (model P w) callerA (.call (.ref (ad k)) ⟨[.ref a], []⟩) (fun r s' => r = .ok (.ret (.bool true)) ∧ OldK s1.heap s'.heap ∧ s'.os = s1.os ∧ AllBare s'.gens) s1 := by
  have rel := vals_ints hi0
  -- H: the script, where it is no object of the module
  obtain ⟨H, sq, ok, only, wh⟩ : ∃ H : Hp, SqL K H a (ns.map V.int) ∧ HOk P w H s1.heap ∧ (∀ p u, H p = some u → p = a ∧ u = .frz { cls := .type "list", data := .seq vs.toArray } (.lst (ns.map V.int))) ∧ (H a ≠ none → K.lookup a = none) := by
    cases look : K.lookup a with
    | some o =>
      have eo := kin a o look
      rw [obj] at eo
      cases eo
      exact ⟨fun _ => none, .inr ⟨_, vs.toArray, _, look, rfl, rfl, rfl, by rw [List.size_toArray, hi0.length]; exact short, by simpa using rel⟩, fun _ _ z => (by cases z), fun _ _ z => (by cases z), fun z => (z rfl).elim⟩
    | none =>
      let H0 : Hp := fun p => if p = a then some (.frz { cls := .type "list", data := .seq vs.toArray } (.lst (ns.map V.int))) else none
      have at0 : H0 a = some (.frz { cls := .type "list", data := .seq vs.toArray } (.lst (ns.map V.int))) := if_pos rfl
      have of0 : ∀ p u, H0 p = some u → p = a ∧ u = .frz { cls := .type "list", data := .seq vs.toArray } (.lst (ns.map V.int)) := fun p u z => by
        by_cases hp : p = a
        · subst hp
          rw [at0] at z
          exact ⟨rfl, (Option.some.inj z).symm⟩
        · have e : H0 p = none := if_neg hp
          rw [e] at z; cases z
      refine ⟨H0, .inl (.inr ⟨_, at0⟩), fun p u z => ?_, of0, fun _ => rfl⟩
      obtain ⟨rfl, rfl⟩ := of0 p u z
      exact ⟨obj, by rw [List.length_map]; exact short, vs, _, rel, obj⟩
  -- the tables beside it
  obtain ⟨ts, hts⟩ : ∃ ts, ts = ad.tb.map (·.1) := ⟨_, rfl⟩
  have tabO : ∀ p, p ∈ ts → s1.heap.get? p = some { cls := .none, data := .fields #[] } ∧ K.lookup p = none ∧ ∃ c, PySem.W.CodeHd s1.heap c p := fun p hp => by
    rw [hts] at hp
    obtain ⟨q, hq, rfl⟩ := List.mem_map.mp hp
    exact hT q hq
  have nota : a ∉ ts := fun z => by
    have e := (tabO a z).1
    rw [obj] at e
    have e' : Data.seq vs.toArray _ = Data.fields #[] := congrArg Obj.data (Option.some.inj e)
    cases e'
  obtain ⟨H1, hH1⟩ : ∃ H1 : Hp, H1 = fun p => if p ∈ ts then some (.tbl #[]) else H p := ⟨_, rfl⟩
  have inT : ∀ p, p ∈ ts → H1 p = some (.tbl #[]) := fun p hp => by rw [hH1]; exact if_pos hp
  have outT : ∀ p, p ∉ ts → H1 p = H p := fun p hp => by rw [hH1]; exact if_neg hp
  have subH : Sub H H1 := fun p u z => by
    obtain ⟨rfl, _⟩ := only p u z
    rw [outT p nota]; exact z
  have ok1 : HOk P w H1 s1.heap := fun p u z => by
    by_cases hp : p ∈ ts
    · rw [inT p hp] at z
      cases z
      exact (tabO p hp).1
    · rw [outT p hp] at z
      have z' := ok p u z
      obtain ⟨rfl, rfl⟩ := only p u z
      exact z'
  have none1 : ∀ p o, s1.heap.get? p = some o → (∀ xs n, o.data ≠ .seq xs n) → o.data ≠ .fields #[] → H1 p = none := fun p o e h1 h2 => by
    by_cases hp : p ∈ ts
    · rw [(tabO p hp).1] at e
      cases e
      exact absurd rfl h2
    · rw [outT p hp]
      cases q : H p with
      | none => rfl
      | some u =>
        obtain ⟨rfl, _⟩ := only p u q
        rw [obj] at e; cases e
        exact absurd rfl (h1 _ _)
  have low : ∀ {p : Addr} {o : Obj}, s1.heap.get? p = some o → H1 p = none → (hidT s1.heap H1).get? p = some o := fun e z => hidT_get e z
  have spaces : ∀ {p : Addr} {f : Str → Option Value}, s1.heap.Ns p f → (hidT s1.heap H1).Ns p f := fun {p f} ⟨o, es, ep, e, d, r⟩ => ⟨o, es, ep, low e (none1 p o e (fun xs n z => by rw [d] at z; cases z) fun z => by rw [d] at z; cases z), d, r⟩
  have kinB : K.In (hidT s1.heap H1) := fun p o e => low (kin p o e) (by
    by_cases hp : p ∈ ts
    · rw [(tabO p hp).2.1] at e; cases e
    · rw [outT p hp]
      cases q : H p with
      | none => rfl
      | some u =>
        obtain ⟨rfl, _⟩ := only p u q
        rw [wh (by rw [q]; simp)] at e; cases e)
  have modB : Mod K mg (hidT s1.heap H1) := ⟨kinB, spaces hmg, ⟨mb, spaces hmb, hbt⟩, let ⟨f, h1, h2⟩ := nol; ⟨f, spaces h1, h2⟩⟩
  have env0 : Env0 P w K mg (hidT s1.heap H1) callerA [] s1 H1 := ⟨rfl, modB, fun p o e => of_hidT e, Nat.le_of_eq (hidT_size _ _), trivial, fun p hp => (by cases hp), ok1, .of_eq gens⟩
  have bat : ∀ p ∈ ad.tb, (hidT s1.heap H1).BuiltinsAt mg p.1 ∧ mainGlobals ≠ p.1 := fun p hp => by
    obtain ⟨bm, ob, b1, b2, b3, b4, b5, b6⟩ := hbm
    have hp' : p.1 ∈ ts := by rw [hts]; exact List.mem_map.mpr ⟨p, hp, rfl⟩
    refine ⟨⟨bm, ob, b1, b2, fun z => ?_, fun z => ?_, low b3 (none1 bm ob b3 (fun xs n z => by rw [b6] at z; cases z) fun z => by rw [b6] at z; cases z), b4, b5, b6⟩, fun z => ?_⟩
    · obtain ⟨o, es, ep, e, d, _⟩ := hmg
      rw [z, e] at b3
      cases b3
      rw [d] at b6; cases b6
    · rw [z, (tabO _ hp').1] at b3
      cases b3
      cases b6
    · obtain ⟨o, es, ep, e, d, _⟩ := hmg
      rw [z, (tabO _ hp').1] at e
      cases e
      cases d
  have G := tab_go (XR := xrE K ad W) P w (hidT s1.heap H1) T rfl bat lv
  have st : StoR K ad [] [] H H1 := ⟨subH, fun i xs e => (by simp at e), fun i j p ⟨_, e⟩ => (by simp at e), rfl, fun p hp => LamX.TabS.nil (inT p.1 (by rw [hts]; exact List.mem_map.mpr ⟨p, hp, rfl⟩)), fun p ps z => by
    obtain ⟨_, e⟩ := only p _ z
    cases e⟩
  have run := G.run k x hk callerA [] s1 H1 [.ref a] [.ref a] (fun v _ => v = .bl true) (fun _ _ _ => False) [] [] H [.dat (.scr (ns.map .int))] room rfl env0 (.cons rfl .nil) st (.cons (.scr sq (ints_rp ns)) .nil) (by
    rw [law]
    intro F' H' y _ _ r
    have r' : Rp K ad F' y (.bl true) := r
    cases r'
    rfl)
  refine codeAny_mono run fun r s' h => ?_
  cases r with
  | error e =>
    obtain ⟨_, _, _, _, _, _, _, _, _, _, _, _, z⟩ := h
    exact z.elim
  | ok fl =>
    cases fl with
    | next => exact False.elim h
    | brk => exact False.elim h
    | cont => exact False.elim h
    | ret u =>
      obtain ⟨v, H', os, bare, un, hok', ru, q⟩ := h
      have q' : v = .bl true := q
      subst q'
      obtain rfl : u = Value.bool true := ru
      have kept : ∀ p o, p ∉ ts → s1.heap.get? p = some o → s'.heap.get? p = some o := fun p o np e => by
        cases q : H p with
        | none => exact un.keep p o e (by rw [outT p np]; exact q) (fun z => by cases z) (by simp)
        | some u =>
          obtain ⟨rfl, rfl⟩ := only p u q
          have z2 := un.frzs _ _ _ (subH _ _ q)
          obtain ⟨e2, _⟩ := hok' _ _ z2
          rw [obj] at e; cases e
          exact e2
      have grown : ∀ p, p ∈ ts → ∃ more : Array Value, s'.heap.get? p = some { cls := .none, data := .fields more } := fun p hp => by
        obtain ⟨more, z⟩ := un.tbls p #[] (inT p hp)
        exact ⟨_, hok' p _ z⟩
      refine ⟨rfl, ⟨fun p o e => ?_, fun p o e => ?_⟩, os, bare⟩
      · by_cases hp : p ∈ ts
        · obtain ⟨more, hm⟩ := grown p hp
          obtain ⟨h1, _, c, hc⟩ := tabO p hp
          rw [h1] at e
          cases e
          exact .inr (.inl ⟨(hc.tab h1).isCodeTable, rfl, #[], more, rfl, by rw [Array.empty_append]; exact hm⟩)
        · exact .inl (kept p o hp e)
      · by_cases hp : p ∈ ts
        · obtain ⟨more, hm⟩ := grown p hp
          exact ⟨_, hm⟩
        · exact ⟨o, kept p o hp e⟩
/-- THE END: the goal behind the head of a law over one script of integers -/
theorem law_end {l : PySem.W.OpenLaw} {most lv k : Nat} {q : Program} {loose : List Str} {XP : (Str → Option Value) → Heap → Prop} {YP : World → Heap → Prop} {d : DefRec} {K : Params → PySem.W.Frag} {W : Wd} {n : Wn}
    (hmost : l.most = some most) (hsz : most ≤ sizeLine) (hdf : d.params.defaults = []) (room : Room (3 * lv) callerA) (hY : ∀ (w : World) (h : Heap), YP w h → (K w.params).In h) (hk : n.fnm[k]? = some d.name)
    (tab : ∀ (w : World) (mg : Str → Option Value) (h : Heap), (K w.params).In h → h.Ns mainGlobals mg → ∃ ad : Adr, Tab (K w.params) ad W n mg l.prog ∧ ∀ p ∈ ad.tb, (K w.params).lookup p.1 = none ∧ ∃ (c : Addr) (x : Str) (dr : DefRec), PySem.W.tabIn (K w.params) x = some (c, p.1) ∧ (recsOf q).find? (fun e => e.name == x) = some dr)
    (law : ∀ ns : List Int, ns.length ≤ most → callF W lv k [.dat (.scr (ns.map .int))] [] = .ok (.vl (.dat (.bl true))) []) :
    PySem.W.WalkO q loose XP YP l.row.toRowW d [] (fun f vs => PySem.call f vs) := by
  refine Att.attach_call hmost hdf fun w s₀ s1 mg mb fa o pm cd doc a vs ns G Y ho hd hcd hmg hobj hints hlen hg => ?_
  obtain ⟨ad, T, tb⟩ := tab w mg _ (hY w _ Y) G.T.g
  have e := hmg.symm.trans (T.fn k _ hk).1
  cases e
  exact law_at T hk (hY w _ Y) G.T.g G.T.b G.T.builtins G.T.nolimit hg (fun p hp => by
    obtain ⟨h1, c, x, dr, h2, h3⟩ := tb p hp
    obtain ⟨h4, h5⟩ := PySem.W.tab_of G.T (hY w _ Y) h3 h2
    exact ⟨h5, h1, c, h4⟩) G.T.bmain hobj hints (Nat.le_trans hlen hsz) room (law ns hlen)
end EV

set_option Elab.async false
set_option linter.all false
set_option maxRecDepth 100000
set_option maxHeartbeats 4000000
/-! EV, part R: the table out of what the top has written. -/
namespace EV
open PySem PySem.Spec PyProof.Rows L2
mutual
/-- a value of the written part, as data -/
inductive RdV (K : PySem.W.Frag) : Value → D → Prop
  | non : RdV K .none .non
  | bl {b : Bool} : RdV K (.bool b) (.bl b)
  | int {i : Int} {t : Tok} : RdV K (.int i t) (.int i)
  | str {x : Str} {t : Tok} : RdV K (.str x t) (.str x)
  | tup {a : Addr} {od : Option Addr} {its : Array Value} {n : Nat} {sl : Array (Option Value)} {ds : List D} : K.lookup a = some ⟨.type "tuple", od, .seq its n, sl⟩ → RdVs K its.toList ds → ds.length ≤ sizeLine → RdV K (.ref a) (.tup ds)
  | lst {a : Addr} {its : Array Value} {n : Nat} {sl : Array (Option Value)} {ds : List D} : K.lookup a = some ⟨.type "list", none, .seq its n, sl⟩ → RdVs K its.toList ds → ds.length ≤ sizeLine → RdV K (.ref a) (.scr ds)
inductive RdVs (K : PySem.W.Frag) : List Value → List D → Prop
  | nil : RdVs K [] []
  | cons {u : Value} {us : List Value} {d : D} {ds : List D} : RdV K u d → RdVs K us ds → RdVs K (u :: us) (d :: ds)
end
theorem RdVs.len {K : PySem.W.Frag} : ∀ {us : List Value} {ds : List D}, RdVs K us ds → us.length = ds.length
  | _, _, .nil => rfl
  | _, _, .cons _ b => congrArg Nat.succ (RdVs.len b)
mutual
theorem RdV.rp {K : PySem.W.Frag} {ad : Adr} : ∀ {d : D} {u : Value}, RdV K u d → ∃ v, RelV v u ∧ ∀ F, Rp K ad F v d
  | .non, _, h => by cases h; exact ⟨.non, rfl, fun _ => .non⟩
  | .bl b, _, h => by cases h; exact ⟨.bl b, rfl, fun _ => .bl b⟩
  | .int i, _, h => by cases h; exact ⟨.int i, ⟨_, rfl⟩, fun _ => .int i⟩
  | .str x, _, h => by cases h; exact ⟨.str x, ⟨_, rfl⟩, fun _ => .str x⟩
  | .obj k, _, h => by cases h
  | .tup ds, _, h => by
    cases h with
    | tup lk r z =>
      obtain ⟨vs, rv, rp⟩ := RdVs.rp (ad := ad) r
      exact ⟨.ref _, rfl, fun F => .tup (.inr ⟨_, _, _, lk, rfl, rfl, by rw [← Array.length_toList, r.len]; exact z, rv⟩) (rp F)⟩
  | .lst ds, _, h => by cases h
  | .scr ds, _, h => by
    cases h with
    | lst lk r z =>
      obtain ⟨vs, rv, rp⟩ := RdVs.rp (ad := ad) r
      exact ⟨.ref _, rfl, fun F => .scr (.inr ⟨_, _, _, lk, rfl, rfl, rfl, by rw [← Array.length_toList, r.len]; exact z, rv⟩) (rp F)⟩
theorem RdVs.rp {K : PySem.W.Frag} {ad : Adr} : ∀ {ds : List D} {us : List Value}, RdVs K us ds → ∃ vs, Vals vs us ∧ ∀ F, RpA K ad F vs ds
  | [], _, h => by cases h; exact ⟨[], .nil, fun _ => .nil⟩
  | d :: ds, _, h => by
    cases h with
    | cons a b =>
      obtain ⟨v, e, q⟩ := RdV.rp (ad := ad) a
      obtain ⟨vs, e2, q2⟩ := RdVs.rp (ad := ad) b
      exact ⟨v :: vs, .cons e e2, fun F => .cons (q F) (q2 F)⟩
end
/-- a constant of the module -/
def ConIn (K : PySem.W.Frag) (p : Str × D) : Prop := ∃ u, PySem.W.nsIn K mainGlobals p.1 = some (some u) ∧ RdV K u p.2
theorem con_mk {K : PySem.W.Frag} {x : Str} {d : D} {u : Value} (h1 : PySem.W.nsIn K mainGlobals x = some (some u)) (h2 : RdV K u d) : ConIn K (x, d) := ⟨u, h1, h2⟩
/-- a built-in name that the module leaves alone -/
def NoIn (K : PySem.W.Frag) (x : Str) : Prop := PySem.W.nsIn K mainGlobals x = some none
theorem no_mk {K : PySem.W.Frag} {x : Str} (h : PySem.W.nsIn K mainGlobals x = some none) : NoIn K x := h
/-- a def of the table: its own name, the global name, its statement in the text, its names, its parameters, its form in the language -/
structure FS where
  x : Str
  g : Str
  st : Stmt
  N : List Str
  ps : List Str
  f : Fn
/-- how it binds, in words of lists alone -/
def BindF (F : FS) : Prop := ∀ (dV kV doc pm : Value) (an : Option Addr) (cdv ct : Value) (K : PySem.W.Frag) (its : List Value), (F.f.dfl = [] → dV = .none) →
  (F.f.dfl ≠ [] → ∃ (T : Addr) (o : Obj) (n : Nat), dV = .ref T ∧ K.lookup T = some o ∧ o.data = .seq its.toArray n) → its.length = F.f.dfl.length →
  ∀ n, n ≤ F.ps.length → F.ps.length ≤ n + F.f.dfl.length → Binds K (PySem.W.fnOf F.x F.x (defArgs F.st) (defBody F.st) (defScope F.st) dV kV doc pm an cdv ct) F.ps (its.drop (n + F.f.dfl.length - F.ps.length))
/-- no default -/
theorem bind0 {F : FS} (hd : F.f.dfl = []) (h : ∀ (kV doc pm : Value) (an : Option Addr) (cdv ct : Value) (us : List Value), us.length = F.ps.length →
    bindArgs (PySem.W.fnOf F.x F.x (defArgs F.st) (defBody F.st) (defScope F.st) .none kV doc pm an cdv ct) ⟨us, []⟩ = pure (F.ps.zip us)) : BindF F := by
  intro dV kV doc pm an cdv ct K its h1 _ hl n _ _
  rw [h1 hd]
  have e : its = [] := List.eq_nil_of_length_eq_zero (by rw [hl, hd]; rfl)
  subst e
  rw [List.drop_nil]
  exact .all (h kV doc pm an cdv ct)
/-- with defaults -/
theorem bindD {F : FS} (hd : F.f.dfl ≠ []) (h : ∀ (T : Addr) (kV doc pm : Value) (an : Option Addr) (cdv ct : Value) (n : Nat), n ≤ F.ps.length → F.ps.length ≤ n + F.f.dfl.length → ∀ us its : List Value, us.length = n → its.length = F.f.dfl.length →
    ∃ k, bindArgs (PySem.W.fnOf F.x F.x (defArgs F.st) (defBody F.st) (defScope F.st) (.ref T) kV doc pm an cdv ct) ⟨us, []⟩ = seqItems? (.ref T) >>= k ∧ k (some its.toArray) = pure (F.ps.zip (us ++ its.drop (n + F.f.dfl.length - F.ps.length)))) : BindF F := by
  intro dV kV doc pm an cdv ct K its _ h2 hl n n1 n2 s us kin len
  obtain ⟨T, o, m, rfl, lk, hs⟩ := h2 hd
  have hu : us.length = n := by
    rw [List.length_append, List.length_drop, hl] at len
    omega
  obtain ⟨k, e1, e2⟩ := h T kV doc pm an cdv ct n n1 n2 us its hu hl
  exact BindsTo.of_defaults rfl (kin T o lk) hs e1 e2
def FnIn (K : PySem.W.Frag) (F : FS) : Prop := ∃ (a : Addr) (oc dV kV doc pm cdv ct : Value) (od an : Option Addr) (osl : Array (Option Value)), PySem.W.nsIn K mainGlobals F.g = some (some (.ref a)) ∧
  K.lookup a = some ⟨oc, od, .func (PySem.W.fnOf F.x F.x (defArgs F.st) (defBody F.st) (defScope F.st) dV kV doc pm an cdv ct), osl⟩ ∧ PySem.W.codeIn K cdv F.x = true ∧ PySem.W.keepIn K (.ref a) = true ∧
  ((F.f.dfl = [] ∧ dV = .none) ∨ (F.f.dfl ≠ [] ∧ ∃ (T : Addr) (o : Obj) (its : Array Value) (n : Nat), dV = .ref T ∧ K.lookup T = some o ∧ o.data = .seq its n ∧ RdVs K its.toList F.f.dfl))
theorem fn0 {K : PySem.W.Frag} {F : FS} {a : Addr} {oc kV doc pm cdv ct : Value} {od an : Option Addr} {osl : Array (Option Value)} (h1 : PySem.W.nsIn K mainGlobals F.g = some (some (.ref a)))
    (h2 : K.lookup a = some ⟨oc, od, .func (PySem.W.fnOf F.x F.x (defArgs F.st) (defBody F.st) (defScope F.st) .none kV doc pm an cdv ct), osl⟩) (h3 : PySem.W.codeIn K cdv F.x = true) (h4 : PySem.W.keepIn K (.ref a) = true) (hd : F.f.dfl = []) : FnIn K F :=
  ⟨a, oc, .none, kV, doc, pm, cdv, ct, od, an, osl, h1, h2, h3, h4, .inl ⟨hd, rfl⟩⟩
theorem fnD {K : PySem.W.Frag} {F : FS} {a T : Addr} {oc kV doc pm cdv ct tc : Value} {od an td : Option Addr} {osl tsl : Array (Option Value)} {its : Array Value} {n : Nat} (h1 : PySem.W.nsIn K mainGlobals F.g = some (some (.ref a)))
    (h2 : K.lookup a = some ⟨oc, od, .func (PySem.W.fnOf F.x F.x (defArgs F.st) (defBody F.st) (defScope F.st) (.ref T) kV doc pm an cdv ct), osl⟩) (h3 : PySem.W.codeIn K cdv F.x = true) (h4 : PySem.W.keepIn K (.ref a) = true)
    (h5 : K.lookup T = some ⟨tc, td, .seq its n, tsl⟩) (h6 : RdVs K its.toList F.f.dfl) (hd : F.f.dfl ≠ []) : FnIn K F :=
  ⟨a, oc, .ref T, kV, doc, pm, cdv, ct, od, an, osl, h1, h2, h3, h4, .inr ⟨hd, T, _, its, n, rfl, h5, rfl, h6⟩⟩
def AllF {α : Type} (p : α → Prop) : List α → Prop
  | [] => True
  | x :: r => p x ∧ AllF p r
theorem AllF.get {α : Type} {p : α → Prop} : ∀ {l : List α} {i : Nat} {x : α}, AllF p l → l[i]? = some x → p x
  | [], _, _, _, e => by simp at e
  | _ :: _, 0, _, h, e => by simp at e; subst e; exact h.1
  | _ :: r, i + 1, _, h, e => AllF.get (l := r) (i := i) h.2 (by simpa using e)
/-- what a computation checks of a def -/
def FS.ok (W : Wd) (n : Wn) (F : FS) : Bool := fnScB F.N F.ps (defScope F.st) && matSs W.xk (n.at_ F.f.lm F.f.lms) F.N (defScope F.st) F.f.body (defBody F.st) && decide (F.ps.length = F.f.np) && decide (F.N.length = F.f.ns)
/-- what a computation checks of a def that tells how a call ends -/
def FS.okT (W : Wd) (n : Wn) (p : Tl × FS) : Bool := match p.2.ps with
  | [a] => fnScB p.2.N p.2.ps (defScope p.2.st) && decide (p.2.g = p.2.x) && p.2.f.dfl.isEmpty && decide (p.2.N[0]? = some a) && visB (defScope p.2.st) a && okNm a && matTl W n.bs p.2.N a (defScope p.2.st) p.1 (defBody p.2.st)
  | _ => false
def FS.wd (cs : List (Str × D)) (fs : List FS) (xs : List Xk) (ts : List (Tl × FS)) : Wd := ⟨cs, fs.map (·.f), xs, ts.map (·.1), apBad⟩
def FS.wn (cs : List (Str × D)) (fs : List FS) (bs : List Str) (xs : List Xk) (ts : List (Tl × FS)) : Wn := ⟨fs.map (·.g), bs, ts.map (·.2.g), false, [], cs, false, xs.map (·.g)⟩
/-! ### tables of code objects -/
def lamQ (F : FS) : Str := (F.x ++ ".<locals>.") ++ "<lambda>"
def LmP (K : PySem.W.Frag) (q : Program) (F : FS) (P : Addr) : Prop := F.g = F.x ∧ ∃ (c : Addr) (dr : DefRec), PySem.W.tabIn K F.x = some (c, P) ∧ PySem.W.codeHdIn K c P = true ∧ K.lookup P = none ∧ (recsOf q).find? (fun e => e.name == F.x) = some dr
inductive LmAll (K : PySem.W.Frag) (q : Program) : List FS → List Addr → Prop
  | nil : LmAll K q [] []
  | cons {F : FS} {P : Addr} {fs : List FS} {ps : List Addr} : LmP K q F P → LmAll K q fs ps → LmAll K q (F :: fs) (P :: ps)
/-- what holds of a code object's fields -/
def codeHdV (vs : Array Value) (c P : Addr) : Bool :=
  (match (vs[11]? : Option Value) with | some (.ref P') => P' == P | _ => false) && (match vs.getD 18 .none with | .str _ _ => true | _ => false) && (match vs.getD 7 .none with | .int _ _ => true | _ => false) &&
      (match vs.getD 9 .none with | .bool _ => true | _ => false) && (match vs.getD 10 .none with | .int _ _ => true | _ => false) && c != P
theorem lm_mk {K : PySem.W.Frag} {q : Program} {F : FS} {f c P : Addr} {oc : Value} {od : Option Addr} {fd : FuncData} {osl : Array (Option Value)} {cd : Option Addr} {vs : Array Value} {csl : Array (Option Value)} (hg : F.g = F.x) (h1 : PySem.W.nsIn K mainGlobals F.x = some (some (.ref f)))
    (h2 : K.lookup f = some ⟨oc, od, .func fd, osl⟩) (h3 : fd.code = .ref c) (h4 : K.lookup c = some ⟨.type "code", cd, .fields vs, csl⟩) (h5 : (vs[11]? : Option Value) = some (.ref P)) (h6 : codeHdV vs c P = true) (h7 : K.lookup P = none) (h8 : ((recsOf q).find? (fun e => e.name == F.x)).isSome = true) : LmP K q F P := by
  obtain ⟨dr, e⟩ := Option.isSome_iff_exists.mp h8
  refine ⟨hg, c, dr, ?_, ?_, h7, e⟩
  · unfold PySem.W.tabIn
    simp only [h1, h2, h3, h4, h5]
  · unfold PySem.W.codeHdIn
    simp only [h4]
    exact h6
theorem LmAll.get {K : PySem.W.Frag} {q : Program} : ∀ {fs : List FS} {ps : List Addr} {F : FS}, LmAll K q fs ps → F ∈ fs → ∃ P, LmP K q F P ∧ (P, lamQ F) ∈ ps.zip (fs.map lamQ)
  | _, _, _, .nil, h => by cases h
  | _, _, F, .cons (F := F') (P := P) a b, h => by
    rcases List.mem_cons.mp h with rfl | h
    · exact ⟨P, a, by simp⟩
    · obtain ⟨P, h1, h2⟩ := LmAll.get b h
      exact ⟨P, h1, by simp [h2]⟩
theorem LmAll.back {K : PySem.W.Frag} {q : Program} : ∀ {fs : List FS} {ps : List Addr} {r : Addr × Str}, LmAll K q fs ps → r ∈ ps.zip (fs.map lamQ) → ∃ F, LmP K q F r.1
  | _, _, _, .nil, h => by cases h
  | _, _, r, .cons (F := F') (P := P) a b, h => by
    simp only [List.map_cons, List.zip_cons_cons, List.mem_cons] at h
    rcases h with rfl | h
    · exact ⟨_, a⟩
    · exact LmAll.back b h
theorem zip_uniq {α β : Type} : ∀ {ps : List α} {qs : List β} {p : α} {x y : β}, ps.Nodup → (p, x) ∈ ps.zip qs → (p, y) ∈ ps.zip qs → x = y
  | [], _, _, _, _, _, h, _ => by simp at h
  | _ :: _, [], _, _, _, _, h, _ => by simp at h
  | a :: ps, b :: qs, p, x, y, nd, h1, h2 => by
    simp only [List.zip_cons_cons, List.mem_cons, Prod.mk.injEq] at h1 h2
    obtain ⟨n1, n2⟩ := List.nodup_cons.mp nd
    rcases h1 with ⟨rfl, rfl⟩ | h1
    · rcases h2 with ⟨_, rfl⟩ | h2
      · rfl
      · exact absurd (List.of_mem_zip h2).1 n1
    · rcases h2 with ⟨rfl, rfl⟩ | h2
      · exact absurd (List.of_mem_zip h1).1 n1
      · exact zip_uniq n2 h1 h2
/-! ### exception classes -/
/-- what is told of the class and built-in ones -/
def AllB (K : PySem.W.Frag) (C : Addr) : List (String × Bool) → Prop
  | [] => True
  | (t, b) :: r => PySem.W.subIn K (.ref C) (.type t) = some b ∧ AllB K C r
theorem AllB.mem {K : PySem.W.Frag} {C : Addr} : ∀ {l : List (String × Bool)} {p : String × Bool}, AllB K C l → p ∈ l → PySem.W.subIn K (.ref C) (.type p.1) = some p.2
  | (t, b) :: r, p, h, m => by
    rcases List.mem_cons.mp m with e | m
    · rw [e]; exact h.1
    · exact AllB.mem h.2 m
structure XkP (K : PySem.W.Frag) (P : Program) (x : Xk) (C : Addr) : Prop where
  g : PySem.W.nsIn K mainGlobals x.g = some (some (.ref C))
  kp : PySem.W.keepIn K (.ref C) = true
  sb : PySem.W.subIn K (.ref C) (.type "BaseException") = some true
  ty : PySem.W.typeIn K (.ref C) = some (.type "type")
  ic : PySem.W.isClsIn K C = true
  pl : x.fp = none → ∃ (B newId initId : String) (bmB : List Value), ExcBaseFacts B newId initId bmB ∧ PySem.W.excIn K C bmB newId = true
  ini : ∀ fp, x.fp = some fp → IniF K P C x.fld fp
  ec : ExcC K C
  self : PySem.W.subIn K (.ref C) (.ref C) = some true
  bt : AllB K C x.bs
theorem xk0 {K : PySem.W.Frag} {P : Program} {x : Xk} {C : Addr} {B newId initId : String} {bmB : List Value} (F : ExcBaseFacts B newId initId bmB) (hp : x.fp = none) (g : PySem.W.nsIn K mainGlobals x.g = some (some (.ref C))) (kp : PySem.W.keepIn K (.ref C) = true) (sb : PySem.W.subIn K (.ref C) (.type "BaseException") = some true)
    (ty : PySem.W.typeIn K (.ref C) = some (.type "type")) (ic : PySem.W.isClsIn K C = true) (ex : PySem.W.excIn K C bmB newId = true) (ec : ExcC K C) (self : PySem.W.subIn K (.ref C) (.ref C) = some true) (bt : AllB K C x.bs) : XkP K P x C :=
  ⟨g, kp, sb, ty, ic, fun _ => ⟨B, newId, initId, bmB, F, ex⟩, (fun fp z => by rw [hp] at z; cases z), ec, self, bt⟩
theorem xkI {K : PySem.W.Frag} {P : Program} {x : Xk} {C fI cc cda : Addr} {O B newId initId : String} {bmB : List Value} {fp : List FP} {x0 x1 name qual : Str} {params : Arguments} {body : List Stmt} {scope : Scope} {dV kV doc pm ct oc ccl cl : Value} {an od cdd cld : Option Addr} {osl ccs csl : Array (Option Value)} {vs : Array Value}
    {file : Str} {tf : Tok} {cdD : ClassData} {ar : Arg} (F : OwnF O B newId initId bmB) (SF : StoreFacts B bmB "object.__setattr__" "object") (KF : PySem.W.KxsFacts B initId) (hp : x.fp = some fp)
    (g : PySem.W.nsIn K mainGlobals x.g = some (some (.ref C))) (kp : PySem.W.keepIn K (.ref C) = true) (sb : PySem.W.subIn K (.ref C) (.type "BaseException") = some true) (ty : PySem.W.typeIn K (.ref C) = some (.type "type")) (ic : PySem.W.isClsIn K C = true)
    (hi : PySem.W.findIn K (.ref C) "__init__" = some (some (.ref fI))) (q : PySem.W.excInitIn K C bmB newId = true) (hf : PySem.W.isFn K (.ref fI) = true) (sub : PySem.W.mroIn K C (.ref C) = some true) (sup : PySem.W.nsIn K mainGlobals "super" = some none) (opq : PySem.W.nsIn K cStatics "thirdparty.any" = some none)
    (hm : PySem.W.ks_superIn K C C "__init__" = some (some (.builtin initId))) (hB : PySem.W.subIn K (.ref C) (.type B) = some true) (sa : PySem.W.findIn K (.ref C) "__setattr__" = some (some (.builtin "object.__setattr__"))) (ov : PySem.W.excOver K C bmB = true) (tk : PySem.W.takerIn K C x.fld = some none) (hh : PySem.W.hasDictIn K C = true)
    (l1 : K.lookup fI = some ⟨oc, od, .func (PySem.W.ksFn name qual params body scope dV kV doc pm an (.ref cda) ct cc), osl⟩) (l2 : PySem.W.codeIn K (.ref cda) qual = true) (l3 : K.lookup cda = some ⟨ccl, cdd, .fields vs, ccs⟩) (l4 : vs[2]? = some (.str file tf)) (l5 : ((P.main.file : Str) == file) = true)
    (l6 : K.lookup cc = some ⟨cl, cld, .cell (some (.ref C)), csl⟩) (l7 : PySem.W.clsIn K C = some cdD) (l8 : iniB x0 x1 x.fld fp body = true) (l9 : iniSc x0 x1 scope = true) (m1 : (params.posonlyargs ++ params.args).head? = some ar) (m2 : ar.arg = x0)
    (m3 : ∀ a b : Value, bindArgs (PySem.W.ksFn name qual params body scope dV kV doc pm an (.ref cda) ct cc) ⟨[a, b], []⟩ = pure [(x0, a), (x1, b)]) (m4 : (P.main.scope.names.lookup ("super" : Str)).isSome = false)
    (ga : PySem.W.findIn K (.ref C) "__getattribute__" = some (some (.builtin "BaseException.__getattribute__"))) (gg : PySem.W.findIn K (.ref C) "__getattr__" = some none) (fl : PySem.W.findIn K (.ref C) x.fld = some none) (ec : ExcC K C) (self : PySem.W.subIn K (.ref C) (.ref C) = some true) (bt : AllB K C x.bs) : XkP K P x C :=
  { g := g, kp := kp, sb := sb, ty := ty, ic := ic
    pl := fun z => absurd (hp.symm.trans z) (by simp)
    ec := ec, self := self, bt := bt
    ini := fun fp' z => by
      have e : fp' = fp := by
        have q := z.symm.trans hp
        exact Option.some.inj q
      rw [e]
      exact ⟨O, B, newId, initId, bmB, fI, cc, cda, x0, x1, name, qual, params, body, scope, dV, kV, doc, pm, ct, oc, ccl, cl, an, od, cdd, cld, osl, ccs, csl, vs, file, tf, cdD, ar, F, SF, KF, ⟨hi, q, hf, sub, sup, opq, hm, hB, sa, ov, tk, hh⟩, l1, l2, l3, l4, l5, l6, l7, l8, l9, m1, m2, m3, m4, ⟨ga, gg, sb, hh⟩, fl⟩ }
inductive XkAll (K : PySem.W.Frag) (P : Program) : List Xk → List Addr → Prop
  | nil : XkAll K P [] []
  | cons {x : Xk} {C : Addr} {xs : List Xk} {as : List Addr} : XkP K P x C → XkAll K P xs as → XkAll K P (x :: xs) (C :: as)
theorem XkAll.get {K : PySem.W.Frag} {P : Program} : ∀ {xs : List Xk} {as : List Addr} {k : Nat} {x : Xk}, XkAll K P xs as → xs[k]? = some x → XkP K P x (as.getD k 0)
  | _, _, _, _, .nil, e => by simp at e
  | _, _, 0, _, .cons a _, e => by simp at e; subst e; exact a
  | _, _, k + 1, _, .cons _ b, e => by simpa using XkAll.get (k := k) b (by simpa using e)
theorem XkAll.len {K : PySem.W.Frag} {P : Program} : ∀ {xs : List Xk} {as : List Addr}, XkAll K P xs as → xs.length = as.length
  | _, _, .nil => rfl
  | _, _, .cons _ b => congrArg Nat.succ (XkAll.len b)
/-- which class lies under which -/
inductive SbRow (K : PySem.W.Frag) (up : List Nat) (C : Addr) : Nat → List Addr → Prop
  | nil {j : Nat} : SbRow K up C j []
  | cons {j : Nat} {c : Addr} {r : List Addr} : PySem.W.subIn K (.ref C) (.ref c) = some (up.contains j) → SbRow K up C (j + 1) r → SbRow K up C j (c :: r)
inductive SbAll (K : PySem.W.Frag) (as : List Addr) : List Xk → List Addr → Prop
  | nil : SbAll K as [] []
  | cons {x : Xk} {xs : List Xk} {C : Addr} {r : List Addr} : SbRow K x.up C 0 as → SbAll K as xs r → SbAll K as (x :: xs) (C :: r)
theorem SbRow.get {K : PySem.W.Frag} {up : List Nat} {C : Addr} : ∀ {j : Nat} {l : List Addr} {k : Nat}, SbRow K up C j l → k < l.length → PySem.W.subIn K (.ref C) (.ref (l.getD k 0)) = some (up.contains (j + k))
  | _, _, _, .nil, h => by simp at h
  | _, _, 0, .cons a _, _ => by simpa using a
  | j, _, k + 1, .cons _ b, h => by
    have z := SbRow.get (k := k) b (by simpa using h)
    rw [show j + 1 + k = j + (k + 1) by omega] at z
    simpa using z
theorem SbAll.get {K : PySem.W.Frag} {as : List Addr} : ∀ {xs : List Xk} {l : List Addr} {k : Nat} {x : Xk}, SbAll K as xs l → xs[k]? = some x → SbRow K x.up (l.getD k 0) 0 as
  | _, _, _, _, .nil, h => by simp at h
  | _, _, 0, _, .cons a _, h => by simp at h; subst h; simpa using a
  | _, _, k + 1, _, .cons _ b, h => by
    have z := SbAll.get (k := k) b (by simpa using h)
    simpa using z
/-- classes apart -/
def disB (xs : List Xk) : Bool := (List.range xs.length).all fun i => (List.range xs.length).all fun j => supX xs i j == decide (i = j)
theorem dis_of {xs : List Xk} (h : disB xs = true) {i j : Nat} (hi : i < xs.length) (hj : j < xs.length) : supX xs i j = decide (i = j) := by
  have h1 := List.all_eq_true.mp h i (List.mem_range.mpr hi)
  exact eq_of_beq (List.all_eq_true.mp h1 j (List.mem_range.mpr hj))
theorem AllF.mem {α : Type} {p : α → Prop} : ∀ {l : List α} {x : α}, AllF p l → x ∈ l → p x
  | _ :: _, _, h, m => by
    rcases List.mem_cons.mp m with rfl | m
    · exact h.1
    · exact AllF.mem h.2 m
/-! ### the defs -/
theorem fa_of {K : PySem.W.Frag} {W : Wd} {n : Wn} {F : FS} (ok : F.ok W n = true) (bd : BindF F) (h : FnIn K F) : ∃ a : Addr, PySem.W.nsIn K mainGlobals F.g = some (some (.ref a)) ∧ PySem.W.keepIn K (.ref a) = true ∧
    ∀ ad : Adr, (F.f.lm = true → ∀ cdv : Value, (∃ o fd, K.lookup a = some o ∧ o.data = .func fd ∧ fd.code = cdv) → ∃ c P, cdv = .ref c ∧ PySem.W.codeHdIn K c P = true ∧ (P, (F.x ++ ".<locals>.") ++ "<lambda>") ∈ ad.tb ∧ ∀ p ∈ ad.tb, p.1 = P → p.2 = (F.x ++ ".<locals>.") ++ "<lambda>") → FnA K ad W n F.N F.ps F.x (defBody F.st) (defScope F.st) F.f a := by
  obtain ⟨a, oc, dV, kV, doc, pm, cdv, ct, od, an, osl, h1, h2, h3, h4, h5⟩ := h
  simp only [FS.ok, Bool.and_eq_true, decide_eq_true_eq] at ok
  obtain ⟨⟨⟨o1, o2⟩, o3⟩, o4⟩ := ok
  refine ⟨a, h1, h4, fun ad hl => ⟨o1, o2, o3, o4, ?_⟩⟩
  have lam : F.f.lm = true → ∃ c P, cdv = .ref c ∧ PySem.W.codeHdIn K c P = true ∧ (P, (F.x ++ ".<locals>.") ++ "<lambda>") ∈ ad.tb ∧ ∀ p ∈ ad.tb, p.1 = P → p.2 = (F.x ++ ".<locals>.") ++ "<lambda>" := fun z => hl z cdv ⟨_, _, h2, rfl, rfl⟩
  rcases h5 with ⟨d1, d2⟩ | ⟨d1, T, o, its, m, d2, d3, d4, d5⟩
  · refine ⟨F.x, defArgs F.st, dV, kV, doc, pm, cdv, ct, oc, an, od, osl, [], h2, h3, by rw [d1]; rfl, fun F' => by rw [d1]; exact .nil, fun k k1 k2 => ?_, lam⟩
    have b := bd dV kV doc pm an cdv ct K [] (fun _ => d2) (fun z => absurd d1 z) (by rw [d1]; rfl) k k1 (by rw [d1]; exact k2)
    rw [List.drop_nil] at b
    exact ⟨[], by rw [List.drop_nil]; exact .nil, b⟩
  · obtain ⟨vs, rv, rp⟩ := RdVs.rp (ad := ad) d5
    have l1 : vs.length = F.f.dfl.length := by rw [rv.length, d5.len]
    refine ⟨F.x, defArgs F.st, dV, kV, doc, pm, cdv, ct, oc, an, od, osl, vs, h2, h3, l1, rp, fun k k1 k2 => ?_, lam⟩
    have b := bd dV kV doc pm an cdv ct K its.toList (fun z => absurd z d1) (fun _ => ⟨T, o, m, d2, d3, by rw [d4]⟩) d5.len k k1 (by rw [← l1]; exact k2)
    refine ⟨_, ?_, b⟩
    rw [l1]
    exact rv.drop _
/-- a telling def -/
theorem tl_of {K : PySem.W.Frag} {mg : Str → Option Value} {h : Heap} {W : Wd} {n : Wn} {T : Tl} {F : FS} (kin : K.In h) (G : h.Ns mainGlobals mg) (ok : FS.okT W n (T, F) = true) (bd : BindF F) (hF : FnIn K F) : TldF K W mg n.bs T F.g := by
  obtain ⟨a, oc, dV, kV, doc, pm, cdv, ct, od, an, osl, h1, h2, h3, h4, h5⟩ := hF
  unfold FS.okT at ok
  dsimp only at ok
  split at ok
  case h_2 => cases ok
  case h_1 p hp =>
  simp only [Bool.and_eq_true, decide_eq_true_eq, List.isEmpty_iff] at ok
  obtain ⟨⟨⟨⟨⟨⟨o1, o2⟩, o3⟩, o4⟩, o5⟩, o6⟩, o7⟩ := ok
  rcases h5 with ⟨d1, d2⟩ | ⟨d1, _⟩
  · have b := bd dV kV doc pm an cdv ct K [] (fun _ => d2) (fun z => absurd d1 z) (by rw [d1]; rfl) 1 (by rw [hp]; exact Nat.le_refl 1) (by rw [hp]; simp)
    rw [List.drop_nil, hp] at b
    rw [hp] at o1
    refine ⟨a, p, F.N, defArgs F.st, defBody F.st, defScope F.st, dV, kV, doc, pm, cdv, ct, oc, an, od, osl, PySem.W.mg_of kin G h1, h4, ?_, ?_, ?_, fnSc_of o1, o4, visB_of o5, o6, o7⟩
    · rw [o2]; exact h2
    · rw [o2]; exact h3
    · rw [o2]; exact b
  · exact absurd o3 d1
/-- THE TABLE -/
theorem tab_of {K : PySem.W.Frag} {q P : Program} {mg : Str → Option Value} {h : Heap} {cs : List (Str × D)} {fs lms : List FS} {bs : List Str} {xs : List Xk} {ts : List (Tl × FS)} {ps as : List Addr} (kin : K.In h) (G : h.Ns mainGlobals mg) (hf : AllF (FnIn K) fs) (hc : AllF (ConIn K) cs) (hb : AllF (NoIn K) bs)
    (hx : XkAll K P xs as) (hs : SbAll K as xs as) (hdx : (ts.isEmpty || disB xs) = true) (hl : LmAll K q lms ps) (hd : ps.Nodup) (ht : AllF (fun p => FnIn K p.2) ts)
    (ok : fs.all (FS.ok (FS.wd cs fs xs ts) (FS.wn cs fs bs xs ts)) = true) (bd : AllF BindF fs) (okl : ∀ F ∈ fs, F.f.lm = true → F ∈ lms) (okt : ts.all (FS.okT (FS.wd cs fs xs ts) (FS.wn cs fs bs xs ts)) = true) (bdt : AllF (fun p => BindF p.2) ts) :
    ∃ ad : Adr, Tab K ad (FS.wd cs fs xs ts) (FS.wn cs fs bs xs ts) mg P ∧ ∀ p ∈ ad.tb, K.lookup p.1 = none ∧ ∃ (c : Addr) (x : Str) (dr : DefRec), PySem.W.tabIn K x = some (c, p.1) ∧ (recsOf q).find? (fun e => e.name == x) = some dr := by
  have one : ∀ k : Nat, ∃ a : Addr, ∀ F : FS, fs[k]? = some F → PySem.W.nsIn K mainGlobals F.g = some (some (.ref a)) ∧ PySem.W.keepIn K (.ref a) = true ∧
      ∀ ad : Adr, (F.f.lm = true → ∀ cdv : Value, (∃ o fd, K.lookup a = some o ∧ o.data = .func fd ∧ fd.code = cdv) → ∃ c P, cdv = .ref c ∧ PySem.W.codeHdIn K c P = true ∧ (P, (F.x ++ ".<locals>.") ++ "<lambda>") ∈ ad.tb ∧ ∀ p ∈ ad.tb, p.1 = P → p.2 = (F.x ++ ".<locals>.") ++ "<lambda>") →
        FnA K ad (FS.wd cs fs xs ts) (FS.wn cs fs bs xs ts) F.N F.ps F.x (defBody F.st) (defScope F.st) F.f a := fun k => by
    cases e : fs[k]? with
    | none => exact ⟨0, fun F z => by cases z⟩
    | some F =>
      obtain ⟨a, q⟩ := fa_of (List.all_eq_true.mp ok F (List.mem_of_getElem? e)) (bd.get e) (hf.get e)
      exact ⟨a, fun F' z => by cases z; exact q⟩
  obtain ⟨at0, all⟩ := Classical.skolem.mp one
  refine ⟨⟨at0, ps.zip (lms.map lamQ), fun k => as.getD k 0⟩, ⟨?_, ?_, ?_, ?_, ?_, ?_, ?_, rfl, ?_, rfl, rfl, rfl, rfl⟩, ?_⟩
  · intro g p e
    obtain ⟨u, e1, r⟩ := hc.get (show cs[g]? = some p from e)
    obtain ⟨v, r1, r2⟩ := RdV.rp (ad := ⟨at0, ps.zip (lms.map lamQ), fun k => as.getD k 0⟩) r
    exact ⟨v, u, PySem.W.mg_of kin G e1, r1, r2⟩
  · intro x hx
    have m : x ∈ bs := List.contains_iff_mem.mp hx
    obtain ⟨i, hi⟩ := List.mem_iff_getElem?.mp m
    exact PySem.W.mg_none_of kin G (hb.get hi)
  · intro k x e
    have e' : (fs.map (·.g))[k]? = some x := e
    rw [List.getElem?_map] at e'
    cases q : fs[k]? with
    | none => rw [q] at e'; cases e'
    | some F =>
      rw [q] at e'
      cases e'
      obtain ⟨a1, a2, _⟩ := all k F q
      exact ⟨PySem.W.mg_of kin G a1, a2⟩
  · intro k x f e e2
    have e' : (fs.map (·.g))[k]? = some x := e
    have e2' : (fs.map (·.f))[k]? = some f := e2
    rw [List.getElem?_map] at e' e2'
    cases q : fs[k]? with
    | none => rw [q] at e'; cases e'
    | some F =>
      rw [q] at e' e2'
      cases e'
      cases e2'
      obtain ⟨a1, _, a3⟩ := all k F q
      refine ⟨_, _, _, _, _, a3 _ fun hlm cdv ⟨o, fd, q1, q2, q3⟩ => ?_⟩
      have mem := okl F (List.mem_of_getElem? q) hlm
      obtain ⟨P', ⟨hgx, c, dr, t1, t2, t3, t4⟩, mz⟩ := hl.get mem
      have a1' : PySem.W.nsIn K mainGlobals F.x = some (some (.ref (at0 k))) := by rw [← hgx]; exact a1
      have ec := PySem.W.law_code kin G t1 (PySem.W.mg_of kin G a1') (kin _ _ q1) q2
      exact ⟨c, P', by rw [← q3]; exact ec, t2, mz, fun p hp e => by
        have hp' : (P', p.2) ∈ ps.zip (lms.map lamQ) := by rw [← e]; exact hp
        exact zip_uniq hd hp' mz⟩
  · intro k x e
    have X := hx.get (show xs[k]? = some x from e)
    exact ⟨PySem.W.mg_of kin G X.g, X.kp, X.sb, X.ty, X.pl, X.ini, X.ec, X.self, fun p hp => X.bt.mem hp⟩
  · intro i j hi hj
    have li : i < as.length := by rw [← hx.len]; exact hi
    have lj : j < as.length := by rw [← hx.len]; exact hj
    obtain ⟨xi, ei⟩ : ∃ xi, xs[i]? = some xi := ⟨_, List.getElem?_eq_getElem hi⟩
    have r := (hs.get ei).get lj
    rw [Nat.zero_add] at r
    have e3 : supX xs i j = xi.up.contains j := by
      unfold supX
      rw [ei]
    show PySem.W.exmOne K _ _ = some (supX xs i j)
    rw [e3]
    obtain ⟨xj, ej⟩ : ∃ xj, xs[j]? = some xj := ⟨_, List.getElem?_eq_getElem hj⟩
    have X := hx.get ej
    unfold PySem.W.exmOne
    rw [if_pos (by rw [X.sb]; rfl)]
    show (if ((PySem.W.clsIn K (as.getD j 0)).isSome && PySem.W.typeIn K (.ref (as.getD j 0)) == some (.type "type")) = true then PySem.W.subIn K (.ref (as.getD i 0)) (.ref (as.getD j 0)) else none) = _
    have z : (PySem.W.clsIn K (as.getD j 0)).isSome = true := X.ic
    rw [if_pos (by rw [z, X.ty]; rfl)]
    exact r
  · intro t T e i j hi hj
    have e' : (ts.map (·.1))[t]? = some T := e
    have ne : ts.isEmpty = false := by
      cases ts with
      | nil => simp at e'
      | cons => rfl
    rw [ne, Bool.false_or] at hdx
    exact dis_of hdx hi hj
  · intro t T x e e2
    have e' : (ts.map (·.1))[t]? = some T := e
    have e2' : (ts.map (·.2.g))[t]? = some x := e2
    rw [List.getElem?_map] at e' e2'
    cases q : ts[t]? with
    | none => rw [q] at e'; cases e'
    | some p =>
      rw [q] at e' e2'
      cases e'
      cases e2'
      exact tl_of kin G (List.all_eq_true.mp okt p (List.mem_of_getElem? q)) (bdt.get q) (ht.get q)
  · intro p hp
    obtain ⟨F, _, c, dr, t1, _, t3, t4⟩ := hl.back hp
    exact ⟨t3, c, F.x, dr, t1, t4⟩
end EV

set_option Elab.async false
set_option linter.all false
set_option maxRecDepth 100000
set_option maxHeartbeats 4000000
/-! EV, part S: the evaluator step by step. -/
namespace EV
open PySem L2
section
variable {α β : Type} {W : Wd} {C : Cal} {b : Nat} {s : Slots} {m : Sto}
theorem bi_ok (a : α) (m : Sto) (f : α → Sto → R β) : (R.ok a m).bind f = f a m := rfl
theorem bi_bad (f : α → Sto → R β) : (R.bad : R α).bind f = .bad := rfl
theorem of_some (a : α) (m : Sto) : R.ofO (some a) m = .ok a m := rfl
theorem lk_dat (m : Sto) (d : D) : look m (.dat d) = some d := rfl
theorem lk_loc {m : Sto} {n : Nat} {xs : List D} (h : m[n]? = some (.lst xs)) : look m (.loc n) = some (.lst xs) := by simp only [look, h]
theorem lks_nil (m : Sto) : looks m [] = some [] := rfl
theorem lks_cons (m : Sto) (d : D) (vs : List Vl) : looks m (.dat d :: vs) = (looks m vs).map (d :: ·) := rfl
theorem do_nil : datsOf [] = some [] := rfl
theorem do_cons (d : D) (vs : List Vl) : datsOf (.dat d :: vs) = (datsOf vs).map (d :: ·) := rfl
theorem op_some {γ : Type} (a : α) (f : α → γ) : Option.map f (some a) = some (f a) := rfl
theorem ob_some {γ : Type} (a : α) (f : α → Option γ) : Option.bind (some a) f = f a := rfl
/-! operations -/
theorem b_add (i j : Int) : binD .Add (.int i) (.int j) = some (.int (i + j)) := rfl
theorem b_sub (i j : Int) : binD .Sub (.int i) (.int j) = some (.int (i - j)) := rfl
theorem b_mul {i j : Int} (h : mulOk i j = true) : binD .Mult (.int i) (.int j) = some (.int (i * j)) := by simp only [binD, h, if_true]
theorem b_div {i j : Int} (h : j ≠ 0) (h2 : Builtin.divisionGoesByPylong i j = false) : binD .FloorDiv (.int i) (.int j) = some (.int (i.fdiv j)) := by simp [binD, h, h2]
theorem b_mod {i j : Int} (h : j ≠ 0) : binD .Mod (.int i) (.int j) = some (.int (i.fmod j)) := by simp [binD, h]
theorem b_catL {xs ys : List D} (h : szOk (xs.length + ys.length) = true) : binD .Add (.lst xs) (.lst ys) = some (.lst (xs ++ ys)) := by simp only [binD, h, if_true]
theorem b_catT {xs ys : List D} (h : szOk (xs.length + ys.length) = true) : binD .Add (.tup xs) (.tup ys) = some (.tup (xs ++ ys)) := by simp only [binD, h, if_true]
theorem c_lt (i j : Int) : cmpD .Lt (.int i) (.int j) = some (decide (i < j)) := rfl
theorem c_le (i j : Int) : cmpD .LtE (.int i) (.int j) = some (decide (i ≤ j)) := rfl
theorem c_gt (i j : Int) : cmpD .Gt (.int i) (.int j) = some (decide (j < i)) := rfl
theorem c_ge (i j : Int) : cmpD .GtE (.int i) (.int j) = some (decide (j ≤ i)) := rfl
theorem c_eqS (x y : Str) : cmpD .Eq (.str x) (.str y) = some (decide (x = y)) := rfl
theorem c_neS (x y : Str) : cmpD .NotEq (.str x) (.str y) = some (!decide (x = y)) := rfl
theorem c_eqI (i : Int) (e : D) : cmpD .Eq (.int i) e = eqD (.int i) e := by cases e <;> rfl
theorem c_neI (i : Int) (e : D) : cmpD .NotEq (.int i) e = (eqD (.int i) e).map (!·) := by cases e <;> rfl
theorem c_eqB (i : Bool) (e : D) : cmpD .Eq (.bl i) e = eqD (.bl i) e := by cases e <;> rfl
theorem c_neB (i : Bool) (e : D) : cmpD .NotEq (.bl i) e = (eqD (.bl i) e).map (!·) := by cases e <;> rfl
theorem c_eqT (i : List D) (e : D) : cmpD .Eq (.tup i) e = eqD (.tup i) e := by cases e <;> rfl
theorem c_neT (i : List D) (e : D) : cmpD .NotEq (.tup i) e = (eqD (.tup i) e).map (!·) := by cases e <;> rfl
theorem c_eqL (i : List D) (e : D) : cmpD .Eq (.lst i) e = eqD (.lst i) e := by cases e <;> rfl
theorem c_neL (i : List D) (e : D) : cmpD .NotEq (.lst i) e = (eqD (.lst i) e).map (!·) := by cases e <;> rfl
theorem c_isB (a b : Bool) : cmpD .Is (.bl a) (.bl b) = some (decide (a = b)) := rfl
theorem c_isntB (a b : Bool) : cmpD .IsNot (.bl a) (.bl b) = some (!decide (a = b)) := rfl
theorem c_is (d : D) : cmpD .Is d .non = some (isNon d) := by cases d <;> rfl
theorem c_isnt (d : D) : cmpD .IsNot d .non = some (!isNon d) := by cases d <;> rfl
theorem sh_int (i : Int) : SeqAt.shaped (.int i) = true := rfl
theorem sh_bool (x : Bool) : SeqAt.shaped (.bool x) = true := rfl
theorem sh_pair (i j : Int) : SeqAt.shaped (.tuple [.int i, .int j]) = true := rfl
theorem eq_pair (i j k l : Int) : eqD (.tup [.int i, .int j]) (.tup [.int k, .int l]) = some (decide (i = k ∧ j = l)) := by
  by_cases h : i = k <;> by_cases h2 : j = l <;> simp [eqD, toPy, toPys, sh_pair, PyData.eqv, PyData.eqvAll, h, h2]
theorem eq_int (i j : Int) : eqD (.int i) (.int j) = some (decide (i = j)) := by
  by_cases h : i = j <;> simp [eqD, toPy, sh_int, sh_bool, PyData.eqv, h]
theorem eq_bl (x y : Bool) : eqD (.bl x) (.bl y) = some (decide (x = y)) := by
  cases x <;> cases y <;> simp [eqD, toPy, sh_int, sh_bool, PyData.eqv]
theorem t_bl (x : Bool) : truD (.bl x) = some x := rfl
theorem t_int (i : Int) : truD (.int i) = some (i != 0) := rfl
theorem t_lst (xs : List D) : truD (.lst xs) = some (!xs.isEmpty) := rfl
theorem t_tup (xs : List D) : truD (.tup xs) = some (!xs.isEmpty) := rfl
theorem l_tup (xs : List D) : bltD .len [.tup xs] = some (.int xs.length) := rfl
theorem l_lst (xs : List D) : bltD .len [.lst xs] = some (.int xs.length) := rfl
theorem l_scr (xs : List D) : bltD .len [.scr xs] = some (.int xs.length) := rfl
theorem l_abs (i : Int) : bltD .abs [.int i] = some (.int (i.natAbs : Int)) := by
  show some (D.int (if i < 0 then -i else i)) = _
  congr 2
  split <;> omega
theorem l_int (i : Int) : bltD .int [.int i] = some (.int i) := rfl
theorem l_intB (x : Bool) : bltD .int [.bl x] = some (.int (if x then 1 else 0)) := rfl
theorem l_max (i j : Int) : bltD .max2 [.int i, .int j] = some (.int (max i j)) := by
  show some (D.int (if j > i then j else i)) = _
  congr 2
  omega
theorem l_min (i j : Int) : bltD .min2 [.int i, .int j] = some (.int (min i j)) := by
  show some (D.int (if j < i then j else i)) = _
  congr 2
  omega
theorem l_tt (xs : List D) : bltD .tuple [.tup xs] = some (.tup xs) := rfl
theorem l_tl (xs : List D) : bltD .tuple [.lst xs] = some (.tup xs) := rfl
theorem l_all (xs : List D) : bltD .all [.lst xs] = (allD xs).map .bl := rfl
theorem l_any (xs : List D) : bltD .any [.lst xs] = (anyD xs).map .bl := rfl
theorem l_repr (d : D) : bltD .repr [d] = (reprD d).map .str := by cases d <;> rfl
theorem s_tup (xs : List D) (i : Int) : subD (.tup xs) (.int i) = (ixD xs.length i).bind fun j => xs[j]? := rfl
theorem s_lst (xs : List D) (i : Int) : subD (.lst xs) (.int i) = (ixD xs.length i).bind fun j => xs[j]? := rfl
theorem s_scr (xs : List D) (i : Int) : subD (.scr xs) (.int i) = (ixD xs.length i).bind fun j => xs[j]? := rfl
theorem ix_lit {n k : Nat} (h : k < n) : ixD n ((k : Nat) : Int) = some k := by simp [ixD, h]
theorem i_int (i : Int) (t : String) (h : ["int", "bool", "str", "tuple", "list", "dict"].contains t = true) : isiD (.int i) t = some ("int" == t || (("int" : String) == "bool" && t == "int")) := by simp only [isiD, h, if_true, tyName]; rfl
theorem i_tup (xs : List D) (t : String) (h : ["int", "bool", "str", "tuple", "list", "dict"].contains t = true) : isiD (.tup xs) t = some ("tuple" == t || (("tuple" : String) == "bool" && t == "int")) := by simp only [isiD, h, if_true, tyName]; rfl
theorem i_tt (xs : List D) : isiD (.tup xs) "tuple" = some true := rfl
theorem i_ii (i : Int) : isiD (.int i) "int" = some true := rfl
theorem i_ib (i : Int) : isiD (.int i) "bool" = some false := rfl
theorem i_it (i : Int) : isiD (.int i) "tuple" = some false := rfl
theorem ix0 {n : Nat} (h : 0 < n) : ixD n 0 = some 0 := ix_lit (k := 0) h
theorem ix1 {n : Nat} (h : 1 < n) : ixD n 1 = some 1 := ix_lit (k := 1) h
theorem ix2 {n : Nat} (h : 2 < n) : ixD n 2 = some 2 := ix_lit (k := 2) h
/-! expressions -/
theorem v_var (i : Nat) : ev W C (.var i) s m = match s[i]? with
    | some (some (.dat d)) => .ok (.dat d) m
    | some (some (.loc n)) => .ok (.loc n) m
    | _ => .bad := rfl
theorem v_cst (d : D) : ev W C (.cst d) s m = .ok (.dat d) m := rfl
theorem v_glo (g : Nat) : ev W C (.glo g) s m = match W.con[g]? with
    | some p => .ok (.dat p.2) m
    | none => .bad := rfl
theorem v_tup (es : List Ex) : ev W C (.tup es) s m = (evs W C es s m).bind fun vs m => match datsOf vs with
    | some ds => if szOk ds.length then .ok (.dat (.tup ds)) m else .bad
    | none => .bad := rfl
theorem v_lst (es : List Ex) : ev W C (.lst es) s m = (evs W C es s m).bind fun vs m => match datsOf vs with
    | some ds => if szOk ds.length then .ok (.dat (.lst ds)) m else .bad
    | none => .bad := rfl
theorem v_lsts (fl : List Bool) (es : List Ex) : ev W C (.lsts fl es) s m = (evd W C fl es s m).bind fun ds m => if szOk ds.length then .ok (.dat (.lst ds)) m else .bad := rfl
theorem d_nil : evd W C [] [] s m = .ok [] m := rfl
theorem d_star (fl : List Bool) (e : Ex) (es : List Ex) : evd W C (true :: fl) (e :: es) s m = (ev W C e s m).bind fun x m => match (look m x).bind itemsD with
    | some xs => (evd W C fl es s m).bind fun ds m => .ok (xs ++ ds) m
    | none => .bad := rfl
theorem d_one (fl : List Bool) (e : Ex) (es : List Ex) : evd W C (false :: fl) (e :: es) s m = (ev W C e s m).bind fun x m => match x with
    | .dat d => (evd W C fl es s m).bind fun ds m => .ok (d :: ds) m
    | _ => .bad := rfl
theorem l_max1 (xs : List D) : bltD .max1 [.lst xs] = (intsD xs).bind fun is => is.max?.map .int := rfl
theorem l_min1 (xs : List D) : bltD .min1 [.lst xs] = (intsD xs).bind fun is => is.min?.map .int := rfl
theorem l_sum (xs : List D) : bltD .sum [.lst xs] = (intsD xs).map fun is => .int is.sum := rfl
theorem v_bin (op : Operator) (x y : Ex) : ev W C (.bin op x y) s m = (ev W C x s m).bind fun x m => (ev W C y s m).bind fun y m => match look m x, look m y with
    | some d, some e => (R.ofO (binD op d e) m).bind fun r m => .ok (.dat r) m
    | _, _ => .bad := rfl
theorem v_neg (x : Ex) : ev W C (.neg x) s m = (ev W C x s m).bind fun x m => match x with
    | .dat (.int i) => .ok (.dat (.int (-i))) m
    | _ => .bad := rfl
theorem v_nt (x : Ex) : ev W C (.nt x) s m = (ev W C x s m).bind fun x m => match x with
    | .dat (.bl b) => .ok (.dat (.bl (!b))) m
    | _ => .bad := rfl
theorem v_cmp (op : CmpOp) (x y : Ex) : ev W C (.cmp op x y) s m = (ev W C x s m).bind fun x m => (ev W C y s m).bind fun y m => match look m x, look m y with
    | some d, some e => (R.ofO (cmpD op d e) m).bind fun r m => .ok (.dat (.bl r)) m
    | _, _ => .bad := rfl
theorem v_chain (op op' : CmpOp) (x y z : Ex) : ev W C (.chain op op' x y z) s m = (ev W C x s m).bind fun x m => (ev W C y s m).bind fun y m => match x, y with
    | .dat d, .dat e => (R.ofO (cmpD op d e) m).bind fun r m => if r = true then (ev W C z s m).bind fun z m => match z with
        | .dat g => (R.ofO (cmpD op' e g) m).bind fun r m => .ok (.dat (.bl r)) m
        | _ => .bad
      else .ok (.dat (.bl false)) m
    | _, _ => .bad := rfl
theorem v_and (es : List Ex) : ev W C (.andl es) s m = evAnd W C es s m := rfl
theorem v_or (es : List Ex) : ev W C (.orl es) s m = evOr W C es s m := rfl
theorem v_ite (c : Tx) (x y : Ex) : ev W C (.ite c x y) s m = (evT W C c s m).bind fun t m => if t = true then ev W C x s m else ev W C y s m := rfl
theorem v_sub (x y : Ex) : ev W C (.sub x y) s m = (ev W C x s m).bind fun x m => (ev W C y s m).bind fun y m => match look m x, y with
    | some d, .dat e => (R.ofO (subD d e) m).bind fun r m => .ok (.dat r) m
    | _, _ => .bad := rfl
theorem v_rev (x : Ex) : ev W C (.rev x) s m = (ev W C x s m).bind fun x m => match look m x with
    | some d => (R.ofO (revD d) m).bind fun r m => .ok (.dat r) m
    | none => .bad := rfl
theorem v_call (k : Nat) (es : List Ex) : ev W C (.call k es) s m = (evs W C es s m).bind fun vs m => (C k vs m).bind fun r m => match r with
    | .vl v => .ok v m
    | .new xs => .ok (.dat (.lst xs)) m := rfl
theorem v_blt (t : Bt) (es : List Ex) : ev W C (.blt t es) s m = (evs W C es s m).bind fun vs m => match looks m vs with
    | some ds => (R.ofO (bltD t ds) m).bind fun r m => .ok (.dat r) m
    | none => .bad := rfl
theorem v_isi (x : Ex) (t : String) : ev W C (.isi x t) s m = (ev W C x s m).bind fun x m => match look m x with
    | some d => (R.ofO (isiD d t) m).bind fun r m => .ok (.dat (.bl r)) m
    | none => .bad := rfl
theorem v_comp (tg : Tg) (ik : IK) (src : List Ex) (ifs : List Tx) (elt : Ex) : ev W C (.comp tg ik src ifs elt) s m = (evC W C tg ik src ifs elt s m).bind fun ds m => .ok (.dat (.lst ds)) m := ev_comp W C tg ik src ifs elt s m
/-- a comprehension that changes nothing: one item for each -/
theorem loop_map {f : D → Sto → R (Option D)} {g : D → D} {m : Sto} : ∀ {xs acc : List D}, (∀ x ∈ xs, f x m = .ok (some (g x)) m) → loopC f xs acc m = .ok (acc ++ xs.map g) m
  | [], acc, _ => by simp [loopC]
  | x :: xs, acc, h => by
    unfold loopC
    rw [h x List.mem_cons_self, bi_ok]
    dsimp only
    rw [loop_map (xs := xs) fun y hy => h y (List.mem_cons_of_mem _ hy)]
    simp
theorem evC_map {tg : Tg} {ik : IK} {src : List Ex} {ifs : List Tx} {elt : Ex} {vs : List Vl} {m1 : Sto} {ds xs : List D} {g : D → D} (h1 : evs W C src s m = .ok vs m1) (h2 : datsOf vs = some ds) (h3 : walkD ik ds = some xs) (h4 : szOk xs.length = true)
    (h5 : ∀ x ∈ xs, turnC W C tg ifs elt s x m1 = .ok (some (g x)) m1) : evC W C tg ik src ifs elt s m = .ok (xs.map g) m1 := by
  unfold evC
  rw [h1, bi_ok]
  simp only [h2, h3, h4, if_true]
  rw [loop_map h5]
  simp
/-- one turn without tests -/
theorem turn0 {tg : Tg} {elt : Ex} {x : D} {s' : Slots} {d : D} {m1 : Sto} (h1 : tgD tg x (wipeS s (slotsOf tg)) = some s') (h2 : ev W C elt s' m = .ok (.dat d) m1) : turnC W C tg [] elt s x m = .ok (some d) m1 := by
  unfold turnC
  rw [h1]
  simp only [evIfs, noX, bi_ok, if_true]
  rw [h2]
  rfl
theorem allD_true : ∀ {xs : List D}, (∀ x ∈ xs, x = D.bl true) → allD xs = some true
  | [], _ => rfl
  | x :: xs, h => by
    have e := h x List.mem_cons_self
    subst e
    show (allD xs).map (true && ·) = _
    rw [allD_true fun y hy => h y (List.mem_cons_of_mem _ hy)]
    rfl
/-! loops -/
def whlStep (W : Wd) (C : Cal) (b : Nat) (c : Tx) (x : List EV.St) (s : Slots) (m : Sto) : R (Out × Bool) := (evT W C c s m).bind fun t m => if t = true then (exs W C b x s m).bind fun o m => match o with
      | .nx s' => .ok (.nx s', true) m
      | .ctn s' => .ok (.nx s', true) m
      | .brk s' => .ok (.nx s', false) m
      | .ret v => .ok (.ret v, false) m
    else .ok (.nx s, false) m
def forStep (W : Wd) (C : Cal) (b : Nat) (tg : Tg) (x : List EV.St) (d : D) (s : Slots) (m : Sto) : R Out := match tgD tg d s with
          | some s' => exs W C b x s' m
          | none => .bad
theorem x_whl (c : Tx) (x : List EV.St) : exS W C b (.whl c x) s m = whlF whlMost (whlStep W C b c x) s m := rfl
theorem x_for (tg : Tg) (ik : IK) (src : List Ex) (x : List EV.St) : exS W C b (.fort tg ik src x) s m = (evs W C src s m).bind fun vs m => match datsOf vs with
    | some ds => match walkD ik ds with
      | some xs => if szOk xs.length then forF (forStep W C b tg x) xs s m else .bad
      | none => .bad
    | none => .bad := rfl
theorem x_nil : exs W C b [] s m = .ok (.nx s) m := rfl
theorem x_cons (x : EV.St) (r : List EV.St) : exs W C b (x :: r) s m = (exS W C b x s m).bind fun o m => match o with
    | .nx s' => exs W C b r s' m
    | o => .ok o m := rfl
/-- one statement, then the rest -/
theorem st1 {x : EV.St} {r : List EV.St} {s' : Slots} {m' : Sto} {z : R Out} (h : exS W C b x s m = .ok (.nx s') m') (h2 : exs W C b r s' m' = z) : exs W C b (x :: r) s m = z := by
  rw [x_cons, h, bi_ok]
  exact h2
theorem x_set (i : Nat) (e : Ex) : exS W C b (.set (.nm i) e) s m = (ev W C e s m).bind fun v m => if i < s.length then .ok (.nx (s.set i (some v))) m else .bad := rfl
theorem x_setT (ts : List Tg) (e : Ex) : exS W C b (.set (.tp ts) e) s m = (ev W C e s m).bind fun v m => match v with
    | .dat d => (R.ofO (tgD (.tp ts) d s) m).bind fun s' m => .ok (.nx s') m
    | _ => .bad := rfl
theorem x_par (ts : List Nat) (es : List Ex) : exS W C b (.par ts es) s m = (evs W C es s m).bind fun vs m => (R.ofO (parS ts vs s) m).bind fun s' m => .ok (.nx s') m := rfl
theorem x_ife (c : Tx) (x y : List EV.St) : exS W C b (.ife c x y) s m = (evT W C c s m).bind fun t m => if t = true then exs W C b x s m else exs W C b y s m := rfl
theorem x_ret (e : Ex) : exS W C b (.ret e) s m = (ev W C e s m).bind fun v m => .ok (.ret (.vl v)) m := rfl
theorem x_retf (e : Ex) : exS W C b (.retf e) s m = (evN W C e s m).bind fun xs m => .ok (.ret (.new xs)) m := rfl
theorem n_lst (es : List Ex) : evN W C (.lst es) s m = (evs W C es s m).bind fun vs m => match datsOf vs with
    | some ds => if szOk ds.length then .ok ds m else .bad
    | none => .bad := rfl
theorem n_call (k : Nat) (es : List Ex) : evN W C (.call k es) s m = (evs W C es s m).bind fun vs m => (C k vs m).bind fun r m => match r with
    | .new xs => .ok xs m
    | _ => .bad := rfl
theorem x_newl (i c : Nat) (e : Ex) : exS W C b (.newl i c e) s m = (evN W C e s m).bind fun xs m => if i < s.length && b + c < m.length && freeOf (b + c) i 0 s then .ok (.nx (s.set i (some (.loc (b + c))))) (m.set (b + c) (.lst xs)) else .bad := rfl
theorem x_exp (e : Ex) : exS W C b (.exp e) s m = (ev W C e s m).bind fun _ m => .ok (.nx s) m := rfl
theorem ru {f : Fn} {vs : List Vl} {as : List Vl} {r : R RV} (ha : vs ++ (f.dfl.drop (vs.length + f.dfl.length - f.np)).map Vl.dat = as) (hl : as.length = f.np)
    (h : (match exs W C m.length f.body (as.map some ++ List.replicate (f.ns - f.np) none) (m ++ List.replicate f.nc .nil) with
    | .ok (.ret v) m' => if outOk m.length v = true then .ok v (m'.take m.length) else .bad
    | .ok (.nx _) m' => .ok (.vl (.dat .non)) (m'.take m.length)
    | .ok _ _ => .bad
    | .exc x m' => .exc x (m'.take m.length)
    | .bad => .bad) = r) (hw : f.lms = [] := by rfl) : runF W C f vs m = r := by
  unfold runF
  have ew : wdOf W C f = W := by unfold wdOf; rw [hw]
  rw [ew]
  subst ha
  dsimp only
  rw [if_pos hl]
  exact h
/-- a def that hands out a datum -/
theorem ru_cut {f : Fn} {vs as : List Vl} {d : D} {m' : Sto} (ha : vs ++ (f.dfl.drop (vs.length + f.dfl.length - f.np)).map Vl.dat = as) (hl : as.length = f.np)
    (h : exs W C m.length f.body (as.map some ++ List.replicate (f.ns - f.np) none) (m ++ List.replicate f.nc .nil) = .ok (.ret (.vl (.dat d))) m') (hw : f.lms = [] := by rfl) : runF W C f vs m = .ok (.vl (.dat d)) (m'.take m.length) := by
  refine ru ha hl ?_ hw
  rw [h]
  simp [outOk]
/-- a def that hands out a datum, and has no cell -/
theorem ru_dat {f : Fn} {vs as : List Vl} {d : D} {m' : Sto} (ha : vs ++ (f.dfl.drop (vs.length + f.dfl.length - f.np)).map Vl.dat = as) (hl : as.length = f.np) (hc : f.nc = 0) (hm : m'.length = m.length)
    (h : exs W C m.length f.body (as.map some ++ List.replicate (f.ns - f.np) none) m = .ok (.ret (.vl (.dat d))) m') (hw : f.lms = [] := by rfl) : runF W C f vs m = .ok (.vl (.dat d)) m' := by
  refine ru ha hl ?_ hw
  rw [hc, List.replicate_zero, List.append_nil, h]
  simp [outOk, ← hm]
/-- a def that falls off its end -/
theorem ru_non {f : Fn} {vs as : List Vl} {s' : Slots} {m' : Sto} (ha : vs ++ (f.dfl.drop (vs.length + f.dfl.length - f.np)).map Vl.dat = as) (hl : as.length = f.np) (hc : f.nc = 0) (hm : m'.length = m.length)
    (h : exs W C m.length f.body (as.map some ++ List.replicate (f.ns - f.np) none) m = .ok (.nx s') m') (hw : f.lms = [] := by rfl) : runF W C f vs m = .ok (.vl (.dat .non)) m' := by
  refine ru ha hl ?_ hw
  rw [hc, List.replicate_zero, List.append_nil, h]
  dsimp only
  rw [← hm, List.take_length]
theorem ru_new {f : Fn} {vs as : List Vl} {d : List D} {m' : Sto} (ha : vs ++ (f.dfl.drop (vs.length + f.dfl.length - f.np)).map Vl.dat = as) (hl : as.length = f.np) (hc : f.nc = 0) (hm : m'.length = m.length)
    (h : exs W C m.length f.body (as.map some ++ List.replicate (f.ns - f.np) none) m = .ok (.ret (.new d)) m') (hw : f.lms = [] := by rfl) : runF W C f vs m = .ok (.new d) m' := by
  refine ru ha hl ?_ hw
  rw [hc, List.replicate_zero, List.append_nil, h]
  simp [outOk, ← hm]
/-- a def with lists of lambdas that hands out a datum -/
theorem ru_cutL {f : Fn} {vs as : List Vl} {d : D} {m' : Sto} (ha : vs ++ (f.dfl.drop (vs.length + f.dfl.length - f.np)).map Vl.dat = as) (hl : as.length = f.np)
    (h : exs (wdOf W C f) C m.length f.body (as.map some ++ List.replicate (f.ns - f.np) none) (m ++ List.replicate f.nc .nil) = .ok (.ret (.vl (.dat d))) m') : runF W C f vs m = .ok (.vl (.dat d)) (m'.take m.length) := by
  unfold runF
  subst ha
  dsimp only
  rw [if_pos hl, h]
  simp [outOk]
/-- a for over items that keeps a word of the slots and the store -/
theorem forF_inv {f : D → Slots → Sto → R Out} (P : List D → Slots → Sto → Prop) : ∀ {xs : List D} {s : Slots} {m : Sto}, P xs s m → (∀ x r s m, P (x :: r) s m → ∃ s' m', f x s m = .ok (.nx s') m' ∧ P r s' m') → ∃ s' m', forF f xs s m = .ok (.nx s') m' ∧ P [] s' m'
  | [], s, m, h, _ => ⟨s, m, rfl, h⟩
  | x :: r, s, m, h, hs => by
    obtain ⟨s1, m1, e, h1⟩ := hs x r s m h
    obtain ⟨s2, m2, e2, h2⟩ := forF_inv P h1 hs
    refine ⟨s2, m2, ?_, h2⟩
    unfold forF
    rw [e, bi_ok]
    exact e2
end
end EV

set_option linter.all false
set_option Elab.async false
namespace POLY
/-! ### words as lists of fractions: coefficients, action on sequences -/
/-- the coefficient at n -/
def cf (p : List Rat) (n : Nat) : Rat := p.getD n 0
/-- no nought at the end -/
def trim (p : List Rat) : Prop := ∀ h : p ≠ [], p.getLast h ≠ 0
/-- what a word makes of a sequence: the product by coefficients -/
def act : List Rat → (Nat → Rat) → Nat → Rat
  | [], _, _ => 0
  | a :: p, g, n => a * g n + (match n with
    | 0 => 0
    | k + 1 => act p g k)
theorem act_add (p : List Rat) (g h : Nat → Rat) : ∀ n, act p (fun k => g k + h k) n = act p g n + act p h n := by
  induction p with
  | nil => intro n; simp [act, Rat.add_zero, Rat.zero_add, Rat.mul_zero]
  | cons a p ih =>
    intro n
    cases n with
    | zero => simp [act, Rat.mul_add, Rat.add_zero]
    | succ k =>
      simp only [act, ih, Rat.mul_add]
      rw [Rat.add_assoc, Rat.add_assoc, ← Rat.add_assoc (a * h (k + 1)), Rat.add_comm (a * h (k + 1)) (act p g k), Rat.add_assoc]
theorem act_zero (p : List Rat) : ∀ n, act p (fun _ => 0) n = 0 := by
  induction p with
  | nil => intro n; rfl
  | cons a p ih =>
    intro n
    cases n with
    | zero => simp [act, Rat.add_zero, Rat.zero_add, Rat.mul_zero]
    | succ k => simp [act, ih, Rat.add_zero, Rat.mul_zero]
theorem act_scale (p : List Rat) (c : Rat) (g : Nat → Rat) : ∀ n, act p (fun k => c * g k) n = c * act p g n := by
  induction p with
  | nil => intro n; simp [act, Rat.add_zero, Rat.zero_add, Rat.mul_zero]
  | cons a p ih =>
    intro n
    cases n with
    | zero => simp only [act, Rat.add_zero]; rw [← Rat.mul_assoc, Rat.mul_comm a c, Rat.mul_assoc]
    | succ k =>
      simp only [act, ih, Rat.mul_add]
      rw [← Rat.mul_assoc, Rat.mul_comm a c, Rat.mul_assoc]
/-- a day later -/
def sh (g : Nat → Rat) : Nat → Rat
  | 0 => 0
  | k + 1 => g k
theorem act_sh (p : List Rat) (g : Nat → Rat) : ∀ n, act p (sh g) n = sh (act p g) n := by
  induction p with
  | nil => intro n; cases n <;> rfl
  | cons a p ih =>
    intro n
    cases n with
    | zero => simp [act, sh, Rat.add_zero, Rat.mul_zero]
    | succ k =>
      simp only [act, sh, ih]
theorem act_eq {g h : Nat → Rat} (p : List Rat) (e : ∀ n, g n = h n) : ∀ n, act p g n = act p h n := by
  have : g = h := funext e
  subst this
  exact fun _ => rfl
/-- the coefficients of a list, as a sequence -/
theorem cf_nil (n : Nat) : cf [] n = 0 := rfl
theorem cf_zero (a : Rat) (p : List Rat) : cf (a :: p) 0 = a := rfl
theorem cf_succ (a : Rat) (p : List Rat) (n : Nat) : cf (a :: p) (n + 1) = cf p n := rfl
/-- sum and product as lists -/
def addL : List Rat → List Rat → List Rat
  | [], q => q
  | a :: p, [] => a :: p
  | a :: p, b :: q => (a + b) :: addL p q
def mulL : List Rat → List Rat → List Rat
  | [], _ => []
  | a :: p, q => addL (q.map (a * ·)) (0 :: mulL p q)
theorem cf_addL : ∀ (p q : List Rat) (n : Nat), cf (addL p q) n = cf p n + cf q n
  | [], q, n => by simp [addL, cf_nil, Rat.zero_add]
  | a :: p, [], n => by simp [addL, cf_nil, Rat.add_zero]
  | a :: p, b :: q, 0 => rfl
  | a :: p, b :: q, n + 1 => by
    show cf (addL p q) n = _
    rw [cf_addL p q n]
    rfl
theorem act_addL (g : Nat → Rat) : ∀ (p q : List Rat) (n : Nat), act (addL p q) g n = act p g n + act q g n
  | [], q, n => by simp [addL, act, Rat.zero_add]
  | a :: p, [], n => by
    show _ = _ + (0 : Rat)
    rw [Rat.add_zero]
    rfl
  | a :: p, b :: q, 0 => by simp [addL, act, Rat.add_mul, Rat.add_zero]
  | a :: p, b :: q, n + 1 => by
    simp only [addL, act, act_addL g p q n, Rat.add_mul]
    rw [Rat.add_assoc, Rat.add_assoc, ← Rat.add_assoc (b * g (n + 1)), Rat.add_comm (b * g (n + 1)) (act p g n), Rat.add_assoc]
theorem act_map (a : Rat) (g : Nat → Rat) : ∀ (q : List Rat) (n : Nat), act (q.map (a * ·)) g n = a * act q g n
  | [], n => by simp [act, Rat.mul_zero]
  | b :: q, 0 => by simp [act, Rat.add_zero, Rat.mul_assoc]
  | b :: q, n + 1 => by
    simp only [List.map, act, act_map a g q n, Rat.mul_add, Rat.mul_assoc]
theorem act_late (g : Nat → Rat) (q : List Rat) : ∀ n : Nat, act (0 :: q) g n = sh (act q g) n
  | 0 => by simp [act, sh, Rat.zero_mul, Rat.add_zero]
  | n + 1 => by simp [act, sh, Rat.zero_mul, Rat.zero_add]
theorem act_cons (a : Rat) (p : List Rat) (g : Nat → Rat) : ∀ n, act (a :: p) g n = a * g n + sh (act p g) n
  | 0 => rfl
  | n + 1 => rfl
theorem act_mulL (g : Nat → Rat) (q : List Rat) : ∀ (p : List Rat) (n : Nat), act (mulL p q) g n = act p (act q g) n
  | [], n => rfl
  | a :: p, n => by
    show act (addL _ _) g n = _
    rw [act_addL, act_map, act_late, act_cons]
    congr 1
    cases n with
    | zero => rfl
    | succ k => exact act_mulL g q p k
theorem cf_map (a : Rat) : ∀ (q : List Rat) (n : Nat), cf (q.map (a * ·)) n = a * cf q n
  | [], n => by simp [cf_nil, Rat.mul_zero]
  | b :: q, 0 => rfl
  | b :: q, n + 1 => cf_map a q n
theorem cf_mulL (q : List Rat) : ∀ (p : List Rat) (n : Nat), cf (mulL p q) n = act p (cf q) n
  | [], n => rfl
  | a :: p, n => by
    show cf (addL _ _) n = _
    rw [cf_addL, cf_map, act_cons]
    congr 1
    cases n with
    | zero => rfl
    | succ k => exact cf_mulL q p k
/-! ### one list for each sequence -/
theorem trim_tail {a : Rat} {p : List Rat} (h : trim (a :: p)) : trim p := fun hp => by
  have := h (List.cons_ne_nil a p)
  rwa [List.getLast_cons hp] at this
theorem cf_last {p : List Rat} (h : p ≠ []) : cf p (p.length - 1) = p.getLast h := by
  unfold cf
  rw [List.getLast_eq_getElem, List.getD_eq_getElem?_getD, List.getElem?_eq_getElem (by have := List.length_pos_iff.mpr h; omega)]
  rfl
theorem trim_eq : ∀ {p q : List Rat}, trim p → trim q → (∀ n, cf p n = cf q n) → p = q
  | [], [], _, _, _ => rfl
  | [], b :: q, _, hq, e => by
    have h := cf_last (List.cons_ne_nil b q)
    rw [← e] at h
    exact absurd h.symm (hq (List.cons_ne_nil b q))
  | a :: p, [], hp, _, e => by
    have h := cf_last (List.cons_ne_nil a p)
    rw [e] at h
    exact absurd h.symm (hp (List.cons_ne_nil a p))
  | a :: p, b :: q, hp, hq, e => by
    have h0 : a = b := e 0
    have h1 : p = q := trim_eq (trim_tail hp) (trim_tail hq) fun n => e (n + 1)
    rw [h0, h1]
/-- noughts at the end cut off -/
def cut : List Rat → List Rat
  | [] => []
  | a :: p => match cut p with
    | [] => if a = 0 then [] else [a]
    | b :: q => a :: b :: q
theorem cf_cut : ∀ (p : List Rat) (n : Nat), cf (cut p) n = cf p n
  | [], _ => rfl
  | a :: p, n => by
    unfold cut
    have ih := cf_cut p
    split
    · rename_i e
      rw [e] at ih
      split
      · rename_i h
        subst h
        cases n with
        | zero => rfl
        | succ k => exact ih k
      · cases n with
        | zero => rfl
        | succ k => exact ih k
    · rename_i b q e
      rw [e] at ih
      cases n with
      | zero => rfl
      | succ k => exact ih k
theorem trim_cut : ∀ p : List Rat, trim (cut p)
  | [] => fun h => absurd rfl h
  | a :: p => by
    unfold cut
    have ih := trim_cut p
    split
    · split
      · exact fun h => absurd rfl h
      · rename_i h
        exact fun _ => h
    · rename_i b q e
      rw [e] at ih
      intro h
      rw [List.getLast_cons (List.cons_ne_nil b q)]
      exact ih (List.cons_ne_nil b q)
end POLY
namespace POLY
/-! ### numbers over powers of six -/
/-- an integer below 2^b over 6^k -/
def Nm (k b : Nat) (q : Rat) : Prop := ∃ a : Int, a.natAbs < 2 ^ b ∧ q = Rat.divInt a ((6 ^ k : Nat) : Int)
theorem six_ne (k : Nat) : ((6 ^ k : Nat) : Int) ≠ 0 := by
  have : 0 < 6 ^ k := Nat.pow_pos (by decide)
  omega
theorem Nm.zero (k b : Nat) : Nm k b 0 := ⟨0, Nat.pow_pos (by decide), (Rat.zero_divInt _).symm⟩
theorem Nm.mono {k b c : Nat} {q : Rat} (h : Nm k b q) (hb : b ≤ c) : Nm k c q := let ⟨a, h1, h2⟩ := h; ⟨a, Nat.lt_of_lt_of_le h1 (Nat.pow_le_pow_right (by decide) hb), h2⟩
theorem Nm.add {k b : Nat} {p q : Rat} (hp : Nm k b p) (hq : Nm k b q) : Nm k (b + 1) (p + q) := by
  obtain ⟨x, h1, rfl⟩ := hp
  obtain ⟨y, h2, rfl⟩ := hq
  refine ⟨x + y, ?_, ?_⟩
  · have := Int.natAbs_add_le x y
    rw [Nat.pow_succ]
    omega
  · rw [Rat.divInt_add_divInt _ _ (six_ne k) (six_ne k), ← Int.add_mul, Rat.divInt_mul_right (six_ne k)]
theorem Nm.mul {k l b c : Nat} {p q : Rat} (hp : Nm k b p) (hq : Nm l c q) : Nm (k + l) (b + c) (p * q) := by
  obtain ⟨x, h1, rfl⟩ := hp
  obtain ⟨y, h2, rfl⟩ := hq
  refine ⟨x * y, ?_, ?_⟩
  · rw [Int.natAbs_mul, Nat.pow_add]
    exact Nat.mul_lt_mul'' h1 h2
  · rw [Rat.divInt_mul_divInt, Nat.pow_add, Int.natCast_mul]
/-! ### words -/
def addW (p q : List Rat) : List Rat := cut (addL p q)
def mulW (p q : List Rat) : List Rat := cut (mulL p q)
theorem cut_mem : ∀ {p : List Rat} {x : Rat}, x ∈ cut p → x ∈ p
  | [], _, h => h
  | a :: p, x, h => by
    unfold cut at h
    split at h
    · split at h
      · cases h
      · rw [List.mem_singleton] at h
        rw [h]; exact List.mem_cons_self
    · rename_i b q e
      rcases List.mem_cons.mp h with rfl | h
      · exact List.mem_cons_self
      · rw [← e] at h
        exact List.mem_cons_of_mem _ (cut_mem h)
theorem cut_len : ∀ p : List Rat, (cut p).length ≤ p.length
  | [] => Nat.le_refl _
  | a :: p => by
    have ih := cut_len p
    unfold cut
    split
    · split <;> simp
    · rename_i b q e
      rw [e] at ih
      simp at ih ⊢
      omega
theorem cut_id {p : List Rat} (h : trim p) : cut p = p := trim_eq (trim_cut p) h (cf_cut p)
theorem addL_len : ∀ p q : List Rat, (addL p q).length = max p.length q.length
  | [], q => by simp [addL]
  | a :: p, [] => by simp [addL]
  | a :: p, b :: q => by simp [addL, addL_len p q]
theorem addL_nm {k b : Nat} : ∀ {p q : List Rat}, (∀ x ∈ p, Nm k b x) → (∀ x ∈ q, Nm k b x) → ∀ x ∈ addL p q, Nm k (b + 1) x
  | [], q, _, h, x, hx => (h x hx).mono (by omega)
  | a :: p, [], h, _, x, hx => (h x hx).mono (by omega)
  | a :: p, c :: q, h, h', x, hx => by
    rcases List.mem_cons.mp hx with rfl | hx
    · exact (h a List.mem_cons_self).add (h' c List.mem_cons_self)
    · exact addL_nm (fun y hy => h y (List.mem_cons_of_mem _ hy)) (fun y hy => h' y (List.mem_cons_of_mem _ hy)) x hx
theorem mulL_len : ∀ p q : List Rat, (mulL p q).length ≤ p.length + q.length
  | [], q => by simp [mulL]
  | a :: p, q => by
    have := mulL_len p q
    simp [mulL, addL_len]
    omega
theorem mulL_nm {k l b c : Nat} {q : List Rat} (hq : ∀ x ∈ q, Nm l c x) : ∀ {p : List Rat}, (∀ x ∈ p, Nm k b x) → ∀ x ∈ mulL p q, Nm (k + l) (b + c + p.length) x
  | [], _, x, hx => by cases hx
  | a :: p, h, x, hx => by
    have ih := mulL_nm hq fun y hy => h y (List.mem_cons_of_mem a hy)
    have := addL_nm (k := k + l) (b := b + c + p.length) (p := q.map (a * ·)) (q := 0 :: mulL p q) (fun y hy => by
      obtain ⟨z, hz, rfl⟩ := List.mem_map.mp hy
      exact ((h a List.mem_cons_self).mul (hq z hz)).mono (by omega)) (fun y hy => by
      rcases List.mem_cons.mp hy with rfl | hy
      · exact .zero _ _
      · exact ih y hy) x hx
    exact this
structure Wo (k b l : Nat) (p : List Rat) : Prop where
  tr : trim p
  ln : p.length ≤ l
  nm : ∀ x ∈ p, Nm k b x
theorem Wo.mono {k b l b' l' : Nat} {p : List Rat} (h : Wo k b l p) (hb : b ≤ b') (hl : l ≤ l') : Wo k b' l' p := ⟨h.tr, Nat.le_trans h.ln hl, fun x hx => (h.nm x hx).mono hb⟩
theorem trim_nil : trim [] := fun h => absurd rfl h
theorem Wo.nil (k b l : Nat) : Wo k b l [] := ⟨trim_nil, Nat.zero_le _, fun x hx => by cases hx⟩
theorem Wo.add {k b l : Nat} {p q : List Rat} (hp : Wo k b l p) (hq : Wo k b l q) : Wo k (b + 1) l (addW p q) :=
  ⟨trim_cut _, Nat.le_trans (cut_len _) (by rw [addL_len]; have := hp.ln; have := hq.ln; omega), fun x hx => addL_nm hp.nm hq.nm x (cut_mem hx)⟩
theorem Wo.mul {k b l k' b' l' : Nat} {p q : List Rat} (hp : Wo k b l p) (hq : Wo k' b' l' q) : Wo (k + k') (b + b' + l) (l + l') (mulW p q) :=
  ⟨trim_cut _, Nat.le_trans (cut_len _) (Nat.le_trans (mulL_len p q) (by have := hp.ln; have := hq.ln; omega)), fun x hx => (mulL_nm hq.nm hp.nm x (cut_mem hx)).mono (by have := hp.ln; omega)⟩
theorem cf_addW (p q : List Rat) (n : Nat) : cf (addW p q) n = cf p n + cf q n := by rw [addW, cf_cut, cf_addL]
theorem cf_mulW (p q : List Rat) (n : Nat) : cf (mulW p q) n = act p (cf q) n := by rw [mulW, cf_cut, cf_mulL]
theorem act_cut (g : Nat → Rat) : ∀ (p : List Rat) (n : Nat), act (cut p) g n = act p g n
  | [], _ => rfl
  | a :: p, n => by
    have ih := act_cut g p
    unfold cut
    split
    · rename_i e
      rw [e] at ih
      rw [act_cons]
      have z : ∀ k, act p g k = 0 := fun k => (ih k).symm
      have z2 : sh (act p g) n = 0 := by cases n with | zero => rfl | succ k => exact z k
      rw [z2]
      split
      · rename_i h
        rw [h, Rat.zero_mul, Rat.add_zero]
        rfl
      · rw [act_cons]
        congr 1
        cases n <;> rfl
    · rename_i b q e
      rw [e] at ih
      rw [act_cons, act_cons a p]
      congr 1
      cases n with
      | zero => rfl
      | succ k => exact ih k
theorem act_addW (p q : List Rat) (g : Nat → Rat) (n : Nat) : act (addW p q) g n = act p g n + act q g n := by rw [addW, act_cut, act_addL]
theorem act_mulW (p q : List Rat) (g : Nat → Rat) (n : Nat) : act (mulW p q) g n = act p (act q g) n := by rw [mulW, act_cut, act_mulL]
theorem mulW_nil (q : List Rat) : mulW [] q = [] := rfl
theorem addW_nil {q : List Rat} (h : trim q) : addW [] q = q := cut_id h
theorem addW_nil' {q : List Rat} (h : trim q) : addW q [] = q := trim_eq (trim_cut _) h fun n => by rw [cf_addW, cf_nil, Rat.add_zero]
theorem mulW_nil' (q : List Rat) : mulW q [] = [] := trim_eq (trim_cut _) trim_nil fun n => by
  rw [cf_mulW]
  exact act_zero q n
/-! ### some days later -/
def late (i : Nat) (g : Nat → Rat) (n : Nat) : Rat := if n < i then 0 else g (n - i)
theorem late_zero (g : Nat → Rat) (n : Nat) : late 0 g n = g n := by simp [late]
theorem late_add (i : Nat) (g h : Nat → Rat) (n : Nat) : late i (fun k => g k + h k) n = late i g n + late i h n := by
  unfold late
  split
  · rw [Rat.add_zero]
  · rfl
theorem late_cons (i : Nat) (a : Rat) (p : List Rat) (n : Nat) : late i (cf (a :: p)) n = (if n = i then a else 0) + late (i + 1) (cf p) n := by
  unfold late
  by_cases h1 : n < i
  · rw [if_pos h1, if_neg (by omega), if_pos (by omega), Rat.add_zero]
  · rw [if_neg h1]
    by_cases h2 : n = i
    · subst h2
      rw [if_pos rfl, if_pos (by omega), Nat.sub_self, Rat.add_zero]
      rfl
    · obtain ⟨k, rfl⟩ : ∃ k, n = i + 1 + k := ⟨n - (i + 1), by omega⟩
      rw [if_neg h2, if_neg (by omega), Rat.zero_add]
      have e1 : i + 1 + k - i = k + 1 := by omega
      have e2 : i + 1 + k - (i + 1) = k := by omega
      rw [e1, e2]
      rfl
theorem cf_rep : ∀ (i : Nat) (p : List Rat) (n : Nat), cf (List.replicate i 0 ++ p) n = late i (cf p) n
  | 0, p, n => (late_zero _ _).symm
  | i + 1, p, 0 => by simp [late, List.replicate_succ, cf_zero]
  | i + 1, p, n + 1 => by
    show cf (List.replicate i 0 ++ p) n = _
    rw [cf_rep i p n]
    unfold late
    by_cases h : n < i
    · rw [if_pos h, if_pos (by omega)]
    · rw [if_neg h, if_neg (by omega)]
      congr 1
      omega
theorem late_mulL (i : Nat) (a : Rat) (p q : List Rat) (n : Nat) : late i (cf (mulL (a :: p) q)) n = late i (cf (q.map (a * ·))) n + late (i + 1) (cf (mulL p q)) n := by
  have e : cf (mulL (a :: p) q) = fun k => cf (q.map (a * ·)) k + cf (0 :: mulL p q) k := by
    funext k
    show cf (addL _ _) k = _
    rw [cf_addL]
  rw [e, late_add, late_cons]
  congr 1
  split <;> rw [Rat.zero_add]
theorem cf_set {p : List Rat} {j : Nat} (h : j < p.length) (v : Rat) (n : Nat) : cf (p.set j v) n = if n = j then v else cf p n := by
  unfold cf
  rw [List.getD_eq_getElem?_getD, List.getElem?_set, List.getD_eq_getElem?_getD]
  by_cases e : n = j
  · subst e
    simp [h]
  · rw [if_neg (fun z => e z.symm), if_neg e]
/-! ### scaled, later -/
theorem trim_map {a : Rat} (ha : a ≠ 0) {p : List Rat} (h : trim p) : trim (p.map (a * ·)) := fun hn => by
  have hp : p ≠ [] := fun e => hn (by rw [e]; rfl)
  rw [List.getLast_map]
  exact fun z => (Rat.mul_eq_zero.mp z).elim ha (h hp)
theorem trim_late {p : List Rat} (i : Nat) (hp : p ≠ []) (h : trim p) : trim (List.replicate i 0 ++ p) := fun hn => by
  rw [List.getLast_append_of_ne_nil _ hp]
  exact h hp
theorem map_one (p : List Rat) : p.map (1 * ·) = p := by
  induction p with
  | nil => rfl
  | cons a p ih => rw [List.map_cons, ih, Rat.one_mul]
/-! ### rows -/
abbrev Row := List (List Rat)
def addR : Row → Row → Row := List.zipWith addW
def mulR (w : List Rat) (r : Row) : Row := r.map (mulW w)
def madeR : Row → Row → List Row → Row
  | f, w :: ws, r :: rs => madeR (if w = [] then f else addR f (mulR w r)) ws rs
  | f, _, _ => f
theorem madeR_cons (f : Row) (w : List Rat) (ws r : Row) (rs : List Row) : madeR f (w :: ws) (r :: rs) = madeR (if w = [] then f else addR f (mulR w r)) ws rs := rfl
def restR (n : Nat) : Row := List.replicate n []
def tabM (n : Nat) (A B : List Row) : List Row := A.map fun a => madeR (restR n) a B
structure Ro (k b l n : Nat) (r : Row) : Prop where
  ln : r.length = n
  wo : ∀ p ∈ r, Wo k b l p
structure Ta (k b l h n : Nat) (t : List Row) : Prop where
  ln : t.length = h
  ro : ∀ r ∈ t, Ro k b l n r
theorem Ro.mono {k b l n b' l' : Nat} {r : Row} (h : Ro k b l n r) (hb : b ≤ b') (hl : l ≤ l') : Ro k b' l' n r := ⟨h.ln, fun p hp => (h.wo p hp).mono hb hl⟩
theorem Ta.mono {k b l n m b' l' : Nat} {t : List Row} (h : Ta k b l m n t) (hb : b ≤ b') (hl : l ≤ l') : Ta k b' l' m n t := ⟨h.ln, fun p hp => (h.ro p hp).mono hb hl⟩
theorem addR_wo {k b l : Nat} : ∀ {r s : Row}, (∀ p ∈ r, Wo k b l p) → (∀ p ∈ s, Wo k b l p) → ∀ p ∈ addR r s, Wo k (b + 1) l p
  | [], _, _, _, p, hp => by cases hp
  | a :: r, [], _, _, p, hp => by cases hp
  | a :: r, c :: s, h, h', p, hp => by
    rcases List.mem_cons.mp hp with rfl | hp
    · exact (h a List.mem_cons_self).add (h' c List.mem_cons_self)
    · exact addR_wo (fun y hy => h y (List.mem_cons_of_mem _ hy)) (fun y hy => h' y (List.mem_cons_of_mem _ hy)) p hp
theorem Ro.add {k b l n : Nat} {r s : Row} (hr : Ro k b l n r) (hs : Ro k b l n s) : Ro k (b + 1) l n (addR r s) :=
  ⟨by have := hr.ln; have := hs.ln; simp [addR]; omega, addR_wo hr.wo hs.wo⟩
theorem Ro.mul {k b l k' b' l' n : Nat} {w : List Rat} {r : Row} (hw : Wo k b l w) (hr : Ro k' b' l' n r) : Ro (k + k') (b + b' + l) (l + l') n (mulR w r) :=
  ⟨by have := hr.ln; simp [mulR]; omega, fun p hp => by
    obtain ⟨q, hq, rfl⟩ := List.mem_map.mp hp
    exact hw.mul (hr.wo q hq)⟩
theorem Ro.rest (k b l n : Nat) : Ro k b l n (restR n) := ⟨by simp [restR], fun p hp => by
  rw [(List.mem_replicate.mp hp).2]
  exact .nil _ _ _⟩
theorem Ro.made {k b l k' b' l' n : Nat} : ∀ {ws : Row} {rs : List Row} {f : Row} {c : Nat}, (∀ w ∈ ws, Wo k b l w) → (∀ r ∈ rs, Ro k' b' l' n r) → Ro (k + k') c (l + l') n f → b + b' + l ≤ c → Ro (k + k') (c + ws.length) (l + l') n (madeR f ws rs)
  | [], _, f, c, _, _, hf, _ => by unfold madeR; exact hf
  | w :: ws, [], f, c, _, _, hf, _ => by unfold madeR; exact hf.mono (by omega) (Nat.le_refl _)
  | w :: ws, r :: rs, f, c, hw, hr, hf, hc => by
    unfold madeR
    have h1 : Ro (k + k') (c + 1) (l + l') n (if w = [] then f else addR f (mulR w r)) := by
      split
      · exact hf.mono (by omega) (Nat.le_refl _)
      · exact hf.add ((Ro.mul (hw w List.mem_cons_self) (hr r List.mem_cons_self)).mono hc (Nat.le_refl _))
    have := Ro.made (c := c + 1) (fun y hy => hw y (List.mem_cons_of_mem _ hy)) (fun y hy => hr y (List.mem_cons_of_mem _ hy)) h1 (by omega)
    exact this.mono (by simp; omega) (Nat.le_refl _)
theorem Ta.times {k b l k' b' l' h m n : Nat} {A B : List Row} (hA : Ta k b l h m A) (hB : Ta k' b' l' m n B) : Ta (k + k') (b + b' + l + m) (l + l') h n (tabM n A B) :=
  ⟨by have := hA.ln; simp [tabM]; omega, fun r hr => by
    obtain ⟨a, ha, rfl⟩ := List.mem_map.mp hr
    have h1 := hA.ro a ha
    have := Ro.made h1.wo hB.ro (Ro.rest _ (b + b' + l) _ _) (Nat.le_refl _)
    rw [h1.ln] at this
    exact this⟩
/-! ### columns as sequences -/
def col (r : Row) (c n : Nat) : Rat := cf (r.getD c []) n
theorem col_addR {r s : Row} (h : r.length = s.length) (c n : Nat) : col (addR r s) c n = col r c n + col s c n := by
  induction r generalizing s c with
  | nil =>
    cases s with
    | nil => simp [addR, col, cf_nil, Rat.add_zero]
    | cons => simp at h
  | cons a r ih =>
    cases s with
    | nil => simp at h
    | cons b s =>
      cases c with
      | zero => exact cf_addW a b n
      | succ c => exact ih (by simpa using h) c
theorem col_mulR (w : List Rat) (r : Row) (c n : Nat) : col (mulR w r) c n = act w (col r c) n := by
  induction r generalizing c with
  | nil => simp only [mulR, List.map_nil]; exact (act_zero w n).symm
  | cons a r ih =>
    cases c with
    | zero => exact cf_mulW w a n
    | succ c => exact ih c
def lin : Row → List Row → Nat → Nat → Rat
  | w :: ws, r :: rs, c, n => act w (col r c) n + lin ws rs c n
  | _, _, _, _ => 0
theorem made_len {W : Nat} : ∀ {ws : Row} {rs : List Row} {f : Row}, f.length = W → (∀ r ∈ rs, r.length = W) → (madeR f ws rs).length = W
  | [], _, f, hf, _ => by unfold madeR; exact hf
  | w :: ws, [], f, hf, _ => by unfold madeR; exact hf
  | w :: ws, r :: rs, f, hf, hr => by
    unfold madeR
    refine made_len ?_ fun y hy => hr y (List.mem_cons_of_mem _ hy)
    split
    · exact hf
    · have := hr r List.mem_cons_self
      simp [addR, mulR]; omega
theorem col_made {W : Nat} : ∀ {ws : Row} {rs : List Row} {f : Row} (c n : Nat), f.length = W → (∀ r ∈ rs, r.length = W) → col (madeR f ws rs) c n = col f c n + lin ws rs c n
  | [], _, f, c, n, _, _ => by unfold madeR lin; rw [Rat.add_zero]
  | w :: ws, [], f, c, n, _, _ => by unfold madeR lin; rw [Rat.add_zero]
  | w :: ws, r :: rs, f, c, n, hf, hr => by
    unfold madeR lin
    have hr' : ∀ y ∈ rs, y.length = W := fun y hy => hr y (List.mem_cons_of_mem _ hy)
    have h1 := hr r List.mem_cons_self
    by_cases e : w = []
    · subst e
      rw [if_pos rfl, col_made c n hf hr']
      show _ = _ + (0 + _)
      rw [Rat.zero_add]
    · rw [if_neg e, col_made c n (by simp [addR, mulR]; omega) hr', col_addR (by simp [mulR]; omega), col_mulR, Rat.add_assoc]
theorem lin_addR : ∀ {v v' : Row} (C : List Row) (c n : Nat), v.length = v'.length → lin (addR v v') C c n = lin v C c n + lin v' C c n
  | [], [], C, c, n, _ => by simp [addR, lin, Rat.add_zero]
  | [], _ :: _, C, c, n, h => by simp at h
  | _ :: _, [], C, c, n, h => by simp at h
  | a :: v, b :: v', [], c, n, h => by simp [addR, lin, Rat.add_zero]
  | a :: v, b :: v', r :: C, c, n, h => by
    show act (addW a b) (col r c) n + lin (addR v v') C c n = (act a (col r c) n + lin v C c n) + (act b (col r c) n + lin v' C c n)
    rw [act_addW, lin_addR C c n (by simpa using h), Rat.add_assoc, Rat.add_assoc, ← Rat.add_assoc (act b (col r c) n), Rat.add_comm (act b (col r c) n) (lin v C c n), Rat.add_assoc]
theorem lin_mulR (w : List Rat) : ∀ (v : Row) (C : List Row) (c n : Nat), lin (mulR w v) C c n = act w (lin v C c) n
  | [], C, c, n => (act_zero w n).symm
  | a :: v, [], c, n => (act_zero w n).symm
  | a :: v, r :: C, c, n => by
    show act (mulW w a) (col r c) n + lin (mulR w v) C c n = act w (fun k => act a (col r c) k + lin v C c k) n
    rw [act_mulW, act_add, lin_mulR w v C c n]
theorem lin_rest : ∀ (m : Nat) (C : List Row) (c n : Nat), lin (restR m) C c n = 0
  | 0, C, c, n => rfl
  | m + 1, [], c, n => rfl
  | m + 1, r :: C, c, n => by
    show act [] (col r c) n + lin (restR m) C c n = 0
    rw [lin_rest m C c n]
    show (0 : Rat) + 0 = 0
    rw [Rat.add_zero]
theorem lin_made (C : List Row) {W V : Nat} (hC : ∀ r ∈ C, r.length = V) : ∀ {a : Row} {B : List Row} {f : Row} (c n : Nat), f.length = W → (∀ r ∈ B, r.length = W) → lin (madeR f a B) C c n = lin f C c n + lin a (B.map fun b => madeR (restR V) b C) c n
  | [], _, f, c, n, _, _ => by
    show _ = _ + (0 : Rat)
    unfold madeR; rw [Rat.add_zero]
  | w :: ws, [], f, c, n, _, _ => by
    show _ = _ + (0 : Rat)
    unfold madeR; rw [Rat.add_zero]
  | w :: ws, b :: B, f, c, n, hf, hB => by
    rw [madeR_cons]
    have hB' : ∀ y ∈ B, y.length = W := fun y hy => hB y (List.mem_cons_of_mem _ hy)
    have h1 := hB b List.mem_cons_self
    have e2 : col (madeR (restR V) b C) c = lin b C c := by
      funext k
      rw [col_made (W := V) c k (by simp [restR]) hC]
      have z : col (restR V) c k = 0 := by
        unfold col restR
        rw [List.getD_eq_getElem?_getD, List.getElem?_replicate]
        split <;> rfl
      rw [z, Rat.zero_add]
    show _ = _ + (act w (col (madeR (restR V) b C) c) n + lin ws (B.map fun b => madeR (restR V) b C) c n)
    rw [e2]
    by_cases e : w = []
    · subst e
      rw [if_pos rfl, lin_made C hC c n hf hB']
      show _ = _ + ((0 : Rat) + _)
      rw [Rat.zero_add]
    · rw [if_neg e, lin_made C hC c n (by simp [addR, mulR]; omega) hB', lin_addR C c n (by simp [mulR]; omega), lin_mulR, Rat.add_assoc]
theorem row_ext {r s : Row} (hl : r.length = s.length) (hr : ∀ p ∈ r, trim p) (hs : ∀ p ∈ s, trim p) (h : ∀ c n, col r c n = col s c n) : r = s := by
  induction r generalizing s with
  | nil => cases s with
    | nil => rfl
    | cons => simp at hl
  | cons a r ih =>
    cases s with
    | nil => simp at hl
    | cons b s =>
      have e1 : a = b := trim_eq (hr a List.mem_cons_self) (hs b List.mem_cons_self) fun n => h 0 n
      have e2 : r = s := ih (by simpa using hl) (fun y hy => hr y (List.mem_cons_of_mem _ hy)) (fun y hy => hs y (List.mem_cons_of_mem _ hy)) fun c n => h (c + 1) n
      rw [e1, e2]
theorem col_rest (m c n : Nat) : col (restR m) c n = 0 := by
  unfold col restR
  rw [List.getD_eq_getElem?_getD, List.getElem?_replicate]
  split <;> rfl
/-- it does not matter which two are taken first -/
theorem tab_assoc {k b l k' b' l' k2 b2 l2 h m p w : Nat} {A B C : List Row} (hA : Ta k b l h m A) (hB : Ta k' b' l' m p B) (hC : Ta k2 b2 l2 p w C) : tabM w (tabM p A B) C = tabM w A (tabM w B C) := by
  have hAB := hA.times hB
  have hBC := hB.times hC
  have hl := hAB.times hC
  have hr := hA.times hBC
  unfold tabM
  rw [List.map_map]
  refine List.map_congr_left fun a ha => ?_
  have ra := hA.ro a ha
  have m1 := hl.ro (madeR (restR w) (madeR (restR p) a B) C) (by unfold tabM; rw [List.map_map]; exact List.mem_map.mpr ⟨a, ha, rfl⟩)
  have m2 := hr.ro (madeR (restR w) a (tabM w B C)) (List.mem_map.mpr ⟨a, ha, rfl⟩)
  refine row_ext (m1.ln.trans m2.ln.symm) (fun y hy => (m1.wo y hy).tr) (fun y hy => (m2.wo y hy).tr) fun c n => ?_
  show col (madeR (restR w) (madeR (restR p) a B) C) c n = _
  rw [col_made (W := w) c n (by simp [restR]) (fun r hr => (hC.ro r hr).ln), col_made (W := w) c n (by simp [restR]) (fun r hr => by
    obtain ⟨y, hy, rfl⟩ := List.mem_map.mp hr
    exact ((hBC.ro _ (List.mem_map.mpr ⟨y, hy, rfl⟩)).ln)), col_rest, Rat.zero_add, Rat.zero_add]
  rw [lin_made (W := p) (V := w) C (fun r hr => (hC.ro r hr).ln) c n (by simp [restR]) (fun r hr => (hB.ro r hr).ln), lin_rest, Rat.zero_add]
/-! ### the unit table -/
def unitR (n i : Nat) : Row := (List.range n).map fun j => if j = i then [1] else []
def unitT (n : Nat) : List Row := (List.range n).map (unitR n)
theorem lin_unit : ∀ (k s i : Nat) (C : List Row) (c n : Nat), C.length = k → lin ((List.range' s k).map fun j => if j = i then [1] else []) C c n = if s ≤ i then col (C.getD (i - s) []) c n else 0
  | 0, s, i, [], c, n, _ => by
    show (0 : Rat) = _
    split
    · simp [col, cf_nil]
    · rfl
  | 0, s, i, _ :: _, c, n, h => by simp at h
  | k + 1, s, i, [], c, n, h => by simp at h
  | k + 1, s, i, r :: C, c, n, h => by
    have ih := lin_unit k (s + 1) i C c n (by simpa using h)
    rw [List.range'_succ, List.map_cons]
    show act (if s = i then [1] else []) (col r c) n + lin ((List.range' (s + 1) k).map fun j => if j = i then [1] else []) C c n = _
    rw [ih]
    by_cases e : s = i
    · subst e
      rw [if_pos rfl, if_neg (by omega), if_pos (Nat.le_refl _), Rat.add_zero, Nat.sub_self, act_cons, Rat.one_mul]
      have : sh (act [] (col r c)) n = 0 := by cases n <;> rfl
      rw [this, Rat.add_zero]
      rfl
    · rw [if_neg e]
      show (0 : Rat) + _ = _
      rw [Rat.zero_add]
      by_cases h2 : s ≤ i
      · rw [if_pos h2, if_pos (by omega)]
        obtain ⟨j, rfl⟩ : ∃ j, i = s + 1 + j := ⟨i - (s + 1), by omega⟩
        have e1 : s + 1 + j - (s + 1) = j := by omega
        have e2 : s + 1 + j - s = j + 1 := by omega
        rw [e1, e2]
        rfl
      · rw [if_neg h2, if_neg (by omega)]
theorem addR_tr : ∀ {r s : Row}, ∀ p ∈ addR r s, trim p
  | [], _, p, hp => by cases hp
  | a :: r, [], p, hp => by cases hp
  | a :: r, c :: s, p, hp => by
    rcases List.mem_cons.mp hp with rfl | hp
    · exact trim_cut _
    · exact addR_tr p hp
theorem made_tr : ∀ {ws : Row} {rs : List Row} {f : Row}, (∀ p ∈ f, trim p) → ∀ p ∈ madeR f ws rs, trim p
  | [], _, f, hf => by unfold madeR; exact hf
  | w :: ws, [], f, hf => by unfold madeR; exact hf
  | w :: ws, r :: rs, f, hf => by
    rw [madeR_cons]
    refine made_tr ?_
    split
    · exact hf
    · intro p hp
      exact addR_tr p hp
theorem unit_times {k b l h n : Nat} {A : List Row} (hA : Ta k b l h n A) : tabM n (unitT h) A = A := by
  refine List.ext_getElem (by simp [tabM, unitT, hA.ln]) fun i h1 h2 => ?_
  have hi : i < h := by rw [← hA.ln]; exact h2
  have e : (tabM n (unitT h) A)[i] = madeR (restR n) (unitR h i) A := by simp [tabM, unitT]
  rw [e]
  have ra := hA.ro A[i] (List.getElem_mem h2)
  have hl : ∀ r ∈ A, r.length = n := fun r hr => (hA.ro r hr).ln
  refine row_ext ((made_len (W := n) (by simp [restR]) hl).trans ra.ln.symm) (made_tr fun p hp => by rw [(List.mem_replicate.mp hp).2]; exact trim_nil) (fun y hy => (ra.wo y hy).tr) fun c m => ?_
  rw [col_made (W := n) c m (by simp [restR]) hl, col_rest, Rat.zero_add]
  unfold unitR
  rw [List.range_eq_range', lin_unit h 0 i A c m hA.ln, if_pos (Nat.zero_le _), Nat.sub_zero, List.getD_eq_getElem?_getD, List.getElem?_eq_getElem h2]
  rfl
end POLY

set_option Elab.async false
set_option linter.all false
set_option maxRecDepth 100000
set_option maxHeartbeats 1000000
/-! EV, part T: loops and comprehensions at the head of a chain. -/
namespace EV
open PySem L2
section
variable {α β γ : Type} {W : Wd} {C : Cal} {b : Nat} {s : Slots} {m m1 : Sto} {vs : List Vl} {ds : List D} {enc : α → D} {tg : Tg} {ik : IK} {src : List Ex} {body : List EV.St} {ifs : List Tx} {elt : Ex} {z : R β}
theorem bi_asc (r : R α) (f : α → Sto → R β) (g : β → Sto → R γ) : (r.bind f).bind g = r.bind fun a m => (f a m).bind g := by cases r <;> rfl
theorem szk {n : Nat} (h : n ≤ 1000) : szOk n = true := decide_eq_true (Nat.le_trans h (by decide))
theorem forF_enc {f : D → Slots → Sto → R Out} (P : List α → Slots → Sto → Prop) : ∀ {l : List α} {s : Slots} {m : Sto}, P l s m → (∀ x r s m, P (x :: r) s m → ∃ s' m', f (enc x) s m = .ok (.nx s') m' ∧ P r s' m') → ∃ s' m', forF f (l.map enc) s m = .ok (.nx s') m' ∧ P [] s' m'
  | [], s, m, h, _ => ⟨s, m, rfl, h⟩
  | x :: r, s, m, h, hs => by
    obtain ⟨s1, m1, e, h1⟩ := hs x r s m h
    obtain ⟨s2, m2, e2, h2⟩ := forF_enc P h1 hs
    refine ⟨s2, m2, ?_, h2⟩
    show forF f (enc x :: r.map enc) s m = _
    unfold forF
    rw [e, bi_ok]
    exact e2
theorem for_ok (P : List α → Slots → Sto → Prop) (l : List α) (hsrc : evs W C src s m = .ok vs m1) (hd : datsOf vs = some ds) (hw : walkD ik ds = some (l.map enc)) (hz : l.length ≤ 1000) (h0 : P l s m1)
    (hs : ∀ x r s m, P (x :: r) s m → ∃ s' m', forStep W C b tg body (enc x) s m = .ok (.nx s') m' ∧ P r s' m') : ∃ s' m', exS W C b (.fort tg ik src body) s m = .ok (.nx s') m' ∧ P [] s' m' := by
  obtain ⟨s', m', e, h⟩ := forF_enc P h0 hs
  refine ⟨s', m', ?_, h⟩
  rw [x_for, hsrc, bi_ok]
  simp only [hd, hw]
  rw [if_pos (szk (by rw [List.length_map]; exact hz))]
  exact e
theorem bind_for (P : List α → Slots → Sto → Prop) (l : List α) (hsrc : evs W C src s m = .ok vs m1) (hd : datsOf vs = some ds) (hw : walkD ik ds = some (l.map enc)) (hz : l.length ≤ 1000) (h0 : P l s m1)
    (hs : ∀ x r s m, P (x :: r) s m → ∃ s' m', forStep W C b tg body (enc x) s m = .ok (.nx s') m' ∧ P r s' m') {g : Out → Sto → R β} (k : ∀ s' m', P [] s' m' → g (.nx s') m' = z) : (exS W C b (.fort tg ik src body) s m).bind g = z := by
  obtain ⟨s', m', e, h⟩ := for_ok P l hsrc hd hw hz h0 hs
  rw [e, bi_ok]
  exact k s' m' h
theorem loop_enc {f : D → Sto → R (Option D)} {g : α → D} : ∀ {l : List α} {acc : List D}, (∀ x ∈ l, f (enc x) m = .ok (some (g x)) m) → loopC f (l.map enc) acc m = .ok (acc ++ l.map g) m
  | [], acc, _ => by simp [loopC]
  | x :: xs, acc, h => by
    show loopC f (enc x :: xs.map enc) acc m = _
    unfold loopC
    rw [h x List.mem_cons_self, bi_ok]
    dsimp only
    rw [loop_enc (l := xs) fun y hy => h y (List.mem_cons_of_mem _ hy)]
    simp
theorem evC_enc (g : α → D) (l : List α) (hsrc : evs W C src s m = .ok vs m1) (hd : datsOf vs = some ds) (hw : walkD ik ds = some (l.map enc)) (hz : l.length ≤ 1000)
    (hx : ∀ x ∈ l, turnC W C tg ifs elt s (enc x) m1 = .ok (some (g x)) m1) : evC W C tg ik src ifs elt s m = .ok (l.map g) m1 := by
  unfold evC
  rw [hsrc, bi_ok]
  simp only [hd, hw]
  rw [if_pos (szk (by rw [List.length_map]; exact hz)), loop_enc hx]
  simp
theorem bind_evC (g : α → D) (l : List α) (hsrc : evs W C src s m = .ok vs m1) (hd : datsOf vs = some ds) (hw : walkD ik ds = some (l.map enc)) (hz : l.length ≤ 1000)
    (hx : ∀ x ∈ l, turnC W C tg ifs elt s (enc x) m1 = .ok (some (g x)) m1) {f : List D → Sto → R β} (k : f (l.map g) m1 = z) : (evC W C tg ik src ifs elt s m).bind f = z := by
  rw [evC_enc g l hsrc hd hw hz hx, bi_ok]
  exact k
/-- a comprehension that changes the store: one item for each -/
theorem loop_st {f : D → Sto → R (Option D)} (P : List α → List D → Sto → Prop) : ∀ {l : List α} {acc : List D} {m : Sto}, P l acc m → (∀ x r acc m, P (x :: r) acc m → ∃ d m', f (enc x) m = .ok (some d) m' ∧ P r (acc ++ [d]) m') → ∃ ds m', loopC f (l.map enc) acc m = .ok ds m' ∧ P [] ds m'
  | [], acc, m, h, _ => ⟨acc, m, rfl, h⟩
  | x :: r, acc, m, h, hs => by
    obtain ⟨d, m1, e, h1⟩ := hs x r acc m h
    obtain ⟨ds, m2, e2, h2⟩ := loop_st P h1 hs
    refine ⟨ds, m2, ?_, h2⟩
    show loopC f (enc x :: r.map enc) acc m = _
    unfold loopC
    rw [e, bi_ok]
    exact e2
theorem evC_st (P : List α → List D → Sto → Prop) (l : List α) (hsrc : evs W C src s m = .ok vs m1) (hd : datsOf vs = some ds) (hw : walkD ik ds = some (l.map enc)) (hz : l.length ≤ 1000) (h0 : P l [] m1)
    (hx : ∀ x r acc m, P (x :: r) acc m → ∃ d m', turnC W C tg ifs elt s (enc x) m = .ok (some d) m' ∧ P r (acc ++ [d]) m') : ∃ ds m', evC W C tg ik src ifs elt s m = .ok ds m' ∧ P [] ds m' := by
  obtain ⟨es, m', e, h⟩ := loop_st P h0 hx
  refine ⟨es, m', ?_, h⟩
  unfold evC
  rw [hsrc, bi_ok]
  simp only [hd, hw]
  rw [if_pos (szk (by rw [List.length_map]; exact hz))]
  exact e
theorem wd_seqT (xs : List D) : walkD .seq [.tup xs] = some xs := rfl
theorem wd_seqL (xs : List D) : walkD .seq [.lst xs] = some xs := rfl
theorem wd_rng1 {n : Nat} (h : n ≤ 1000) : walkD .rng1 [.int n] = some ((List.range n).map fun i => D.int (i : Nat)) := by
  have : inRg (n : Int) = true := by simp [inRg]; omega
  simp only [walkD, this, if_true, Int.toNat_natCast, rngD]
  simp
theorem wd_enumT (xs : List α) : walkD .enum [.tup (xs.map enc)] = some (xs.zipIdx.map fun p => .tup [.int (p.2 : Nat), enc p.1]) := by
  show some ((xs.map enc).zipIdx.map _) = _
  rw [List.zipIdx_map, List.map_map]
  rfl
theorem wd_zipT {δ : Type} {enc' : δ → D} (xs : List α) (ys : List δ) : walkD .zip [.tup (xs.map enc), .tup (ys.map enc')] = some ((xs.zip ys).map fun p => .tup [enc p.1, enc' p.2]) := by
  show some (((xs.map enc).zip (ys.map enc')).map _) = _
  rw [List.zip_map, List.map_map]
  rfl
theorem wd_zipL {δ : Type} {enc' : δ → D} (xs : List α) (ys : List δ) : walkD .zip [.lst (xs.map enc), .lst (ys.map enc')] = some ((xs.zip ys).map fun p => .tup [enc p.1, enc' p.2]) := by
  show some (((xs.map enc).zip (ys.map enc')).map _) = _
  rw [List.zip_map, List.map_map]
  rfl
theorem allD_map (p : α → Bool) : ∀ l : List α, allD (l.map fun x => D.bl (p x)) = some (l.all p)
  | [] => rfl
  | x :: l => by
    show (allD (l.map _)).map (p x && ·) = _
    rw [allD_map p l]
    rfl
theorem intsD_map (f : α → Int) : ∀ l : List α, intsD (l.map fun x => D.int (f x)) = some (l.map f)
  | [] => rfl
  | x :: l => by
    show (intsD (l.map _)).map (f x :: ·) = _
    rw [intsD_map f l]
    rfl
end
/-! ### plain data: ints, None, tuples, lists -/
def Fl : List Nat → D → Prop
  | _, .int i => i.natAbs < 2 ^ 120
  | _, .non => True
  | b :: bs, .tup xs => xs.length ≤ b ∧ ∀ x ∈ xs, Fl bs x
  | b :: bs, .lst xs => xs.length ≤ b ∧ ∀ x ∈ xs, Fl bs x
  | _, _ => False
def Wt : List Nat → Nat
  | [] => 120
  | b :: bs => b * (Wt bs + 1) + 120
theorem int_fl {i : Int} (h : i.natAbs < 2 ^ 120) : (PyData.shown (.int i)).length ≤ 40 ∧ PyData.weight (.int i) ≤ 120 ∧ i.natAbs.log2 < 1920 := by
  have h2 : i.natAbs < 10 ^ 37 := Nat.lt_trans h (by decide)
  have e := int_text_length_le10 (k := 37) (by decide) h2
  have hl : i.natAbs.log2 < 120 := by
    by_cases z : i.natAbs = 0
    · rw [z, Nat.log2_zero]; decide
    · exact (Nat.log2_lt z).mpr h
  refine ⟨?_, ?_, by omega⟩
  · show (Str.ofString (toString i)).length ≤ 40
    rw [PySem.ofString_length]
    omega
  · unfold PyData.weight
    split <;> omega
structure PyOk (p : PyData) (n w : Nat) : Prop where
  sh : p.showable = true
  dp : p.depth ≤ n
  cl : p.canLay0 = true
  lv : p.leavesShort 40 = true
  wt : p.weight ≤ w
structure PysOk (p : List PyData) (n w : Nat) : Prop where
  sh : PyData.showableAll p = true
  dp : PyData.depthAll p ≤ n
  cl : PyData.canLayAll0 p = true
  lv : PyData.leavesShortAll 40 p = true
  wt : PyData.weightAll p ≤ w
theorem fl_pys {n w : Nat} {Q : D → Prop} (h : ∀ d, Q d → ∃ p, toPy d = some p ∧ PyOk p n w) : ∀ xs : List D, (∀ x ∈ xs, Q x) → ∃ ps, toPys xs = some ps ∧ PysOk ps n (xs.length * (w + 1))
  | [], _ => ⟨[], rfl, rfl, Nat.zero_le _, rfl, rfl, Nat.zero_le _⟩
  | x :: xs, hx => by
    obtain ⟨p, e, a1, a2, a3, a4, a5⟩ := h x (hx x List.mem_cons_self)
    obtain ⟨ps, es, b1, b2, b3, b4, b5⟩ := fl_pys h xs fun y hy => hx y (List.mem_cons_of_mem _ hy)
    refine ⟨p :: ps, by simp [toPys, e, es], ?_, ?_, ?_, ?_, ?_⟩
    · simp [PyData.showableAll, a1, b1]
    · simp only [PyData.depthAll]; omega
    · simp [PyData.canLayAll0, a3, b3]
    · simp [PyData.leavesShortAll, a4, b4]
    · simp only [PyData.weightAll, List.length_cons, Nat.add_mul]; omega
theorem fl_py : ∀ (bs : List Nat) (d : D), Fl bs d → ∃ p, toPy d = some p ∧ PyOk p bs.length (Wt bs)
  | [], d, h => by
    cases d with
    | int i =>
      have hi : i.natAbs < 2 ^ 120 := by unfold Fl at h; exact h
      obtain ⟨h1, h2, h3⟩ := int_fl hi
      exact ⟨.int i, rfl, by simp [PyData.showable, h3], by simp [PyData.depth], rfl, by simp [PyData.leavesShort, h1], h2⟩
    | non => exact ⟨.none, rfl, rfl, by simp [PyData.depth], rfl, rfl, by simp [PyData.weight]⟩
    | _ => unfold Fl at h; exact h.elim
  | b :: bs, d, h => by
    cases d with
    | int i =>
      have hi : i.natAbs < 2 ^ 120 := by unfold Fl at h; exact h
      obtain ⟨h1, h2, h3⟩ := int_fl hi
      exact ⟨.int i, rfl, by simp [PyData.showable, h3], by simp [PyData.depth], rfl, by simp [PyData.leavesShort, h1], Nat.le_trans h2 (by unfold Wt; omega)⟩
    | non => exact ⟨.none, rfl, rfl, by simp [PyData.depth], rfl, rfl, by simp [PyData.weight]⟩
    | tup xs =>
      have hh : xs.length ≤ b ∧ ∀ x ∈ xs, Fl bs x := by unfold Fl at h; exact h
      obtain ⟨ps, e, a1, a2, a3, a4, a5⟩ := fl_pys (fl_py bs) xs hh.2
      have hw : xs.length * (Wt bs + 1) ≤ b * (Wt bs + 1) := Nat.mul_le_mul_right _ hh.1
      refine ⟨.tuple ps, by simp [toPy, e], ?_, ?_, ?_, ?_, ?_⟩
      · simp [PyData.showable, a1]
      · simp only [PyData.depth, List.length_cons]; omega
      · simp [PyData.canLay0, a3]
      · simp [PyData.leavesShort, a4]
      · simp only [PyData.weight, Wt]; omega
    | lst xs =>
      have hh : xs.length ≤ b ∧ ∀ x ∈ xs, Fl bs x := by unfold Fl at h; exact h
      obtain ⟨ps, e, a1, a2, a3, a4, a5⟩ := fl_pys (fl_py bs) xs hh.2
      have hw : xs.length * (Wt bs + 1) ≤ b * (Wt bs + 1) := Nat.mul_le_mul_right _ hh.1
      refine ⟨.list ps, by simp [toPy, e], ?_, ?_, ?_, ?_, ?_⟩
      · simp [PyData.showable, a1]
      · simp only [PyData.depth, List.length_cons]; omega
      · simp [PyData.canLay0, a3]
      · simp [PyData.leavesShort, a4]
      · simp only [PyData.weight, Wt]; omega
    | _ => unfold Fl at h; exact h.elim
theorem reprD_py {d : D} {p : PyData} (e : toPy d = some p) : reprD d = if p.showable && decide (p.depth ≤ 40) && szOk p.shown.length && SeqAt.shaped p then some p.shown else none := by
  cases d with
  | dct kvs => simp [toPy] at e
  | _ => unfold reprD; dsimp only; rw [e]; rfl
theorem repr_fl {bs : List Nat} {d : D} (h : Fl bs d) (h1 : bs.length ≤ 40 := by decide) (h2 : Wt bs ≤ 390000 := by decide) : ∃ x, reprD d = some x := by
  obtain ⟨p, e, a1, a2, a3, a4, a5⟩ := fl_py bs d h
  refine ⟨p.shown, ?_⟩
  have l := PyData.shown_le 40 (by decide) p a4
  have z : szOk p.shown.length = true := decide_eq_true (by
    have : sizeLine = 16777216 := by decide
    omega)
  have d1 : p.depth ≤ 40 := by omega
  have d2 : p.depth ≤ 64 := by omega
  rw [reprD_py e]
  unfold SeqAt.shaped
  simp [a1, d1, d2, z, a3]
/-- shape alone: ints, None, tuples, lists, so deep -/
def Sp : Nat → D → Prop
  | _, .int _ => True
  | _, .non => True
  | n + 1, .tup xs => ∀ x ∈ xs, Sp n x
  | n + 1, .lst xs => ∀ x ∈ xs, Sp n x
  | _, _ => False
theorem sp_pys {n : Nat} (h : ∀ d, Sp n d → ∃ p, toPy d = some p ∧ p.depth ≤ n ∧ p.canLay0 = true) : ∀ xs : List D, (∀ x ∈ xs, Sp n x) → ∃ ps, toPys xs = some ps ∧ PyData.depthAll ps ≤ n ∧ PyData.canLayAll0 ps = true
  | [], _ => ⟨[], rfl, Nat.zero_le _, rfl⟩
  | x :: xs, hx => by
    obtain ⟨p, e, a2, a3⟩ := h x (hx x List.mem_cons_self)
    obtain ⟨ps, es, b2, b3⟩ := sp_pys h xs fun y hy => hx y (List.mem_cons_of_mem _ hy)
    exact ⟨p :: ps, by simp [toPys, e, es], by simp only [PyData.depthAll]; omega, by simp [PyData.canLayAll0, a3, b3]⟩
theorem sp_py : ∀ (n : Nat) (d : D), Sp n d → ∃ p, toPy d = some p ∧ p.depth ≤ n ∧ p.canLay0 = true
  | 0, d, h => by
    cases d with
    | int i => exact ⟨.int i, rfl, by simp [PyData.depth], rfl⟩
    | non => exact ⟨.none, rfl, by simp [PyData.depth], rfl⟩
    | _ => unfold Sp at h; exact h.elim
  | n + 1, d, h => by
    cases d with
    | int i => exact ⟨.int i, rfl, by simp [PyData.depth], rfl⟩
    | non => exact ⟨.none, rfl, by simp [PyData.depth], rfl⟩
    | tup xs =>
      have hh : ∀ x ∈ xs, Sp n x := by unfold Sp at h; exact h
      obtain ⟨ps, e, a2, a3⟩ := sp_pys (sp_py n) xs hh
      exact ⟨.tuple ps, by simp [toPy, e], by simp only [PyData.depth]; omega, by simp [PyData.canLay0, a3]⟩
    | lst xs =>
      have hh : ∀ x ∈ xs, Sp n x := by unfold Sp at h; exact h
      obtain ⟨ps, e, a2, a3⟩ := sp_pys (sp_py n) xs hh
      exact ⟨.list ps, by simp [toPy, e], by simp only [PyData.depth]; omega, by simp [PyData.canLay0, a3]⟩
    | _ => unfold Sp at h; exact h.elim
theorem eqv_sp : ∀ (n n' : Nat) (d e : D), Sp n d → Sp n' e → ∀ p q, toPy d = some p → toPy e = some q → (PyData.eqv p q = true ↔ d = e) := by
  have lists : ∀ (n n' : Nat), (∀ (d e : D), Sp n d → Sp n' e → ∀ p q, toPy d = some p → toPy e = some q → (PyData.eqv p q = true ↔ d = e)) → ∀ (xs ys : List D), (∀ x ∈ xs, Sp n x) → (∀ y ∈ ys, Sp n' y) → ∀ ps qs, toPys xs = some ps → toPys ys = some qs → (PyData.eqvAll ps qs = true ↔ xs = ys) := by
    intro n n' ih xs
    induction xs with
    | nil =>
      intro ys _ hy ps qs e1 e2
      cases e1
      cases ys with
      | nil => cases e2; simp [PyData.eqvAll]
      | cons y ys =>
        obtain ⟨q, eq, e2⟩ := Option.bind_eq_some_iff.mp e2
        obtain ⟨r, er, rfl⟩ := Option.map_eq_some_iff.mp e2
        simp [PyData.eqvAll]
    | cons x xs ihx =>
      intro ys hx hy ps qs e1 e2
      obtain ⟨p, ep, e1⟩ := Option.bind_eq_some_iff.mp e1
      obtain ⟨r, er, rfl⟩ := Option.map_eq_some_iff.mp e1
      cases ys with
      | nil => cases e2; simp [PyData.eqvAll]
      | cons y ys =>
        obtain ⟨q, eq, e2⟩ := Option.bind_eq_some_iff.mp e2
        obtain ⟨r', er', rfl⟩ := Option.map_eq_some_iff.mp e2
        have a := ih x y (hx x List.mem_cons_self) (hy y List.mem_cons_self) p q ep eq
        have b := ihx ys (fun z hz => hx z (List.mem_cons_of_mem _ hz)) (fun z hz => hy z (List.mem_cons_of_mem _ hz)) r r' er er'
        simp [PyData.eqvAll, a, b]
  intro n
  induction n with
  | zero =>
    intro n' d e hd he p q ep eq
    cases d <;> (try (unfold Sp at hd; exact hd.elim)) <;> cases e <;> (try (cases n' <;> (unfold Sp at he; exact he.elim))) <;> cases ep <;> (first | (cases eq; simp [PyData.eqv]; done) | (obtain ⟨r, er, rfl⟩ := Option.map_eq_some_iff.mp eq; simp [PyData.eqv]))
  | succ n ih =>
    intro n' d e hd he p q ep eq
    cases d with
    | int i => cases e <;> (try (cases n' <;> (unfold Sp at he; exact he.elim))) <;> cases ep <;> (first | (cases eq; simp [PyData.eqv]; done) | (obtain ⟨r, er, rfl⟩ := Option.map_eq_some_iff.mp eq; simp [PyData.eqv]))
    | non => cases e <;> (try (cases n' <;> (unfold Sp at he; exact he.elim))) <;> cases ep <;> (first | (cases eq; simp [PyData.eqv]; done) | (obtain ⟨r, er, rfl⟩ := Option.map_eq_some_iff.mp eq; simp [PyData.eqv]))
    | tup xs =>
      obtain ⟨r, er, rfl⟩ := Option.map_eq_some_iff.mp ep
      cases e with
      | int i => cases eq; simp [PyData.eqv]
      | non => cases eq; simp [PyData.eqv]
      | lst ys => obtain ⟨r', er', rfl⟩ := Option.map_eq_some_iff.mp eq; simp [PyData.eqv]
      | tup ys =>
        obtain ⟨r', er', rfl⟩ := Option.map_eq_some_iff.mp eq
        cases n' with
        | zero => unfold Sp at he; exact he.elim
        | succ n' =>
          have h1 : ∀ x ∈ xs, Sp n x := by unfold Sp at hd; exact hd
          have h2 : ∀ x ∈ ys, Sp n' x := by unfold Sp at he; exact he
          have := lists n n' (ih n') xs ys h1 h2 r r' er er'
          simp [PyData.eqv, this]
      | _ => cases n' <;> (unfold Sp at he; exact he.elim)
    | lst xs =>
      obtain ⟨r, er, rfl⟩ := Option.map_eq_some_iff.mp ep
      cases e with
      | int i => cases eq; simp [PyData.eqv]
      | non => cases eq; simp [PyData.eqv]
      | tup ys => obtain ⟨r', er', rfl⟩ := Option.map_eq_some_iff.mp eq; simp [PyData.eqv]
      | lst ys =>
        obtain ⟨r', er', rfl⟩ := Option.map_eq_some_iff.mp eq
        cases n' with
        | zero => unfold Sp at he; exact he.elim
        | succ n' =>
          have h1 : ∀ x ∈ xs, Sp n x := by unfold Sp at hd; exact hd
          have h2 : ∀ x ∈ ys, Sp n' x := by unfold Sp at he; exact he
          have := lists n n' (ih n') xs ys h1 h2 r r' er er'
          simp [PyData.eqv, this]
      | _ => cases n' <;> (unfold Sp at he; exact he.elim)
    | _ => unfold Sp at hd; exact hd.elim
/-- equality of plain data -/
theorem eq_sp {n n' : Nat} {d e : D} (hd : Sp n d) (he : Sp n' e) (h1 : n ≤ 64 := by decide) (h2 : n' ≤ 64 := by decide) : ∃ b : Bool, eqD d e = some b ∧ (b = true ↔ d = e) := by
  obtain ⟨p, ep, a2, a3⟩ := sp_py n d hd
  obtain ⟨q, eq, b2, b3⟩ := sp_py n' e he
  refine ⟨PyData.eqv p q, ?_, eqv_sp n n' d e hd he p q ep eq⟩
  unfold eqD SeqAt.shaped
  rw [ep, eq]
  have c1 : p.depth ≤ 64 := by omega
  have c2 : q.depth ≤ 64 := by omega
  simp [a3, b3, c1, c2]
end EV

set_option Elab.async false
set_option linter.all false
set_option maxRecDepth 100000
set_option maxHeartbeats 4000000
/-! EV, part Y: what does not look at the first cell runs alike over any first cell. -/
namespace EV
open PySem
def Fz (j0 : Nat) (m : Sto) : Prop := m[j0]? = some .nil
def put0 (j0 : Nat) (x : MO) (m : Sto) : Sto := m.set j0 x
def Sim {α : Type} (j0 : Nat) (x : MO) (f : Sto → R α) : Prop := ∀ m, Fz j0 m → match f m with
  | .ok a m1 => Fz j0 m1 ∧ m1.length = m.length ∧ f (put0 j0 x m) = .ok a (put0 j0 x m1)
  | .exc e m1 => Fz j0 m1 ∧ m1.length = m.length ∧ f (put0 j0 x m) = .exc e (put0 j0 x m1)
  | .bad => True
section
variable {α β : Type} {x : MO} {j0 : Nat}
theorem sim_ok (a : α) : Sim j0 x (fun m => R.ok a m) := fun m h => ⟨h, rfl, rfl⟩
theorem sim_exc (e : Xc) : Sim j0 x (fun m => (R.exc e m : R α)) := fun m h => ⟨h, rfl, rfl⟩
theorem sim_bad : Sim j0 x (fun _ => (R.bad : R α)) := fun m h => trivial
theorem sim_ofO (o : Option α) : Sim j0 x (fun m => R.ofO o m) := by
  cases o with
  | none => exact sim_bad
  | some a => exact sim_ok a
theorem sim_bind {f : Sto → R α} {g : α → Sto → R β} (hf : Sim j0 x f) (hg : ∀ a, Sim j0 x (g a)) : Sim j0 x (fun m => (f m).bind (g ·)) := by
  intro m h
  have h1 := hf m h
  show match (f m).bind g with
    | .ok a m1 => Fz j0 m1 ∧ m1.length = m.length ∧ (f (put0 j0 x m)).bind g = .ok a (put0 j0 x m1)
    | .exc e m1 => Fz j0 m1 ∧ m1.length = m.length ∧ (f (put0 j0 x m)).bind g = .exc e (put0 j0 x m1)
    | .bad => True
  cases q : f m with
  | bad => trivial
  | exc e m1 =>
    rw [q] at h1
    obtain ⟨a1, a2, a3⟩ := h1
    rw [a3]
    exact ⟨a1, a2, rfl⟩
  | ok a m1 =>
    rw [q] at h1
    obtain ⟨a1, a2, a3⟩ := h1
    have h2 := hg a m1 a1
    rw [a3]
    simp only [R.bind]
    cases q2 : g a m1 with
    | bad => trivial
    | exc e m2 =>
      rw [q2] at h2
      exact ⟨h2.1, h2.2.1.trans a2, h2.2.2⟩
    | ok b m2 =>
      rw [q2] at h2
      exact ⟨h2.1, h2.2.1.trans a2, h2.2.2⟩
theorem sim_noX {f : Sto → R α} (hf : Sim j0 x f) : Sim j0 x (fun m => noX (f m)) := by
  intro m h
  have h1 := hf m h
  dsimp only
  cases q : f m with
  | bad => trivial
  | exc e m1 => trivial
  | ok a m1 =>
    rw [q] at h1
    obtain ⟨a1, a2, a3⟩ := h1
    rw [a3]
    exact ⟨a1, a2, rfl⟩
theorem put0_get {m : Sto} {n : Nat} (h : n ≠ j0) : (put0 j0 x m)[n]? = m[n]? := by
  unfold put0
  rw [List.getElem?_set_ne (Ne.symm h)]
theorem look_put {m : Sto} {v : Vl} {d : D} (hm : Fz j0 m) (h : look m v = some d) : look (put0 j0 x m) v = some d := by
  cases v with
  | dat e => exact h
  | fns n => cases h
  | loc n =>
    by_cases z : n = j0
    · subst z
      have hm' : m[n]? = some .nil := hm
      simp only [look, hm'] at h
      cases h
    · simp only [look, put0_get z] at h ⊢
      exact h
/-- by what a value holds -/
theorem sim_look {f : Sto → R α} {g : D → Sto → R α} (v : Vl) (h1 : ∀ m, look m v = none → f m = .bad) (h2 : ∀ m d, look m v = some d → f m = g d m) (h3 : ∀ d, Sim j0 x (g d)) : Sim j0 x f := by
  intro m hm
  cases q : look m v with
  | none => rw [h1 m q]; trivial
  | some d =>
    have q2 := look_put (x := x) hm q
    rw [h2 m d q, h2 _ d q2]
    exact h3 d m hm
theorem looks_put {m : Sto} (hm : Fz j0 m) : ∀ {vs : List Vl} {ds : List D}, looks m vs = some ds → looks (put0 j0 x m) vs = some ds
  | [], _, h => h
  | v :: r, ds, h => by
    simp only [looks] at h ⊢
    cases q : look m v with
    | none => rw [q] at h; cases h
    | some d =>
      rw [q] at h
      cases q2 : looks m r with
      | none => rw [q2] at h; cases h
      | some es =>
        rw [q2] at h
        rw [look_put hm q, looks_put hm q2]
        exact h
theorem sim_looks {f : Sto → R α} {g : List D → Sto → R α} (vs : List Vl) (h1 : ∀ m, looks m vs = none → f m = .bad) (h2 : ∀ m ds, looks m vs = some ds → f m = g ds m) (h3 : ∀ ds, Sim j0 x (g ds)) : Sim j0 x f := by
  intro m hm
  cases q : looks m vs with
  | none => rw [h1 m q]; trivial
  | some ds =>
    have q2 := looks_put (x := x) hm q
    rw [h2 m ds q, h2 _ ds q2]
    exact h3 ds m hm
theorem set_fz {m : Sto} {n : Nat} {y : MO} (h : n ≠ j0) (hm : Fz j0 m) : Fz j0 (m.set n y) := by
  unfold Fz
  rw [List.getElem?_set_ne h]
  exact hm
theorem set_put {m : Sto} {n : Nat} {y : MO} (h : n ≠ j0) : (put0 j0 x m).set n y = put0 j0 x (m.set n y) := by
  unfold put0
  rw [List.set_comm _ _ h]
theorem put0_len (m : Sto) : (put0 j0 x m).length = m.length := List.length_set ..
theorem sim_cell {α : Type} {f : Sto → R α} {g : List D → Sto → R α} (n : Nat) (h1 : ∀ m : Sto, (∀ xs, m[n]? ≠ some (.lst xs)) → f m = .bad) (h2 : ∀ (m : Sto) xs, m[n]? = some (.lst xs) → f m = g xs m) (h3 : n ≠ j0 → ∀ xs, Sim j0 x (g xs)) : Sim j0 x f := by
  intro m hm
  by_cases z : n = j0
  · subst z
    have hm' : m[n]? = some .nil := hm
    rw [h1 m fun xs e => by rw [hm'] at e; cases e]
    trivial
  · cases q : m[n]? with
    | none =>
      rw [h1 m fun xs e => by rw [q] at e; cases e]
      trivial
    | some o =>
      cases o with
      | nil =>
        rw [h1 m fun xs e => by rw [q] at e; cases e]
        trivial
      | lst xs =>
        rw [h2 m xs q, h2 (put0 j0 x m) xs (by rw [put0_get z]; exact q)]
        exact h3 z xs m hm
      | dK ks ds =>
        rw [h1 m fun xs e => by rw [q] at e; cases e]
        trivial
      | dT ks ds =>
        rw [h1 m fun xs e => by rw [q] at e; cases e]
        trivial
/-- a store's change at another cell -/
theorem sim_set {α : Type} {a : α} {n : Nat} {y : MO} (h : n ≠ j0) : Sim j0 x (fun m => R.ok a (m.set n y)) := fun m hm => ⟨set_fz h hm, List.length_set .., by show R.ok a ((put0 j0 x m).set n y) = _; rw [set_put h]⟩
theorem sim_cellO {α : Type} {f : Sto → R α} {g : MO → Sto → R α} (n : Nat) (h1 : ∀ m : Sto, m[n]? = none → f m = .bad) (h0 : ∀ m : Sto, m[n]? = some .nil → f m = .bad) (h2 : ∀ (m : Sto) o, m[n]? = some o → f m = g o m) (h3 : n ≠ j0 → ∀ o, Sim j0 x (g o)) : Sim j0 x f := by
  intro m hm
  by_cases z : n = j0
  · subst z
    rw [h0 m hm]
    trivial
  · cases q : m[n]? with
    | none =>
      rw [h1 m q]
      trivial
    | some o =>
      rw [h2 m o q, h2 (put0 j0 x m) o (by rw [put0_get z]; exact q)]
      exact h3 z o m hm
theorem sim_loop {f : D → Sto → R (Option D)} (hf : ∀ d, Sim j0 x (f d)) : ∀ (xs acc : List D), Sim j0 x (loopC f xs acc)
  | [], acc => sim_ok acc
  | d :: r, acc => by
    show Sim j0 x (fun m => loopC f (d :: r) acc m)
    unfold loopC
    refine sim_bind (hf d) fun o => ?_
    cases o with
    | none => exact sim_loop hf r acc
    | some y => exact sim_loop hf r (acc ++ [y])
/-- sizes and such: a test that does not look at the store -/
theorem sim_if {p : Prop} [Decidable p] {f g : Sto → R α} (hf : p → Sim j0 x f) (hg : ¬ p → Sim j0 x g) : Sim j0 x (fun m => if p then f m else g m) := by
  by_cases h : p
  · simp only [if_pos h]; exact hf h
  · simp only [if_neg h]; exact hg h
def SimC (j0 : Nat) (x : MO) (C : Cal) : Prop := ∀ k vs, Sim j0 x (C k vs)
def SimA (j0 : Nat) (x : MO) (W : Wd) : Prop := ∀ k s, Sim j0 x (fun m => W.ap k s m)
end
section
variable {x : MO} {W : Wd} {C : Cal} {j0 : Nat}
theorem sim_tell {f : Sto → R Vl} (T : Tl) (hf : Sim j0 x f) : Sim j0 x (fun m => tellR T (f m)) := by
  intro m hm
  have h1 := hf m hm
  dsimp only at h1 ⊢
  cases q : f m with
  | bad => trivial
  | exc y m1 =>
    rw [q] at h1
    obtain ⟨a1, a2, a3⟩ := h1
    rw [a3]
    unfold tellR
    dsimp only
    cases tellC T.cs y with
    | none => trivial
    | some z => exact ⟨a1, a2, rfl⟩
  | ok v m1 =>
    rw [q] at h1
    obtain ⟨a1, a2, a3⟩ := h1
    rw [a3]
    exact ⟨a1, a2, rfl⟩
theorem sim_try {f : Sto → R Vl} (xs : List Xk) (cs : List (Nat × Str)) (s : Slots) (hf : Sim j0 x f) : Sim j0 x (fun m => match f m with
    | .ok _ m => .ok (.nx s) m
    | .exc x m => match tryC xs cs x with
      | some y => .ok (.ret (.vl (.dat (.str y)))) m
      | none => .bad
    | .bad => (.bad : R Out)) := by
  intro m hm
  have h1 := hf m hm
  dsimp only at h1 ⊢
  cases q : f m with
  | bad => trivial
  | exc y m1 =>
    rw [q] at h1
    obtain ⟨a1, a2, a3⟩ := h1
    rw [a3]
    dsimp only
    cases tryC xs cs y with
    | none => trivial
    | some z => exact ⟨a1, a2, rfl⟩
  | ok v m1 =>
    rw [q] at h1
    obtain ⟨a1, a2, a3⟩ := h1
    rw [a3]
    exact ⟨a1, a2, rfl⟩
theorem sim_isK (v : Vl) (f : Nat → Option Bool) : Sim j0 x (fun m => isK v f m) := by
  unfold isK
  split
  · split
    · exact sim_ok _
    · exact sim_bad
  · split
    · exact sim_ok _
    · exact sim_bad
  · exact sim_bad
theorem sim_tells {T : Tl} (hA : SimA j0 x W) (s : Slots) : ∀ ks : List Nat, Sim j0 x (fun m => tellAll T W.ap s ks m)
  | [] => sim_ok _
  | k :: ks => by
    simp only [tellAll]
    exact sim_bind (sim_tell T (hA k s)) fun y => sim_bind (sim_tells hA s ks) fun ys => sim_ok _
mutual
theorem sim_E (hC : SimC j0 x C) (hA : SimA j0 x W) : ∀ (e : Ex) (s : Slots), Sim j0 x (fun m => ev W C e s m)
  | .var i, s => by
    simp only [ev]
    split
    · exact sim_ok _
    · exact sim_ok _
    · exact sim_bad
  | .cst d, s => by simp only [ev]; exact sim_ok _
  | .glo g, s => by
    simp only [ev]
    split
    · exact sim_ok _
    · exact sim_bad
  | .tup es, s => by
    simp only [ev]
    refine sim_bind (sim_Es hC hA es s) fun vs => ?_
    split
    · exact sim_if (fun _ => sim_ok _) fun _ => sim_bad
    · exact sim_bad
  | .lst es, s => by
    simp only [ev]
    refine sim_bind (sim_Es hC hA es s) fun vs => ?_
    split
    · exact sim_if (fun _ => sim_ok _) fun _ => sim_bad
    · exact sim_bad
  | .bin op a b, s => by
    simp only [ev]
    refine sim_bind (sim_E hC hA a s) fun u => sim_bind (sim_E hC hA b s) fun v => ?_
    refine sim_look u (fun m e => by simp only [e]) (fun m d e => by simp only [e]; rfl) fun d => ?_
    refine sim_look v (fun m e => by simp only [e]) (fun m d e => by simp only [e]; rfl) fun e => ?_
    exact sim_bind (sim_ofO _) fun r => sim_ok _
  | .mk0 k e, s => by
    simp only [ev]
    exact sim_bind (sim_E hC hA e s) fun v => sim_if (fun _ => sim_ok _) fun _ => sim_bad
  | .mk1 k e, s => by
    simp only [ev]
    refine sim_bind (sim_E hC hA e s) fun v => ?_
    split
    · exact sim_if (fun _ => sim_ok _) fun _ => sim_bad
    · exact sim_bad
  | .att e f, s => by
    simp only [ev]
    refine sim_bind (sim_E hC hA e s) fun v => ?_
    split
    · split
      · exact sim_if (fun _ => sim_ok _) fun _ => sim_bad
      · exact sim_bad
    · exact sim_bad
  | .isx e c, s => by
    simp only [ev]
    exact sim_bind (sim_E hC hA e s) fun v => sim_isK v _
  | .isb e t, s => by
    simp only [ev]
    exact sim_bind (sim_E hC hA e s) fun v => sim_isK v _
  | .spl e y, s => by
    simp only [ev]
    refine sim_bind (sim_E hC hA e s) fun v => ?_
    split
    · exact sim_if (fun _ => sim_ok _) fun _ => sim_bad
    · exact sim_bad
  | .dget a k e, s => by
    simp only [ev]
    refine sim_bind (sim_E hC hA a s) fun u => ?_
    refine sim_look u (fun m h => by simp only [h]; rfl) (g := fun d m => if isDic (some d) = true then (ev W C k s m).bind fun y m => (ev W C e s m).bind fun z m => match look m u, y, z with
      | some d, .dat g, .dat f => match dgetD d g with
        | some (some r) => .ok (.dat r) m
        | some none => .ok (.dat f) m
        | none => .bad
      | _, _, _ => .bad
    else .bad) (fun m d h => by first | (simp only [h]; done) | (simp only [h]; rfl)) fun d => ?_
    refine sim_if (fun _ => ?_) fun _ => sim_bad
    refine sim_bind (sim_E hC hA k s) fun y => sim_bind (sim_E hC hA e s) fun z => ?_
    refine sim_look u (fun m h => by simp only [h]) (g := fun d m => match y, z with
      | .dat g, .dat f => match dgetD d g with
        | some (some r) => .ok (.dat r) m
        | some none => .ok (.dat f) m
        | none => .bad
      | _, _ => .bad) (fun m d h => by simp only [h]; cases y <;> cases z <;> rfl) fun d => ?_
    split
    · split
      · exact sim_ok _
      · exact sim_ok _
      · exact sim_bad
    · exact sim_bad
  | .pop i, s => by
    simp only [ev]
    split
    · rename_i n e
      refine sim_cell n (g := fun xs m => match xs[xs.length - 1]? with
        | some d => .ok (.dat d) (m.set n (.lst xs.dropLast))
        | none => .bad) (fun m h => ?_) (fun m xs e => by first | (simp only [e]; done) | (simp only [e]; rfl)) fun z xs => ?_
      · split
        · rename_i xs e
          exact absurd e (h xs)
        · rfl
      · split
        · exact sim_set z
        · exact sim_bad
    · exact sim_bad
  | .tups fl es, s => by
    simp only [ev]
    exact sim_bind (sim_Ed hC hA fl es s) fun vs => sim_if (fun _ => sim_ok _) fun _ => sim_bad
  | .ktr e, s => by
    simp only [ev]
    refine sim_bind (sim_E hC hA e s) fun u => ?_
    split
    · exact sim_if (fun _ => sim_ok _) fun _ => sim_bad
    · exact sim_bad
  | .neg a, s => by
    simp only [ev]
    refine sim_bind (sim_E hC hA a s) fun u => ?_
    split
    · exact sim_ok _
    · exact sim_bad
  | .nt a, s => by
    simp only [ev]
    refine sim_bind (sim_E hC hA a s) fun u => ?_
    split
    · exact sim_ok _
    · exact sim_bad
  | .cmp op a b, s => by
    simp only [ev]
    refine sim_bind (sim_E hC hA a s) fun u => sim_bind (sim_E hC hA b s) fun v => ?_
    refine sim_look u (fun m e => by simp only [e]) (fun m d e => by simp only [e]; rfl) fun d => ?_
    refine sim_look v (fun m e => by simp only [e]) (fun m d e => by simp only [e]; rfl) fun e => ?_
    exact sim_bind (sim_ofO _) fun r => sim_ok _
  | .chain op op' a b c, s => by
    simp only [ev]
    refine sim_bind (sim_E hC hA a s) fun u => sim_bind (sim_E hC hA b s) fun v => ?_
    split
    · refine sim_bind (sim_ofO _) fun r => sim_if (fun _ => ?_) fun _ => sim_ok _
      refine sim_bind (sim_E hC hA c s) fun z => ?_
      split
      · exact sim_bind (sim_ofO _) fun r => sim_ok _
      · exact sim_bad
    · exact sim_bad
  | .andl es, s => by simp only [ev]; exact sim_And hC hA es s
  | .orl es, s => by simp only [ev]; exact sim_Or hC hA es s
  | .ite c a b, s => by
    simp only [ev]
    exact sim_bind (sim_T hC hA c s) fun t => sim_if (fun _ => sim_E hC hA a s) fun _ => sim_E hC hA b s
  | .sub a i, s => by
    simp only [ev]
    refine sim_bind (sim_E hC hA a s) fun u => sim_bind (sim_E hC hA i s) fun v => ?_
    cases v with
    | fns n =>
      exact sim_look u (g := fun _ _ => .bad) (fun m e => by simp only [e]) (fun m d e => by simp only [e]) fun d => sim_bad
    | loc n =>
      exact sim_look u (g := fun _ _ => .bad) (fun m e => by simp only [e]) (fun m d e => by simp only [e]) fun d => sim_bad
    | dat e =>
      refine sim_look u (fun m e => by simp only [e]) (fun m d e => by simp only [e]; rfl) fun d => ?_
      exact sim_bind (sim_ofO _) fun r => sim_ok _
  | .slc k a es, s => by
    cases k with
    | both =>
      match es with
      | [lo, hi] =>
        simp only [ev]
        refine sim_bind (sim_E hC hA a s) fun u => sim_bind (sim_E hC hA lo s) fun v => ?_
        split
        · refine sim_bind (sim_E hC hA hi s) fun w => ?_
          split
          · refine sim_look u (fun m e => by simp only [e]) (fun m d e => by simp only [e]; rfl) fun d => ?_
            exact sim_bind (sim_ofO _) fun r => sim_ok _
          · exact sim_bad
        · exact sim_bad
      | [] => simp only [ev]; exact sim_bad
      | [_] => simp only [ev]; exact sim_bad
      | _ :: _ :: _ :: _ => simp only [ev]; exact sim_bad
    | lo =>
      match es with
      | [lo] =>
        simp only [ev]
        refine sim_bind (sim_E hC hA a s) fun u => sim_bind (sim_E hC hA lo s) fun v => ?_
        split
        · refine sim_look u (fun m e => by simp only [e]) (fun m d e => by simp only [e]; rfl) fun d => ?_
          exact sim_bind (sim_ofO _) fun r => sim_ok _
        · exact sim_bad
      | [] => simp only [ev]; exact sim_bad
      | _ :: _ :: _ => simp only [ev]; exact sim_bad
    | hi =>
      match es with
      | [hi] =>
        simp only [ev]
        refine sim_bind (sim_E hC hA a s) fun u => sim_bind (sim_E hC hA hi s) fun v => ?_
        split
        · refine sim_look u (fun m e => by simp only [e]) (fun m d e => by simp only [e]; rfl) fun d => ?_
          exact sim_bind (sim_ofO _) fun r => sim_ok _
        · exact sim_bad
      | [] => simp only [ev]; exact sim_bad
      | _ :: _ :: _ => simp only [ev]; exact sim_bad
    | no =>
      match es with
      | [] =>
        simp only [ev]
        refine sim_bind (sim_E hC hA a s) fun u => ?_
        refine sim_look u (fun m e => by simp only [e]) (fun m d e => by simp only [e]; rfl) fun d => ?_
        exact sim_bind (sim_ofO _) fun r => sim_ok _
      | _ :: _ => simp only [ev]; exact sim_bad
  | .rev a, s => by
    simp only [ev]
    refine sim_bind (sim_E hC hA a s) fun u => ?_
    refine sim_look u (fun m e => by simp only [e]) (fun m d e => by simp only [e]; rfl) fun d => ?_
    exact sim_bind (sim_ofO _) fun r => sim_ok _
  | .call k es, s => by
    simp only [ev]
    refine sim_bind (sim_Es hC hA es s) fun vs => sim_bind (hC k vs) fun r => ?_
    split
    · exact sim_ok _
    · exact sim_ok _
  | .blt b es, s => by
    simp only [ev]
    refine sim_bind (sim_Es hC hA es s) fun vs => ?_
    refine sim_looks vs (fun m e => by simp only [e]) (fun m d e => by simp only [e]; rfl) fun d => ?_
    exact sim_bind (sim_ofO _) fun r => sim_ok _
  | .isi a t, s => by
    simp only [ev]
    refine sim_bind (sim_E hC hA a s) fun u => ?_
    refine sim_look u (fun m e => by simp only [e]) (fun m d e => by simp only [e]; rfl) fun d => ?_
    exact sim_bind (sim_ofO _) fun r => sim_ok _
  | .lsts fl es, s => by
    simp only [ev]
    exact sim_bind (sim_Ed hC hA fl es s) fun ds => sim_if (fun _ => sim_ok _) fun _ => sim_bad
  | .dct kvs, s => by simp only [ev]; exact sim_ok _
  | .told t e, s => by
    simp only [ev]
    cases W.tl[t]? with
    | none => exact sim_bad
    | some T =>
      have h := sim_E hC hA e s
      intro m hm
      have h1 := h m hm
      dsimp only at h1 ⊢
      cases q : ev W C e s m with
      | bad => trivial
      | exc y m1 =>
        rw [q] at h1
        obtain ⟨a1, a2, a3⟩ := h1
        rw [a3]
        dsimp only
        cases tellC T.cs y with
        | none => trivial
        | some z => exact ⟨a1, a2, rfl⟩
      | ok v m1 =>
        rw [q] at h1
        obtain ⟨a1, a2, a3⟩ := h1
        rw [a3]
        exact ⟨a1, a2, rfl⟩
  | .tolds t i, s => by
    simp only [ev]
    split
    · exact sim_bind (sim_tells hA _ _) fun ys => sim_ok _
    · exact sim_bad
  | .comp tg ik src ifs elt, s => by
    have h : ∀ m, ev W C (.comp tg ik src ifs elt) s m = (evC W C tg ik src ifs elt s m).bind fun ds m => .ok (.dat (.lst ds)) m := fun m => ev_comp W C tg ik src ifs elt s m
    simp only [h]
    refine sim_bind ?_ fun ds => sim_ok _
    unfold evC
    refine sim_bind (sim_Es hC hA src s) fun vs => ?_
    split
    · split
      · refine sim_if (fun _ => ?_) fun _ => sim_bad
        refine sim_loop (fun d => ?_) _ _
        show Sim j0 x (fun m => turnC W C tg ifs elt s d m)
        unfold turnC
        split
        · rename_i s' _
          refine sim_bind (sim_noX (sim_Ifs hC hA ifs s')) fun b => sim_if (fun _ => ?_) fun _ => sim_ok _
          refine sim_bind (sim_noX (sim_E hC hA elt s')) fun v => ?_
          split
          · exact sim_ok _
          · exact sim_bad
        · exact sim_bad
      · exact sim_bad
    · exact sim_bad
theorem sim_Ed (hC : SimC j0 x C) (hA : SimA j0 x W) : ∀ (fl : List Bool) (es : List Ex) (s : Slots), Sim j0 x (fun m => evd W C fl es s m)
  | [], [], s => by simp only [evd]; exact sim_ok _
  | true :: fl, e :: es, s => by
    simp only [evd]
    refine sim_bind (sim_E hC hA e s) fun u => ?_
    refine sim_look u (fun m e => by simp only [e, Option.bind_none]) (fun m d e => by simp only [e, Option.bind_some]; rfl) fun d => ?_
    cases itemsD d with
    | none => exact sim_bad
    | some xs => exact sim_bind (sim_Ed hC hA fl es s) fun ds => sim_ok _
  | false :: fl, e :: es, s => by
    simp only [evd]
    refine sim_bind (sim_E hC hA e s) fun u => ?_
    split
    · exact sim_bind (sim_Ed hC hA fl es s) fun ds => sim_ok _
    · exact sim_bad
  | [], _ :: _, s => by simp only [evd]; exact sim_bad
  | true :: _, [], s => by simp only [evd]; exact sim_bad
  | false :: _, [], s => by simp only [evd]; exact sim_bad
theorem sim_Es (hC : SimC j0 x C) (hA : SimA j0 x W) : ∀ (es : List Ex) (s : Slots), Sim j0 x (fun m => evs W C es s m)
  | [], s => by simp only [evs]; exact sim_ok _
  | e :: es, s => by
    simp only [evs]
    exact sim_bind (sim_E hC hA e s) fun v => sim_bind (sim_Es hC hA es s) fun vs => sim_ok _
theorem sim_And (hC : SimC j0 x C) (hA : SimA j0 x W) : ∀ (es : List Ex) (s : Slots), Sim j0 x (fun m => evAnd W C es s m)
  | [], s => by simp only [evAnd]; exact sim_bad
  | [e], s => by simp only [evAnd]; exact sim_E hC hA e s
  | e :: e' :: es, s => by
    simp only [evAnd]
    refine sim_bind (sim_E hC hA e s) fun u => ?_
    split
    · exact sim_And hC hA (e' :: es) s
    · exact sim_ok _
    · exact sim_bad
theorem sim_Or (hC : SimC j0 x C) (hA : SimA j0 x W) : ∀ (es : List Ex) (s : Slots), Sim j0 x (fun m => evOr W C es s m)
  | [], s => by simp only [evOr]; exact sim_bad
  | [e], s => by simp only [evOr]; exact sim_E hC hA e s
  | e :: e' :: es, s => by
    simp only [evOr]
    refine sim_bind (sim_E hC hA e s) fun u => ?_
    split
    · exact sim_Or hC hA (e' :: es) s
    · exact sim_ok _
    · exact sim_bad
theorem sim_Ifs (hC : SimC j0 x C) (hA : SimA j0 x W) : ∀ (ts : List Tx) (s : Slots), Sim j0 x (fun m => evIfs W C ts s m)
  | [], s => by simp only [evIfs]; exact sim_ok _
  | [c], s => by simp only [evIfs]; exact sim_T hC hA c s
  | _ :: _ :: _, s => by simp only [evIfs]; exact sim_bad
theorem sim_T (hC : SimC j0 x C) (hA : SimA j0 x W) : ∀ (t : Tx) (s : Slots), Sim j0 x (fun m => evT W C t s m)
  | .val e, s => by
    simp only [evT]
    refine sim_bind (sim_E hC hA e s) fun u => ?_
    refine sim_look u (fun m e => by simp only [e, Option.bind_none]) (fun m d e => by simp only [e, Option.bind_some]; rfl) fun d => ?_
    cases truD d with
    | none => exact sim_bad
    | some b => exact sim_ok _
  | .cmp op a b, s => by
    simp only [evT]
    refine sim_bind (sim_E hC hA a s) fun u => sim_bind (sim_E hC hA b s) fun v => ?_
    refine sim_look u (fun m e => by simp only [e]) (fun m d e => by simp only [e]; rfl) fun d => ?_
    refine sim_look v (fun m e => by simp only [e]) (fun m d e => by simp only [e]; rfl) fun e => ?_
    exact sim_ofO _
  | .chain op op' a b c, s => by
    simp only [evT]
    refine sim_bind (sim_E hC hA a s) fun u => sim_bind (sim_E hC hA b s) fun v => ?_
    split
    · refine sim_bind (sim_ofO _) fun r => sim_if (fun _ => ?_) fun _ => sim_ok _
      refine sim_bind (sim_E hC hA c s) fun z => ?_
      split
      · exact sim_ofO _
      · exact sim_bad
    · exact sim_bad
  | .nt a, s => by
    simp only [evT]
    exact sim_bind (sim_T hC hA a s) fun u => sim_ok _
  | .andl ts, s => by simp only [evT]; exact sim_TAnd hC hA ts s
  | .orl ts, s => by simp only [evT]; exact sim_TOr hC hA ts s
theorem sim_TAnd (hC : SimC j0 x C) (hA : SimA j0 x W) : ∀ (ts : List Tx) (s : Slots), Sim j0 x (fun m => evTAnd W C ts s m)
  | [], s => by simp only [evTAnd]; exact sim_bad
  | [t], s => by simp only [evTAnd]; exact sim_T hC hA t s
  | t :: t' :: ts, s => by
    simp only [evTAnd]
    exact sim_bind (sim_T hC hA t s) fun u => sim_if (fun _ => sim_TAnd hC hA (t' :: ts) s) fun _ => sim_ok _
theorem sim_TOr (hC : SimC j0 x C) (hA : SimA j0 x W) : ∀ (ts : List Tx) (s : Slots), Sim j0 x (fun m => evTOr W C ts s m)
  | [], s => by simp only [evTOr]; exact sim_bad
  | [t], s => by simp only [evTOr]; exact sim_T hC hA t s
  | t :: t' :: ts, s => by
    simp only [evTOr]
    exact sim_bind (sim_T hC hA t s) fun u => sim_if (fun _ => sim_ok _) fun _ => sim_TOr hC hA (t' :: ts) s
end
/-! statements -/
theorem sim_C (hC : SimC j0 x C) (hA : SimA j0 x W) (tg : Tg) (ik : IK) (src : List Ex) (ifs : List Tx) (elt : Ex) (s : Slots) : Sim j0 x (fun m => evC W C tg ik src ifs elt s m) := by
  unfold evC
  refine sim_bind (sim_Es hC hA src s) fun vs => ?_
  split
  · split
    · refine sim_if (fun _ => ?_) fun _ => sim_bad
      refine sim_loop (fun d => ?_) _ _
      show Sim j0 x (fun m => turnC W C tg ifs elt s d m)
      unfold turnC
      split
      · rename_i s' _
        refine sim_bind (sim_noX (sim_Ifs hC hA ifs s')) fun b => sim_if (fun _ => ?_) fun _ => sim_ok _
        refine sim_bind (sim_noX (sim_E hC hA elt s')) fun v => ?_
        split
        · exact sim_ok _
        · exact sim_bad
      · exact sim_bad
    · exact sim_bad
  · exact sim_bad
theorem sim_N (hC : SimC j0 x C) (hA : SimA j0 x W) (e : Ex) (s : Slots) : Sim j0 x (fun m => evN W C e s m) := by
  unfold evN
  split
  · rename_i es
    refine sim_bind (sim_Es hC hA es s) fun vs => ?_
    split
    · exact sim_if (fun _ => sim_ok _) fun _ => sim_bad
    · exact sim_bad
  · exact sim_C hC hA _ _ _ _ _ s
  · rename_i a b
    refine sim_bind (sim_E hC hA a s) fun u => sim_bind (sim_E hC hA b s) fun v => ?_
    refine sim_look u (g := fun d m => match d, v with
      | .lst xs, .dat (.int j) => if -16777216 < j && j < 16777216 && szOk (xs.length * j.toNat) then .ok (times j.toNat xs) m else .bad
      | _, _ => .bad) (fun m e => by simp only [e]) (fun m d e => by
        simp only [e]
        cases d <;> first | rfl | (cases v with | loc n => rfl | fns n => rfl | dat z => cases z <;> rfl)) fun d => ?_
    split
    · exact sim_if (fun _ => sim_ok _) fun _ => sim_bad
    · exact sim_bad
  · rename_i a b
    refine sim_bind (sim_E hC hA a s) fun u => sim_bind (sim_E hC hA b s) fun v => ?_
    refine sim_look u (g := fun d m => match d, look m v with
      | .lst xs, some (.lst ys) => if szOk (xs.length + ys.length) then .ok (xs ++ ys) m else .bad
      | _, _ => .bad) (fun m e => by simp only [e]) (fun m d e => by
        simp only [e]
        cases d <;> first | rfl | (generalize look m v = z; cases z with | none => rfl | some y => cases y <;> rfl)) fun d => ?_
    refine sim_look v (g := fun d' m => match d, d' with
      | .lst xs, .lst ys => if szOk (xs.length + ys.length) then .ok (xs ++ ys) m else .bad
      | _, _ => .bad) (fun m e => by cases d <;> simp only [e]) (fun m d' e => by
        cases d <;> cases d' <;> simp only [e]) fun d' => ?_
    split
    · exact sim_if (fun _ => sim_ok _) fun _ => sim_bad
    · exact sim_bad
  · rename_i a
    refine sim_bind (sim_E hC hA a s) fun u => ?_
    refine sim_look u (g := fun d m => match d with
      | .lst xs => .ok xs m
      | .tup xs => .ok xs m
      | _ => .bad) (fun m e => by simp only [e]) (fun m d e => by
        simp only [e]
        cases d <;> rfl) fun d => ?_
    split
    · exact sim_ok _
    · exact sim_ok _
    · exact sim_bad
  · rename_i k es
    refine sim_bind (sim_Es hC hA es s) fun vs => sim_bind (hC k vs) fun r => ?_
    split
    · exact sim_ok _
    · exact sim_bad
  · exact sim_bad
theorem sim_D (hC : SimC j0 x C) (hA : SimA j0 x W) (q : DX) (s : Slots) : Sim j0 x (fun m => evD W C q s m) := by
  cases q with
  | k0 => exact sim_ok _
  | t0 => exact sim_ok _
  | lit ks es =>
    simp only [evD]
    refine sim_bind (sim_Es hC hA es s) fun vs => ?_
    split
    · exact sim_if (fun _ => sim_ok _) fun _ => sim_bad
    · exact sim_bad
  | t1 k v =>
    simp only [evD]
    refine sim_bind (sim_E hC hA k s) fun y => sim_bind (sim_E hC hA v s) fun z => ?_
    split
    · exact sim_ok _
    · exact sim_bad
theorem sim_P (hC : SimC j0 x C) (hA : SimA j0 x W) : ∀ (ps : List PX) (s : Slots), Sim j0 x (fun m => evP W C ps s m)
  | [], s => sim_ok _
  | .vl e :: r, s => by
    simp only [evP]
    refine sim_bind (sim_E hC hA e s) fun v => ?_
    split
    · exact sim_bind (sim_P hC hA r s) fun ps => sim_ok _
    · exact sim_bad
  | .nl c e :: r, s => by
    simp only [evP]
    exact sim_bind (sim_N hC hA e s) fun xs => sim_bind (sim_P hC hA r s) fun ps => sim_ok _
  | .nd c t :: r, s => by
    simp only [evP]
    exact sim_bind (sim_P hC hA r s) fun ps => sim_ok _
theorem parP_put {b : Nat} (hb : j0 < b) : ∀ (ts : List Nat) (ps : List PV) (s : Slots) (m : Sto) (s' : Slots) (m' : Sto), parP b ts ps s m = some (s', m') → Fz j0 m → Fz j0 m' ∧ m'.length = m.length ∧ parP b ts ps s (put0 j0 x m) = some (s', put0 j0 x m')
  | [], [], s, m, s', m', h, hm => by cases h; exact ⟨hm, rfl, rfl⟩
  | [], .vl _ :: _, s, m, s', m', h, hm => by cases h
  | [], .nw _ _ :: _, s, m, s', m', h, hm => by cases h
  | _ :: _, [], s, m, s', m', h, hm => by cases h
  | i :: is, .vl d :: ps, s, m, s', m', h, hm => by
    simp only [parP] at h ⊢
    split at h
    · rename_i hi
      rw [if_pos hi]
      exact parP_put hb is ps _ m s' m' h hm
    · cases h
  | i :: is, .nw c o :: ps, s, m, s', m', h, hm => by
    simp only [parP] at h ⊢
    rw [put0_len]
    split at h
    · rename_i hi
      rw [if_pos hi, set_put (show b + c ≠ j0 by omega)]
      obtain ⟨h1, h2, h3⟩ := parP_put hb is ps _ _ s' m' h (set_fz (show b + c ≠ j0 by omega) hm)
      exact ⟨h1, h2.trans (List.length_set ..), h3⟩
    · cases h
theorem sim_whl {f : Slots → Sto → R (Out × Bool)} (hf : ∀ s, Sim j0 x (f s)) : ∀ (n : Nat) (s : Slots), Sim j0 x (fun m => whlF n f s m)
  | 0, s => by simp only [whlF]; exact sim_bad
  | n + 1, s => by
    simp only [whlF]
    refine sim_bind (hf s) fun o => ?_
    split
    · exact sim_whl hf n _
    · exact sim_ok _
    · exact sim_ok _
theorem sim_for {f : D → Slots → Sto → R Out} (hf : ∀ d s, Sim j0 x (f d s)) : ∀ (xs : List D) (s : Slots), Sim j0 x (fun m => forF f xs s m)
  | [], s => by simp only [forF]; exact sim_ok _
  | d :: r, s => by
    simp only [forF]
    refine sim_bind (hf d s) fun o => ?_
    split
    · exact sim_for hf r _
    · exact sim_for hf r _
    · exact sim_ok _
    · exact sim_ok _
mutual
theorem sim_Ss (hC : SimC j0 x C) (hA : SimA j0 x W) {b : Nat} (hb : j0 < b) : ∀ (l : List EV.St) (s : Slots), Sim j0 x (fun m => exs W C b l s m)
  | [], s => by simp only [exs]; exact sim_ok _
  | y :: r, s => by
    simp only [exs]
    refine sim_bind (sim_S hC hA hb y s) fun o => ?_
    cases o with
    | nx s' => exact sim_Ss hC hA hb r s'
    | ret v => exact sim_ok _
    | brk s' => exact sim_ok _
    | ctn s' => exact sim_ok _
theorem sim_S (hC : SimC j0 x C) (hA : SimA j0 x W) {b : Nat} (hb : j0 < b) : ∀ (y : EV.St) (s : Slots), Sim j0 x (fun m => exS W C b y s m)
  | .set (.nm i) e, s => by
    simp only [exS]
    exact sim_bind (sim_E hC hA e s) fun v => sim_if (fun _ => sim_ok _) fun _ => sim_bad
  | .set (.tp ts) e, s => by
    simp only [exS]
    refine sim_bind (sim_E hC hA e s) fun v => ?_
    split
    · exact sim_bind (sim_ofO _) fun s' => sim_ok _
    · exact sim_bad
  | .par ts es, s => by
    simp only [exS]
    exact sim_bind (sim_Es hC hA es s) fun vs => sim_bind (sim_ofO _) fun s' => sim_ok _
  | .newl i c e, s => by
    simp only [exS]
    refine sim_bind (sim_N hC hA e s) fun xs => ?_
    intro m hm
    dsimp only
    rw [put0_len]
    by_cases q : (decide (i < s.length) && decide (b + c < m.length) && freeOf (b + c) i 0 s) = true
    · rw [if_pos q, if_pos q]
      exact sim_set (show b + c ≠ j0 by omega) m hm
    · rw [if_neg q, if_neg q]
      trivial
  | .newd i c q, s => by
    simp only [exS]
    refine sim_bind (sim_D hC hA q s) fun o => ?_
    intro m hm
    dsimp only
    rw [put0_len]
    by_cases q : (decide (i < s.length) && decide (b + c < m.length) && freeOf (b + c) i 0 s) = true
    · rw [if_pos q, if_pos q]
      exact sim_set (show b + c ≠ j0 by omega) m hm
    · rw [if_neg q, if_neg q]
      trivial
  | .pnw ts ps, s => by
    simp only [exS]
    refine sim_bind (sim_P hC hA ps s) fun vs => ?_
    intro m hm
    dsimp only
    cases q : parP b ts vs s m with
    | none => trivial
    | some p =>
      obtain ⟨h1, h2, h3⟩ := parP_put hb ts vs s m p.1 p.2 q hm
      rw [h3]
      exact ⟨h1, h2, rfl⟩
  | .sset i ix e, s => by
    simp only [exS]
    cases locAt s i with
    | none => exact sim_bad
    | some n =>
      refine sim_bind (sim_E hC hA e s) fun v => sim_bind (sim_E hC hA ix s) fun k => ?_
      split
      · rename_i d j
        refine sim_cellO n (g := fun o m => match ssetO o j d with
          | some o' => .ok (.nx s) (m.set n o')
          | none => .bad) (fun m h => by first | (simp only [h]; done) | (simp only [h]; rfl)) (fun m h => by first | (simp only [h]; done) | (simp only [h]; rfl)) (fun m o e => by first | (simp only [e]; done) | (simp only [e]; rfl)) fun z o => ?_
        split
        · exact sim_set z
        · exact sim_bad
      · exact sim_bad
  | .trx e cs, s => by
    simp only [exS]
    exact sim_try W.xk cs s (sim_E hC hA e s)
  | .upd i ks es, s => by
    simp only [exS]
    cases locAt s i with
    | none => exact sim_bad
    | some n =>
      refine sim_cellO n (g := fun o m => match o with
        | .dK _ _ => (evs W C es s m).bind fun vs m => match datsOf vs, m[n]? with
          | some ds, some (.dK KS DS) => if litOk ks ds && decide (KS.length < 1000) then .ok (.nx s) (m.set n (.dK (updM KS DS (litM ks ds).1 (litM ks ds).2).1 (updM KS DS (litM ks ds).1 (litM ks ds).2).2)) else .bad
          | _, _ => .bad
        | _ => .bad) (fun m h => if_neg (by simp [isDk, h])) (fun m h => if_neg (by simp [isDk, h])) (fun m o e => by
          cases o with
          | dK KS DS => exact if_pos (by simp [isDk, e])
          | nil => exact if_neg (by simp [isDk, e])
          | lst _ => exact if_neg (by simp [isDk, e])
          | dT _ _ => exact if_neg (by simp [isDk, e])) fun z o => ?_
      split
      · refine sim_bind (sim_Es hC hA es s) fun vs => ?_
        cases datsOf vs with
        | none => exact sim_bad
        | some ds =>
          refine sim_cellO n (g := fun o m => match o with
            | .dK KS DS => if litOk ks ds && decide (KS.length < 1000) then .ok (.nx s) (m.set n (.dK (updM KS DS (litM ks ds).1 (litM ks ds).2).1 (updM KS DS (litM ks ds).1 (litM ks ds).2).2)) else .bad
            | _ => .bad) (fun m h => by simp [h]) (fun m h => by simp [h]) (fun m o e => by cases o <;> simp [e]) fun z o => ?_
          split
          · exact sim_if (fun _ => sim_set z) fun _ => sim_bad
          · exact sim_bad
      · exact sim_bad
  | .app i e, s => by
    simp only [exS]
    cases locAt s i with
    | none => exact sim_bad
    | some n =>
      refine sim_cell n (g := fun _ m => (ev W C e s m).bind fun v m => match v with
        | .dat d => match m[n]? with
          | some (.lst xs) => if szOk (xs.length + 1) then .ok (.nx s) (m.set n (.lst (xs ++ [d]))) else .bad
          | _ => .bad
        | _ => .bad) (fun m h => ?_) (fun m xs e => by
          dsimp only
          rw [if_pos (by simp only [isLs, e])]
          try rfl) fun z xs => ?_
      · dsimp only
        rw [if_neg]
        unfold isLs
        split
        · rename_i xs e
          exact absurd e (h xs)
        · simp
      · refine sim_bind (sim_E hC hA e s) fun v => ?_
        split
        · rename_i d
          refine sim_cell n (g := fun xs m => if szOk (xs.length + 1) then .ok (.nx s) (m.set n (.lst (xs ++ [d]))) else .bad) (fun m h => ?_) (fun m xs e => by simp only [e]) fun z xs => sim_if (fun _ => sim_set z) fun _ => sim_bad
          split
          · rename_i xs e
            exact absurd e (h xs)
          · rfl
        · exact sim_bad
  | .frz i, s => by
    simp only [exS]
    cases locAt s i with
    | none => exact sim_ok _
    | some n =>
      refine sim_if (fun _ => ?_) fun _ => sim_bad
      refine sim_cellO n (g := fun o m => match moD o with
        | some d => .ok (.nx (frzS n d s)) (m.set n .nil)
        | none => .bad) (fun m h => by first | (simp only [h]; done) | (simp only [h]; rfl)) (fun m h => by first | (simp only [h]; done) | (simp only [h]; rfl)) (fun m o e => by first | (simp only [e]; done) | (simp only [e]; rfl)) fun z o => ?_
      split
      · exact sim_set z
      · exact sim_bad
  | .aug i op e, s => by
    simp only [exS]
    split
    · refine sim_bind (sim_E hC hA e s) fun v => ?_
      split
      · exact sim_ok _
      · exact sim_ok _
      · exact sim_bad
    · exact sim_bad
  | .ife c y z, s => by
    simp only [exS]
    exact sim_bind (sim_T hC hA c s) fun t => sim_if (fun _ => sim_Ss hC hA hb y s) fun _ => sim_Ss hC hA hb z s
  | .whl c y, s => by
    simp only [exS]
    refine sim_whl (fun s => ?_) whlMost s
    refine sim_bind (sim_T hC hA c s) fun t => sim_if (fun _ => ?_) fun _ => sim_ok _
    refine sim_bind (sim_Ss hC hA hb y s) fun o => ?_
    cases o <;> exact sim_ok _
  | .fort tg ik src y, s => by
    simp only [exS]
    refine sim_bind (sim_Es hC hA src s) fun vs => ?_
    split
    · split
      · refine sim_if (fun _ => sim_for (fun d s => ?_) _ s) fun _ => sim_bad
        split
        · exact sim_Ss hC hA hb y _
        · exact sim_bad
      · exact sim_bad
    · exact sim_bad
  | .ret e, s => by
    simp only [exS]
    exact sim_bind (sim_E hC hA e s) fun v => sim_ok _
  | .retn, s => by simp only [exS]; exact sim_ok _
  | .retf e, s => by
    simp only [exS]
    exact sim_bind (sim_N hC hA e s) fun v => sim_ok _
  | .brk, s => by simp only [exS]; exact sim_ok _
  | .ctn, s => by simp only [exS]; exact sim_ok _
  | .pas, s => by simp only [exS]; exact sim_ok _
  | .exp e, s => by
    simp only [exS]
    exact sim_bind (sim_E hC hA e s) fun v => sim_ok _
  | .never, s => by simp only [exS]; exact sim_bad
  | .grp i gs, s => by
    simp only [exS]
    split
    · exact sim_if (fun _ => sim_ok _) fun _ => sim_bad
    · exact sim_bad
  | .rse k, s => by
    simp only [exS]
    exact sim_if (fun _ => sim_exc _) fun _ => sim_bad
  | .rsk k e, s => by
    simp only [exS]
    refine sim_bind (sim_E hC hA e s) fun v => ?_
    split
    · exact sim_if (fun _ => sim_exc _) fun _ => sim_bad
    · exact sim_bad
end
theorem fz_len {m : Sto} (h : Fz j0 m) : j0 < m.length := by
  have h' : m[j0]? = some .nil := h
  exact (List.getElem?_eq_some_iff.mp h').1
theorem fz_app {m l : Sto} (h : Fz j0 m) : Fz j0 (m ++ l) := by
  unfold Fz
  rw [List.getElem?_append_left (fz_len h)]
  exact h
theorem put_app {m l : Sto} (h : Fz j0 m) : put0 j0 x m ++ l = put0 j0 x (m ++ l) := by
  unfold put0
  rw [List.set_append_left _ _ (fz_len h)]
theorem fz_take {m : Sto} {k : Nat} (h : Fz j0 m) (hk : j0 < k) : Fz j0 (m.take k) := by
  unfold Fz
  rw [List.getElem?_take, if_pos hk]
  exact h
theorem put_take {m : Sto} {k : Nat} : (put0 j0 x m).take k = put0 j0 x (m.take k) := by
  unfold put0
  rw [List.take_set]
theorem sim_run (hC : SimC j0 x C) (hA : SimA j0 x W) (f : Fn) (vs : List Vl) : Sim j0 x (fun m => runF W C f vs m) := by
  intro m hm
  have hA2 : SimA j0 x (wdOf W C f) := fun k s => by
    unfold wdOf
    split
    · exact hA k s
    · show Sim j0 x (fun m => apOf W C f.lms k s m)
      unfold apOf
      split
      · exact sim_E hC hA _ s
      · exact sim_bad
  have h := sim_Ss (W := wdOf W C f) hC hA2 (b := m.length) (fz_len hm) f.body ((vs ++ (f.dfl.drop (vs.length + f.dfl.length - f.np)).map Vl.dat).map some ++ List.replicate (f.ns - f.np) none) (m ++ List.replicate f.nc .nil) (fz_app hm)
  dsimp only at h ⊢
  unfold runF
  dsimp only
  by_cases q : (vs ++ (f.dfl.drop (vs.length + f.dfl.length - f.np)).map Vl.dat).length = f.np
  · rw [if_pos q, if_pos q, put0_len, put_app hm]
    cases q2 : exs (wdOf W C f) C m.length f.body ((vs ++ (f.dfl.drop (vs.length + f.dfl.length - f.np)).map Vl.dat).map some ++ List.replicate (f.ns - f.np) none) (m ++ List.replicate f.nc .nil) with
    | bad => trivial
    | exc e m1 =>
      rw [q2] at h
      obtain ⟨a1, a2, a3⟩ := h
      rw [a3]
      refine ⟨fz_take a1 (fz_len hm), ?_, by show R.exc e ((put0 j0 x m1).take m.length) = _; rw [put_take]⟩
      rw [List.length_take, a2, List.length_append]
      omega
    | ok o m1 =>
      rw [q2] at h
      obtain ⟨a1, a2, a3⟩ := h
      rw [a3]
      have lt : (m1.take m.length).length = m.length := by
        rw [List.length_take, a2, List.length_append]
        omega
      cases o with
      | nx s' => exact ⟨fz_take a1 (fz_len hm), lt, by show R.ok (RV.vl (Vl.dat D.non)) ((put0 j0 x m1).take m.length) = _; rw [put_take]⟩
      | brk s' => trivial
      | ctn s' => trivial
      | ret v =>
        dsimp only
        by_cases q3 : outOk m.length v = true
        · rw [if_pos q3, if_pos q3]
          exact ⟨fz_take a1 (fz_len hm), lt, by rw [put_take]⟩
        · rw [if_neg q3]
          trivial
  · rw [if_neg q]
    trivial
end
theorem sim_call {j0 : Nat} {x : MO} {W : Wd} (hA : SimA j0 x W) : ∀ n : Nat, SimC j0 x (callF W n)
  | 0, k, vs => by
    show Sim j0 x (fun m => callF W 0 k vs m)
    simp only [callF]
    exact sim_bad
  | n + 1, k, vs => by
    show Sim j0 x (fun m => callF W (n + 1) k vs m)
    simp only [callF]
    split
    · exact sim_run (sim_call hA n) hA _ vs
    · exact sim_bad
theorem simA_bad {j0 : Nat} {x : MO} {W : Wd} (h : W.ap = apBad) : SimA j0 x W := fun k s => by
  rw [h]
  exact sim_bad
theorem simA_of {j0 : Nat} {x : MO} {W : Wd} (h : W.ap = apBad) {n : Nat} {f : Fn} : SimA j0 x (wdOf W (callF W n) f) := fun k s => by
  unfold wdOf
  split
  · exact simA_bad h k s
  · show Sim j0 x (fun m => apOf W (callF W n) f.lms k s m)
    unfold apOf
    split
    · exact sim_E (sim_call (simA_bad h) n) (simA_bad h) _ s
    · exact sim_bad
/-- a block over an empty first cell runs alike over any -/
theorem sim_ret {W W1 : Wd} {n b : Nat} (hW : W.ap = apBad) (x : MO) (hA : SimA 0 x W1) (hb : 0 < b) {l : List EV.St} {s : Slots} {r : Sto} {v : RV} {m1 : Sto} (h : exs W1 (callF W n) b l s (.nil :: r) = .ok (.ret v) m1) :
    ∃ m2 : Sto, m1 = .nil :: m2 ∧ m2.length = r.length ∧ exs W1 (callF W n) b l s (x :: r) = .ok (.ret v) (x :: m2) := by
  have q := sim_Ss (W := W1) (x := x) (j0 := 0) (sim_call (j0 := 0) (x := x) (W := W) (simA_bad hW) n) hA hb l s (.nil :: r) rfl
  dsimp only at q
  rw [h] at q
  obtain ⟨a1, a2, a3⟩ := q
  cases m1 with
  | nil => cases a1
  | cons y m2 =>
    have e : y = .nil := by
      have a1' : (y :: m2)[0]? = some .nil := a1
      simpa using a1'
    subst e
    exact ⟨m2, rfl, by simpa using a2, a3⟩
theorem sim_true {W : Wd} {n b : Nat} (hW : W.ap = apBad) (hb : 0 < b) {l : List EV.St} {s : Slots} {r : Sto} {v : RV} {m1 : Sto} (x : MO) (h : exs W (callF W n) b l s (.nil :: r) = .ok (.ret v) m1) :
    ∃ m2 : Sto, m1 = .nil :: m2 ∧ m2.length = r.length ∧ exs W (callF W n) b l s (x :: r) = .ok (.ret v) (x :: m2) := sim_ret hW x (simA_bad hW) hb h
/-- a block that goes on -/
theorem sim_nx {W W1 : Wd} {n b : Nat} (hW : W.ap = apBad) (x : MO) (hA : SimA 0 x W1) (hb : 0 < b) {l : List EV.St} {s s' : Slots} {r : Sto} {m1 : Sto} (h : exs W1 (callF W n) b l s (.nil :: r) = .ok (.nx s') m1) :
    ∃ m2 : Sto, m1 = .nil :: m2 ∧ m2.length = r.length ∧ exs W1 (callF W n) b l s (x :: r) = .ok (.nx s') (x :: m2) := by
  have q := sim_Ss (W := W1) (x := x) (j0 := 0) (sim_call (j0 := 0) (x := x) (W := W) (simA_bad hW) n) hA hb l s (.nil :: r) rfl
  dsimp only at q
  rw [h] at q
  obtain ⟨a1, a2, a3⟩ := q
  cases m1 with
  | nil => cases a1
  | cons y m2 =>
    have e : y = .nil := by
      have a1' : (y :: m2)[0]? = some .nil := a1
      simpa using a1'
    subst e
    exact ⟨m2, rfl, by simpa using a2, a3⟩
end EV

set_option Elab.async false
set_option linter.all false
set_option maxRecDepth 100000
set_option maxHeartbeats 2000000
set_option exponentiation.threshold 10000
/-! EV, part Z: the dice of a law, and its walk over the script, for any table. -/
namespace DICE
open PySem EV
/-! ### small numbers -/
def Sm (k : Nat) (x : Int) : Prop := x.natAbs < 2 ^ k
theorem log_lt {k : Nat} {x : Int} (h : Sm k x) (hk : 0 < k) : x.natAbs.log2 < k := by
  by_cases z : x.natAbs = 0
  · rw [z, Nat.log2_zero]; exact hk
  · exact (Nat.log2_lt z).mpr h
theorem mul_ok {j k : Nat} {x y : Int} (hx : Sm j x) (hy : Sm k y) (h : j + k ≤ 100000000) (hj : 0 < j) (hk : 0 < k) : mulOk x y = true := by
  have a := log_lt hx hj
  have b := log_lt hy hk
  unfold mulOk
  exact decide_eq_true (by omega)
theorem div_ok {k : Nat} {x y : Int} (hy : Sm k y) (h : k ≤ 8980) : Builtin.divisionGoesByPylong x y = false := by
  unfold Builtin.divisionGoesByPylong
  dsimp only
  by_cases z : y = 0
  · subst z; simp
  · have := log_lt (k := k + 1) (show Sm (k + 1) y from Nat.lt_of_lt_of_le hy (Nat.pow_le_pow_right (by decide) (by omega))) (by omega)
    simp [z]
    intro _
    omega
def ROLL (p : Int) : Fn := ⟨2, 5, 0, [], [.ife (.cmp .Gt (.sub (.var 0) (.cst (.int 0))) (.cst (.int 0)))
  [.set (.nm 2) (.bin .Mod (.sub (.var 0) (.cst (.int 0))) (.var 1)),
  .sset 0 (.cst (.int 0)) (.bin .FloorDiv (.sub (.var 0) (.cst (.int 0))) (.var 1)),
  .ret (.blt .int [(.var 2)])]
  [],
  .sset 0 (.cst (.int 2)) (.bin .Add (.sub (.var 0) (.cst (.int 2))) (.cst (.int 1))),
  .set (.nm 3) (.bin .Mod (.bin .Add (.sub (.var 0) (.cst (.int 1))) (.bin .Mult (.cst (.int 49979687)) (.sub (.var 0) (.cst (.int 2))))) (.cst (.int 2305843009213693951))),
  .set (.nm 4) (.bin .Add (.bin .Mult (.bin .Mod (.bin .Add (.bin .Mult (.var 3) (.var 3)) (.bin .Mult (.cst (.int p)) (.sub (.var 0) (.cst (.int 2))))) (.cst (.int 2305843009213693921))) (.cst (.int 32452843))) (.var 3)),
  .ret (.bin .Mod (.blt .int [(.bin .FloorDiv (.var 4) (.cst (.int 65587)))]) (.var 1))], false, []⟩
def PICK (kr : Nat) : Fn := ⟨2, 2, 0, [], [.ret (.sub (.var 1) (.call kr [(.var 0), (.blt .len [(.var 1)])]))], false, []⟩
def DICE (p1 p2 p3 p4 p5 p6 : Int) : Fn := ⟨2, 5, 0, [], [.set (.nm 2) (.ite (.cmp .Lt (.var 1) (.blt .len [(.var 0)])) (.blt .int [(.sub (.var 0) (.var 1))]) (.bin .Add (.bin .Mult (.cst (.int p1)) (.var 1)) (.cst (.int p2)))),
  .set (.nm 3) (.bin .Mod (.blt .int [(.blt .abs [(.var 2)])]) (.bin .Pow (.bin .Pow (.cst (.int 10)) (.cst (.int 53))) (.cst (.int 6)))),
  .set (.nm 4) (.bin .Add (.bin .Add (.bin .Add (.bin .Mult (.bin .Mod (.var 3) (.cst (.int 2305843009213693907))) (.cst (.int p3))) (.bin .Mult (.cst (.int p4)) (.var 1))) (.bin .Mult (.cst (.int p5)) (.blt .int [(.cmp .Lt (.var 2) (.cst (.int 0)))]))) (.cst (.int p6))),
  .retf (.lst [(.blt .max2 [(.cst (.int 0)), (.bin .Sub (.var 3) (.bin .Pow (.cst (.int 10)) (.cst (.int 16))))]), (.var 4), (.cst (.int 0))])], false, []⟩
theorem callF_at {W : Wd} {k : Nat} {f : Fn} (h : W.fn[k]? = some f) {lv : Nat} {vs : List Vl} {m : Sto} : callF W (lv + 1) k vs m = runF W (callF W lv) f vs m := by simp only [callF, h]
variable {W0 : Wd}
/-! ### the dice -/
def dmr (rs : Sto) (a b c : Int) : Sto := .lst [.int a, .int b, .int c] :: rs
variable {rs : Sto}
structure DB (a b c : Int) (B : Nat) : Prop where
  a0 : 0 ≤ a
  a1 : a < 2 ^ 1100
  b0 : 0 ≤ b
  b1 : b < 2 ^ 80
  c0 : 0 ≤ c
  c1 : c ≤ B
def Dm (rs m : Sto) (B : Nat) : Prop := ∃ a b c, m = dmr rs a b c ∧ DB a b c B
theorem Dm.mono {m : Sto} {B B' : Nat} (h : Dm rs m B) (hb : B ≤ B') : Dm rs m B' := let ⟨a, b, c, e, d⟩ := h; ⟨a, b, c, e, ⟨d.a0, d.a1, d.b0, d.b1, d.c0, by have := d.c1; omega⟩⟩
theorem Dm.len {m : Sto} {B : Nat} (h : Dm rs m B) : m.length = rs.length + 1 := by obtain ⟨a, b, c, rfl, _⟩ := h; rfl
theorem lk_dm (a b c : Int) : look (dmr rs a b c) (.loc 0) = some (.lst [.int a, .int b, .int c]) := rfl
theorem xs_dm0 {W : Wd} {C : Cal} {B : Nat} {s : Slots} {e : Ex} {a b c x a' c' : Int} (hl : locAt s 0 = some 0) (h : ev W C e s (dmr rs a b c) = .ok (.dat (.int x)) (dmr rs a' b c')) : exS W C B (.sset 0 (.cst (.int 0)) e) s (dmr rs a b c) = .ok (.nx s) (dmr rs x b c') := by
  simp only [exS, hl, h, bi_ok]
  rfl
theorem xs_dm2 {W : Wd} {C : Cal} {B : Nat} {s : Slots} {e : Ex} {a b c x a' c' : Int} (hl : locAt s 0 = some 0) (h : ev W C e s (dmr rs a b c) = .ok (.dat (.int x)) (dmr rs a' b c')) : exS W C B (.sset 0 (.cst (.int 2)) e) s (dmr rs a b c) = .ok (.nx s) (dmr rs a' b x) := by
  simp only [exS, hl, h, bi_ok]
  rfl
theorem roll_g {kr : Nat} {p : Int} (hp : p = 131 ∨ p = 137) (hk : W0.fn[kr]? = some (ROLL p)) (lv B : Nat) (m : Sto) (n : Int) (hm : Dm rs m B) (hB : B + 1 ≤ 2 ^ 60) (h1 : 1 ≤ n) (h2 : n < 2 ^ 100) :
    ∃ r m', callF W0 (lv + 1) kr [.loc 0, .dat (.int n)] m = .ok (.vl (.dat (.int r))) m' ∧ 0 ≤ r ∧ r < n ∧ Dm rs m' (B + 1) := by
  obtain ⟨a, b, c, rfl, d⟩ := hm
  have hn : n ≠ 0 := by omega
  have smn : Sm 8980 n := by
    unfold Sm
    have : n.natAbs < 2 ^ 100 := by omega
    exact Nat.lt_of_lt_of_le this (Nat.pow_le_pow_right (by decide) (by decide))
  by_cases ha : 0 < a
  · refine ⟨a.fmod n, dmr rs (a.fdiv n) b c, ?_, ?_, ?_, _, _, _, rfl, ?_⟩
    · rw [callF_at hk]
      refine ru_dat rfl rfl rfl rfl ?_
      have x0 : exS W0 (callF W0 lv) (dmr rs a b c).length (.sset 0 (.cst (.int 0)) (.bin .FloorDiv (.sub (.var 0) (.cst (.int 0))) (.var 1))) [some (.loc 0), some (.dat (.int n)), some (.dat (.int (a.fmod n))), none, none] (dmr rs a b c) = .ok (.nx [some (.loc 0), some (.dat (.int n)), some (.dat (.int (a.fmod n))), none, none]) (dmr rs (a.fdiv n) b c) :=
        xs_dm0 rfl (by simp [x_nil, x_cons, x_set, x_setT, x_par, x_ife, x_ret, x_retf, n_lst, n_call, x_newl, x_exp, x_whl, x_for, bi_ok, bi_bad, of_some, lk_dat, lks_nil, lks_cons, do_nil, do_cons, op_some, ob_some, b_add, b_sub, c_lt, c_le, c_gt, c_ge, c_eqS, c_neS, c_eqI, c_neI, c_eqB, c_neB, c_eqT, c_neT, c_eqL, c_neL, c_isB, c_isntB, c_is, c_isnt, eq_int, eq_bl, eq_pair, t_bl, t_int, t_lst, t_tup, l_tup, l_lst, l_scr, l_abs, l_int, l_intB, l_max, l_min, l_tt, l_tl, l_all, l_any, l_repr, s_tup, s_lst, s_scr, i_tt, i_ii, i_ib, i_it, ix0, ix1, ix2, v_var, v_cst, v_glo, v_tup, v_lst, v_lsts, d_nil, d_star, d_one, l_max1, l_min1, l_sum, v_bin, v_neg, v_nt, v_cmp, v_chain, v_and, v_or, v_ite, v_sub, v_rev, v_call, v_blt, v_isi, v_comp, evs, evAnd, evOr, evIfs, evT, evTAnd, evTOr, parS, lk_dm, b_div hn (div_ok smn (by decide))]; rfl)
      simp [ROLL, x_nil, x_cons, x_set, x_setT, x_par, x_ife, x_ret, x_retf, n_lst, n_call, x_newl, x_exp, x_whl, x_for, bi_ok, bi_bad, of_some, lk_dat, lks_nil, lks_cons, do_nil, do_cons, op_some, ob_some, b_add, b_sub, c_lt, c_le, c_gt, c_ge, c_eqS, c_neS, c_eqI, c_neI, c_eqB, c_neB, c_eqT, c_neT, c_eqL, c_neL, c_isB, c_isntB, c_is, c_isnt, eq_int, eq_bl, eq_pair, t_bl, t_int, t_lst, t_tup, l_tup, l_lst, l_scr, l_abs, l_int, l_intB, l_max, l_min, l_tt, l_tl, l_all, l_any, l_repr, s_tup, s_lst, s_scr, i_tt, i_ii, i_ib, i_it, ix0, ix1, ix2, v_var, v_cst, v_glo, v_tup, v_lst, v_lsts, d_nil, d_star, d_one, l_max1, l_min1, l_sum, v_bin, v_neg, v_nt, v_cmp, v_chain, v_and, v_or, v_ite, v_sub, v_rev, v_call, v_blt, v_isi, v_comp, evs, evAnd, evOr, evIfs, evT, evTAnd, evTOr, parS, lk_dm, ha, b_mod hn, x0]
    · rw [Int.fmod_eq_emod_of_nonneg _ (by omega)]
      exact Int.emod_nonneg _ hn
    · rw [Int.fmod_eq_emod_of_nonneg _ (by omega)]
      exact Int.emod_lt_of_pos _ (by omega)
    · rw [Int.fdiv_eq_ediv_of_nonneg _ (by omega)]
      exact ⟨Int.ediv_nonneg d.a0 (by omega), Int.lt_of_le_of_lt (Int.ediv_le_self _ d.a0) d.a1, d.b0, d.b1, d.c0, by have := d.c1; omega⟩
  · have c0 := d.c0
    have c1 := d.c1
    have b0 := d.b0
    have b1 := d.b1
    have k1 : mulOk 49979687 (c + 1) = true := mul_ok (j := 26) (k := 61) (by unfold Sm; decide) (by unfold Sm; omega) (by decide) (by decide) (by decide)
    have k2 : mulOk p (c + 1) = true := mul_ok (j := 26) (k := 61) (by rcases hp with rfl | rfl <;> (unfold Sm; decide)) (by unfold Sm; omega) (by decide) (by decide) (by decide)
    let one := (b + 49979687 * (c + 1)).fmod 2305843009213693951
    have o0 : 0 ≤ one := by
      show 0 ≤ Int.fmod _ _
      rw [Int.fmod_eq_emod_of_nonneg _ (by omega)]
      exact Int.emod_nonneg _ (by decide)
    have o1 : one < 2305843009213693951 := by
      show Int.fmod _ _ < _
      rw [Int.fmod_eq_emod_of_nonneg _ (by omega)]
      exact Int.emod_lt_of_pos _ (by decide)
    have k3 : mulOk one one = true := mul_ok (j := 61) (k := 61) (by unfold Sm; omega) (by unfold Sm; omega) (by decide) (by decide) (by decide)
    let tw := (one * one + p * (c + 1)).fmod 2305843009213693921
    have w0 : 0 ≤ tw := by
      show 0 ≤ Int.fmod _ _
      rw [Int.fmod_eq_emod_of_nonneg _ (by omega)]
      exact Int.emod_nonneg _ (by decide)
    have w1 : tw < 2305843009213693921 := by
      show Int.fmod _ _ < _
      rw [Int.fmod_eq_emod_of_nonneg _ (by omega)]
      exact Int.emod_lt_of_pos _ (by decide)
    have k4 : mulOk tw 32452843 = true := mul_ok (j := 61) (k := 26) (by unfold Sm; omega) (by unfold Sm; decide) (by decide) (by decide) (by decide)
    refine ⟨((tw * 32452843 + one).fdiv 65587).fmod n, dmr rs a b (c + 1), ?_, ?_, ?_, _, _, _, rfl, ?_⟩
    · rw [callF_at hk]
      refine ru_dat rfl rfl rfl rfl ?_
      have x2 : exS W0 (callF W0 lv) (dmr rs a b c).length (.sset 0 (.cst (.int 2)) (.bin .Add (.sub (.var 0) (.cst (.int 2))) (.cst (.int 1)))) [some (.loc 0), some (.dat (.int n)), none, none, none] (dmr rs a b c) = .ok (.nx [some (.loc 0), some (.dat (.int n)), none, none, none]) (dmr rs a b (c + 1)) :=
        xs_dm2 rfl (by simp [x_nil, x_cons, x_set, x_setT, x_par, x_ife, x_ret, x_retf, n_lst, n_call, x_newl, x_exp, x_whl, x_for, bi_ok, bi_bad, of_some, lk_dat, lks_nil, lks_cons, do_nil, do_cons, op_some, ob_some, b_add, b_sub, c_lt, c_le, c_gt, c_ge, c_eqS, c_neS, c_eqI, c_neI, c_eqB, c_neB, c_eqT, c_neT, c_eqL, c_neL, c_isB, c_isntB, c_is, c_isnt, eq_int, eq_bl, eq_pair, t_bl, t_int, t_lst, t_tup, l_tup, l_lst, l_scr, l_abs, l_int, l_intB, l_max, l_min, l_tt, l_tl, l_all, l_any, l_repr, s_tup, s_lst, s_scr, i_tt, i_ii, i_ib, i_it, ix0, ix1, ix2, v_var, v_cst, v_glo, v_tup, v_lst, v_lsts, d_nil, d_star, d_one, l_max1, l_min1, l_sum, v_bin, v_neg, v_nt, v_cmp, v_chain, v_and, v_or, v_ite, v_sub, v_rev, v_call, v_blt, v_isi, v_comp, evs, evAnd, evOr, evIfs, evT, evTAnd, evTOr, parS, lk_dm]; rfl)
      have y1 : binD .Mod (.int (b + 49979687 * (c + 1))) (.int 2305843009213693951) = some (.int one) := b_mod (by decide)
      have y2 : binD .Mod (.int (one * one + p * (c + 1))) (.int 2305843009213693921) = some (.int tw) := b_mod (by decide)
      have y3 : binD .FloorDiv (.int (tw * 32452843 + one)) (.int 65587) = some (.int ((tw * 32452843 + one).fdiv 65587)) := b_div (by decide) (div_ok (k := 20) (by unfold Sm; decide) (by decide))
      simp [ROLL, x_nil, x_cons, x_set, x_setT, x_par, x_ife, x_ret, x_retf, n_lst, n_call, x_newl, x_exp, x_whl, x_for, bi_ok, bi_bad, of_some, lk_dat, lks_nil, lks_cons, do_nil, do_cons, op_some, ob_some, b_add, b_sub, c_lt, c_le, c_gt, c_ge, c_eqS, c_neS, c_eqI, c_neI, c_eqB, c_neB, c_eqT, c_neT, c_eqL, c_neL, c_isB, c_isntB, c_is, c_isnt, eq_int, eq_bl, eq_pair, t_bl, t_int, t_lst, t_tup, l_tup, l_lst, l_scr, l_abs, l_int, l_intB, l_max, l_min, l_tt, l_tl, l_all, l_any, l_repr, s_tup, s_lst, s_scr, i_tt, i_ii, i_ib, i_it, ix0, ix1, ix2, v_var, v_cst, v_glo, v_tup, v_lst, v_lsts, d_nil, d_star, d_one, l_max1, l_min1, l_sum, v_bin, v_neg, v_nt, v_cmp, v_chain, v_and, v_or, v_ite, v_sub, v_rev, v_call, v_blt, v_isi, v_comp, evs, evAnd, evOr, evIfs, evT, evTAnd, evTOr, parS, lk_dm, ha, x2, b_mul k1, b_mul k2, b_mul k3, b_mul k4, y1, y2, y3, b_mod hn]
    · rw [Int.fmod_eq_emod_of_nonneg _ (by omega)]
      exact Int.emod_nonneg _ hn
    · rw [Int.fmod_eq_emod_of_nonneg _ (by omega)]
      exact Int.emod_lt_of_pos _ (by omega)
    · exact ⟨d.a0, d.a1, d.b0, d.b1, by omega, by omega⟩
theorem pick_g {kr kp : Nat} {p : Int} (hp : p = 131 ∨ p = 137) (hk : W0.fn[kr]? = some (ROLL p)) (hk2 : W0.fn[kp]? = some (PICK kr)) (lv B : Nat) (m : Sto) (ds : List D) (hm : Dm rs m B) (hB : B + 1 ≤ 2 ^ 60) (h1 : 1 ≤ ds.length) (h2 : ds.length < 2 ^ 20) :
    ∃ (i : Nat) (d : D) (m' : Sto), callF W0 (lv + 2) kp [.loc 0, .dat (.lst ds)] m = .ok (.vl (.dat d)) m' ∧ ds[i]? = some d ∧ Dm rs m' (B + 1) := by
  obtain ⟨r, m', e, r0, r1, hm'⟩ := roll_g hp hk lv B m ds.length hm hB (by omega) (by omega)
  obtain ⟨i, rfl⟩ : ∃ i : Nat, r = i := ⟨r.toNat, by omega⟩
  have hi : i < ds.length := by omega
  refine ⟨i, ds[i], m', ?_, List.getElem?_eq_getElem hi, hm'⟩
  rw [callF_at hk2]
  refine ru_dat rfl rfl rfl (by rw [hm.len, hm'.len]) ?_
  have ix : ixD ds.length (i : Int) = some i := ix_lit hi
  simp [PICK, x_nil, x_cons, x_set, x_setT, x_par, x_ife, x_ret, x_retf, n_lst, n_call, x_newl, x_exp, x_whl, x_for, bi_ok, bi_bad, of_some, lk_dat, lks_nil, lks_cons, do_nil, do_cons, op_some, ob_some, b_add, b_sub, c_lt, c_le, c_gt, c_ge, c_eqS, c_neS, c_eqI, c_neI, c_eqB, c_neB, c_eqT, c_neT, c_eqL, c_neL, c_isB, c_isntB, c_is, c_isnt, eq_int, eq_bl, eq_pair, t_bl, t_int, t_lst, t_tup, l_tup, l_lst, l_scr, l_abs, l_int, l_intB, l_max, l_min, l_tt, l_tl, l_all, l_any, l_repr, s_tup, s_lst, s_scr, i_tt, i_ii, i_ib, i_it, ix0, ix1, ix2, v_var, v_cst, v_glo, v_tup, v_lst, v_lsts, d_nil, d_star, d_one, l_max1, l_min1, l_sum, v_bin, v_neg, v_nt, v_cmp, v_chain, v_and, v_or, v_ite, v_sub, v_rev, v_call, v_blt, v_isi, v_comp, evs, evAnd, evOr, evIfs, evT, evTAnd, evTOr, parS, e, ix, hi]
theorem szl {n : Nat} (h : n ≤ 100) : szOk n = true := decide_eq_true (Nat.le_trans h (by decide))
theorem p6 : binD .Pow (.int 10) (.int 6) = some (.int 1000000) := rfl
theorem p19 : binD .Pow (.int 10) (.int 19) = some (.int 10000000000000000000) := rfl
theorem p16 : binD .Pow (.int 10) (.int 16) = some (.int 10000000000000000) := rfl
theorem p53 : binD .Pow (.int 10) (.int 53) = some (.int 100000000000000000000000000000000000000000000000000000) := rfl
theorem p318 : binD .Pow (.int 100000000000000000000000000000000000000000000000000000) (.int 6) = some (.int 1000000000000000000000000000000000000000000000000000000000000000000000000000000000000000000000000000000000000000000000000000000000000000000000000000000000000000000000000000000000000000000000000000000000000000000000000000000000000000000000000000000000000000000000000000000000000000000000000000000000000000000000000000000) := rfl
theorem dice_g {kd : Nat} {p1 p2 p3 p4 p5 p6 : Int} (hk : W0.fn[kd]? = some (DICE p1 p2 p3 p4 p5 p6)) (q1 : 0 ≤ p1 ∧ p1 < 1000) (q3 : 0 ≤ p3 ∧ p3 < 1000) (q4 : 0 ≤ p4 ∧ p4 < 1000) (q5 : 0 ≤ p5 ∧ p5 < 1000) (q6 : 0 ≤ p6 ∧ p6 < 1000) (lv : Nat) (m : Sto) (ns : List Int) (spot : Nat) (hs : spot < 100) : ∃ a b : Int, callF W0 (lv + 1) kd [.dat (.scr (ns.map .int)), .dat (.int spot)] m = .ok (.new [.int a, .int b, .int 0]) m ∧ DB a b 0 0 := by
  obtain ⟨cell, hc⟩ : ∃ cell : Int, ev W0 (callF W0 lv) (.ite (.cmp .Lt (.var 1) (.blt .len [(.var 0)])) (.blt .int [(.sub (.var 0) (.var 1))]) (.bin .Add (.bin .Mult (.cst (.int p1)) (.var 1)) (.cst (.int p2)))) [some (.dat (.scr (ns.map .int))), some (.dat (.int spot)), none, none, none] m = .ok (.dat (.int cell)) m := by
    by_cases h : spot < ns.length
    · have ix : ixD ns.length (spot : Int) = some spot := ix_lit h
      have h' : (spot : Int) < ns.length := by omega
      refine ⟨ns[spot], ?_⟩
      simp [x_nil, x_cons, x_set, x_setT, x_par, x_ife, x_ret, x_retf, n_lst, n_call, x_newl, x_exp, x_whl, x_for, bi_ok, bi_bad, of_some, lk_dat, lks_nil, lks_cons, do_nil, do_cons, op_some, ob_some, b_add, b_sub, c_lt, c_le, c_gt, c_ge, c_eqS, c_neS, c_eqI, c_neI, c_eqB, c_neB, c_eqT, c_neT, c_eqL, c_neL, c_isB, c_isntB, c_is, c_isnt, eq_int, eq_bl, eq_pair, t_bl, t_int, t_lst, t_tup, l_tup, l_lst, l_scr, l_abs, l_int, l_intB, l_max, l_min, l_tt, l_tl, l_all, l_any, l_repr, s_tup, s_lst, s_scr, i_tt, i_ii, i_ib, i_it, ix0, ix1, ix2, v_var, v_cst, v_glo, v_tup, v_lst, v_lsts, d_nil, d_star, d_one, l_max1, l_min1, l_sum, v_bin, v_neg, v_nt, v_cmp, v_chain, v_and, v_or, v_ite, v_sub, v_rev, v_call, v_blt, v_isi, v_comp, evs, evAnd, evOr, evIfs, evT, evTAnd, evTOr, parS, h, h', ix]
    · have h' : ¬ (spot : Int) < ns.length := by omega
      have mk : mulOk p1 (spot : Int) = true := mul_ok (j := 20) (k := 20) (by unfold Sm; omega) (by unfold Sm; omega) (by decide) (by decide) (by decide)
      refine ⟨p1 * spot + p2, ?_⟩
      simp [x_nil, x_cons, x_set, x_setT, x_par, x_ife, x_ret, x_retf, n_lst, n_call, x_newl, x_exp, x_whl, x_for, bi_ok, bi_bad, of_some, lk_dat, lks_nil, lks_cons, do_nil, do_cons, op_some, ob_some, b_add, b_sub, c_lt, c_le, c_gt, c_ge, c_eqS, c_neS, c_eqI, c_neI, c_eqB, c_neB, c_eqT, c_neT, c_eqL, c_neL, c_isB, c_isntB, c_is, c_isnt, eq_int, eq_bl, eq_pair, t_bl, t_int, t_lst, t_tup, l_tup, l_lst, l_scr, l_abs, l_int, l_intB, l_max, l_min, l_tt, l_tl, l_all, l_any, l_repr, s_tup, s_lst, s_scr, i_tt, i_ii, i_ib, i_it, ix0, ix1, ix2, v_var, v_cst, v_glo, v_tup, v_lst, v_lsts, d_nil, d_star, d_one, l_max1, l_min1, l_sum, v_bin, v_neg, v_nt, v_cmp, v_chain, v_and, v_or, v_ite, v_sub, v_rev, v_call, v_blt, v_isi, v_comp, evs, evAnd, evOr, evIfs, evT, evTAnd, evTOr, parS, h, h', b_mul mk]
  let great : Int := (cell.natAbs : Int).fmod 1000000000000000000000000000000000000000000000000000000000000000000000000000000000000000000000000000000000000000000000000000000000000000000000000000000000000000000000000000000000000000000000000000000000000000000000000000000000000000000000000000000000000000000000000000000000000000000000000000000000000000000000000000000
  have g0 : 0 ≤ great := by
    show 0 ≤ Int.fmod _ _
    rw [Int.fmod_eq_emod_of_nonneg _ (by decide)]
    exact Int.emod_nonneg _ (by decide)
  have g1 : great < 1000000000000000000000000000000000000000000000000000000000000000000000000000000000000000000000000000000000000000000000000000000000000000000000000000000000000000000000000000000000000000000000000000000000000000000000000000000000000000000000000000000000000000000000000000000000000000000000000000000000000000000000000000000 := by
    show Int.fmod _ _ < _
    rw [Int.fmod_eq_emod_of_nonneg _ (by decide)]
    exact Int.emod_lt_of_pos _ (by decide)
  let sd : Int := great.fmod 2305843009213693907
  have s0 : 0 ≤ sd := by
    show 0 ≤ Int.fmod _ _
    rw [Int.fmod_eq_emod_of_nonneg _ (by decide)]
    exact Int.emod_nonneg _ (by decide)
  have s1 : sd < 2305843009213693907 := by
    show Int.fmod _ _ < _
    rw [Int.fmod_eq_emod_of_nonneg _ (by decide)]
    exact Int.emod_lt_of_pos _ (by decide)
  have m1 : binD .Mod (.int (cell.natAbs : Int)) (.int 1000000000000000000000000000000000000000000000000000000000000000000000000000000000000000000000000000000000000000000000000000000000000000000000000000000000000000000000000000000000000000000000000000000000000000000000000000000000000000000000000000000000000000000000000000000000000000000000000000000000000000000000000000000) = some (.int great) := b_mod (by decide)
  have m2 : binD .Mod (.int great) (.int 2305843009213693907) = some (.int sd) := b_mod (by decide)
  have k1 : mulOk sd p3 = true := mul_ok (j := 62) (k := 20) (by unfold Sm; omega) (by unfold Sm; omega) (by decide) (by decide) (by decide)
  have k2 : mulOk p4 (spot : Int) = true := mul_ok (j := 20) (k := 20) (by unfold Sm; omega) (by unfold Sm; omega) (by decide) (by decide) (by decide)
  have k3 : ∀ x : Bool, mulOk p5 (if x = true then 1 else 0) = true := fun x => mul_ok (j := 20) (k := 20) (by unfold Sm; omega) (by cases x <;> (unfold Sm; decide)) (by decide) (by decide) (by decide)
  have k3 : mulOk p5 (if cell < 0 then 1 else 0) = true := by
    have := k3 (decide (cell < 0))
    simpa using this
  refine ⟨max 0 (great - 10000000000000000), sd * p3 + p4 * spot + p5 * (if cell < 0 then 1 else 0) + p6, ?_, ?_⟩
  · rw [callF_at hk]
    refine ru_new rfl rfl rfl rfl ?_
    refine st1 (s' := [some (.dat (.scr (ns.map .int))), some (.dat (.int spot)), some (.dat (.int cell)), none, none]) (m' := m) (by
      rw [x_set]
      exact congrArg (fun r => R.bind r _) hc) ?_
    simp [x_nil, x_cons, x_set, x_setT, x_par, x_ife, x_ret, x_retf, n_lst, n_call, x_newl, x_exp, x_whl, x_for, bi_ok, bi_bad, of_some, lk_dat, lks_nil, lks_cons, do_nil, do_cons, op_some, ob_some, b_add, b_sub, c_lt, c_le, c_gt, c_ge, c_eqS, c_neS, c_eqI, c_neI, c_eqB, c_neB, c_eqT, c_neT, c_eqL, c_neL, c_isB, c_isntB, c_is, c_isnt, eq_int, eq_bl, eq_pair, t_bl, t_int, t_lst, t_tup, l_tup, l_lst, l_scr, l_abs, l_int, l_intB, l_max, l_min, l_tt, l_tl, l_all, l_any, l_repr, s_tup, s_lst, s_scr, i_tt, i_ii, i_ib, i_it, ix0, ix1, ix2, v_var, v_cst, v_glo, v_tup, v_lst, v_lsts, d_nil, d_star, d_one, l_max1, l_min1, l_sum, v_bin, v_neg, v_nt, v_cmp, v_chain, v_and, v_or, v_ite, v_sub, v_rev, v_call, v_blt, v_isi, v_comp, evs, evAnd, evOr, evIfs, evT, evTAnd, evTOr, parS, p53, p318, p16, m1, m2, b_mul k1, b_mul k2, b_mul k3, szl]
  · have c : 0 ≤ (if cell < 0 then (1 : Int) else 0) ∧ (if cell < 0 then (1 : Int) else 0) ≤ 1 := by split <;> decide
    have q : (1000000000000000000000000000000000000000000000000000000000000000000000000000000000000000000000000000000000000000000000000000000000000000000000000000000000000000000000000000000000000000000000000000000000000000000000000000000000000000000000000000000000000000000000000000000000000000000000000000000000000000000000000000000 : Int) < 2 ^ 1100 := by decide
    have t3 : 0 ≤ sd * p3 := Int.mul_nonneg s0 q3.1
    have t3' : sd * p3 ≤ 2305843009213693907 * 1000 := Int.mul_le_mul (by omega) (by omega) q3.1 (by decide)
    have t4 : 0 ≤ p4 * (spot : Int) := Int.mul_nonneg q4.1 (by omega)
    have t4' : p4 * (spot : Int) ≤ 1000 * 100 := Int.mul_le_mul (by omega) (by omega) (by omega) (by decide)
    have t5 : 0 ≤ p5 * (if cell < 0 then (1 : Int) else 0) := Int.mul_nonneg q5.1 c.1
    have t5' : p5 * (if cell < 0 then (1 : Int) else 0) ≤ 1000 * 1 := Int.mul_le_mul (by omega) c.2 c.1 (by decide)
    exact ⟨by omega, by omega, by omega, by omega, by decide, by decide⟩
/-! ### a law's walk over the script -/
theorem free_rep (n i : Nat) : ∀ (t j : Nat), EV.freeOf n i j (List.replicate t none) = true
  | 0, _ => rfl
  | t + 1, j => by
    show EV.freeOf n i (j + 1) (List.replicate t none) = true
    exact free_rep n i t (j + 1)
section
variable {C : Cal} {kd T w t : Nat} {tb : List EV.St}
theorem turns (hT : T ≤ 1000) (hw : T * w ≤ 2 ^ 50) (ht : ∀ (x0 x1 : Option Vl) (d : D) (m : Sto) (B : Nat), Dm rs m B → B + w ≤ 2 ^ 60 → ∃ m', exs W0 C 0 tb (x0 :: x1 :: some (.loc 0) :: some (.dat d) :: List.replicate t none) m = .ok (.nx (x0 :: x1 :: some (.loc 0) :: some (.dat d) :: List.replicate t none)) m' ∧ Dm rs m' (B + w))
    (x0 x1 x3 : Option Vl) (m : Sto) (hm : Dm rs m 0) : ∃ x3' m', exS W0 C 0 (.fort (.nm 3) .rng1 [(.cst (.int (T : Nat)))] tb) (x0 :: x1 :: some (.loc 0) :: x3 :: List.replicate t none) m = .ok (.nx (x0 :: x1 :: some (.loc 0) :: x3' :: List.replicate t none)) m' ∧ (∃ B, Dm rs m' B) ∧ ((∀ l, x3 ≠ some (.loc l)) → ∀ l, x3' ≠ some (.loc l)) := by
  obtain ⟨s', m', e, x3', B, rfl, hm', _, h3'⟩ := for_ok (W := W0) (C := C) (b := 0) (tg := .nm 3) (ik := .rng1) (src := [(.cst (.int (T : Nat)))]) (vs := [.dat (.int ((T : Nat) : Int))]) (ds := [.int ((T : Nat) : Int)]) (enc := fun i : Nat => D.int i)
    (body := tb) (s := x0 :: x1 :: some (.loc 0) :: x3 :: List.replicate t none) (m := m) (m1 := m)
    (fun r s mm => ∃ (x3' : Option Vl) (B : Nat), s = x0 :: x1 :: some (.loc 0) :: x3' :: List.replicate t none ∧ Dm rs mm B ∧ B + w * r.length ≤ T * w ∧ ((∀ l, x3 ≠ some (.loc l)) → ∀ l, x3' ≠ some (.loc l))) (List.range T) rfl rfl (wd_rng1 hT) (by simp; omega) ⟨x3, 0, rfl, hm, by rw [List.length_range, Nat.zero_add, Nat.mul_comm]; exact Nat.le_refl _, fun h => h⟩ (by
    rintro d r s mm ⟨x3', B, rfl, hmm, hB, _⟩
    rw [List.length_cons, Nat.mul_add, Nat.mul_one] at hB
    obtain ⟨m2, e2, hm2⟩ := ht x0 x1 (.int d) mm B hmm (by omega)
    refine ⟨_, m2, ?_, some (.dat (.int d)), B + w, rfl, hm2, by omega, by simp⟩
    unfold forStep
    have tg : tgD (.nm 3) (.int d) (x0 :: x1 :: some (.loc 0) :: x3' :: List.replicate t none) = some (x0 :: x1 :: some (.loc 0) :: some (.dat (.int d)) :: List.replicate t none) := by simp [tgD]
    rw [tg]
    exact e2)
  exact ⟨x3', m', e, ⟨B, hm'⟩, h3'⟩
theorem law_walk {N : Nat} (hN : N ≤ 99) (hT : T ≤ 1000) (hw : T * w ≤ 2 ^ 50) (hd : ∀ (ns : List Int) (spot : Nat) (m : Sto), spot < 100 → ∃ a b : Int, C kd [.dat (.scr (ns.map .int)), .dat (.int spot)] m = .ok (.new [.int a, .int b, .int 0]) m ∧ DB a b 0 0)
    (ht : ∀ (x0 x1 : Option Vl) (d : D) (m : Sto) (B : Nat), Dm rs m B → B + w ≤ 2 ^ 60 → ∃ m', exs W0 C 0 tb (x0 :: x1 :: some (.loc 0) :: some (.dat d) :: List.replicate t none) m = .ok (.nx (x0 :: x1 :: some (.loc 0) :: some (.dat d) :: List.replicate t none)) m' ∧ Dm rs m' (B + w))
    (ns : List Int) (k : Nat) (hk : k ≤ N) (y : MO) (src : List Ex) (hsrc : evs W0 C src (some (.dat (.scr (ns.map .int))) :: none :: none :: none :: List.replicate t none) (y :: rs) = .ok [.dat (.int k)] (y :: rs)) :
    ∃ x1 x2 x3 y', exS W0 C 0 (.fort (.nm 1) .rng1 src [.newl 2 0 (.call kd [(.var 0), (.var 1)]), .fort (.nm 3) .rng1 [(.cst (.int (T : Nat)))] tb]) (some (.dat (.scr (ns.map .int))) :: none :: none :: none :: List.replicate t none) (y :: rs) =
      .ok (.nx (some (.dat (.scr (ns.map .int))) :: x1 :: x2 :: x3 :: List.replicate t none)) (y' :: rs) := by
  obtain ⟨s', m', e, _, x1, x2, x3, y', rfl, rfl, _⟩ := for_ok (W := W0) (C := C) (b := 0) (tg := .nm 1) (ik := .rng1) (src := src) (vs := [.dat (.int k)]) (ds := [.int k]) (enc := fun i : Nat => D.int i)
    (body := [.newl 2 0 (.call kd [(.var 0), (.var 1)]), .fort (.nm 3) .rng1 [(.cst (.int (T : Nat)))] tb]) (s := some (.dat (.scr (ns.map .int))) :: none :: none :: none :: List.replicate t none) (m := y :: rs) (m1 := y :: rs)
    (fun r s mm => (∀ y ∈ r, y < N) ∧ ∃ (x1 x2 x3 : Option Vl) (y' : MO), s = some (.dat (.scr (ns.map .int))) :: x1 :: x2 :: x3 :: List.replicate t none ∧ mm = y' :: rs ∧ (∀ l, x1 ≠ some (.loc l)) ∧ (∀ l, x3 ≠ some (.loc l)))
    (List.range k) hsrc rfl (wd_rng1 (by omega)) (by simp; omega) ⟨fun y hy => by simp at hy; omega, none, none, none, y, rfl, rfl, by simp, by simp⟩ (by
    rintro i r s mm ⟨hlt, x1, x2, x3, y', rfl, rfl, n1, n3⟩
    have hi := hlt i List.mem_cons_self
    obtain ⟨a, b, ed, db⟩ := hd ns i (y' :: rs) (by omega)
    have fr0 : EV.freeOf 0 2 0 (some (.dat (.scr (ns.map .int))) :: some (.dat (.int i)) :: x2 :: x3 :: List.replicate t none) = true := by
      cases x3 with
      | none => cases x2 with
        | none => simpa [EV.freeOf] using free_rep 0 2 t _
        | some v => cases v <;> simpa [EV.freeOf] using free_rep 0 2 t _
      | some w =>
        cases w with
        | loc l => exact absurd rfl (n3 l)
        | dat _ =>
          cases x2 with
          | none => simpa [EV.freeOf] using free_rep 0 2 t _
          | some v => cases v <;> simpa [EV.freeOf] using free_rep 0 2 t _
        | fns _ =>
          cases x2 with
          | none => simpa [EV.freeOf] using free_rep 0 2 t _
          | some v => cases v <;> simpa [EV.freeOf] using free_rep 0 2 t _
    obtain ⟨x3', m2, e2, ⟨B, a2, b2, c2, rfl, _⟩, n3'⟩ := turns hT hw ht (some (.dat (.scr (ns.map .int)))) (some (.dat (.int i))) x3 (dmr rs a b 0) ⟨a, b, 0, rfl, db⟩
    refine ⟨some (.dat (.scr (ns.map .int))) :: some (.dat (.int i)) :: some (.loc 0) :: x3' :: List.replicate t none, .lst [.int a2, .int b2, .int c2] :: rs, ?_, fun y hy => hlt y (List.mem_cons_of_mem _ hy), some (.dat (.int i)), some (.loc 0), x3', .lst [.int a2, .int b2, .int c2], rfl, rfl, by simp, n3' n3⟩
    unfold forStep
    have tg : tgD (.nm 1) (.int i) (some (.dat (.scr (ns.map .int))) :: x1 :: x2 :: x3 :: List.replicate t none) = some (some (.dat (.scr (ns.map .int))) :: some (.dat (.int i)) :: x2 :: x3 :: List.replicate t none) := by simp [tgD]
    rw [tg]
    show exs W0 C 0 _ (some (.dat (.scr (ns.map .int))) :: some (.dat (.int i)) :: x2 :: x3 :: List.replicate t none) (y' :: rs) = _
    refine st1 (s' := some (.dat (.scr (ns.map .int))) :: some (.dat (.int i)) :: some (.loc 0) :: x3 :: List.replicate t none) (m' := dmr rs a b 0) (by
      simp [x_nil, x_cons, x_set, x_setT, x_par, x_ife, x_ret, x_retf, n_lst, n_call, x_newl, x_exp, bi_ok, bi_bad, of_some, lk_dat, lks_nil, lks_cons, do_nil, do_cons, op_some, ob_some, b_add, b_sub, c_lt, c_le, c_gt, c_ge, c_eqS, c_neS, c_eqI, c_neI, c_eqB, c_neB, c_eqT, c_neT, c_eqL, c_neL, c_isB, c_isntB, c_is, c_isnt, eq_int, eq_bl, eq_pair, t_bl, t_int, t_lst, t_tup, l_tup, l_lst, l_scr, l_abs, l_int, l_intB, l_max, l_min, l_tt, l_tl, l_all, l_any, l_repr, s_tup, s_lst, s_scr, i_tt, i_ii, i_ib, i_it, ix0, ix1, ix2, v_var, v_cst, v_glo, v_tup, v_lst, v_lsts, d_nil, d_star, d_one, l_max1, l_min1, l_sum, v_bin, v_neg, v_nt, v_cmp, v_chain, v_and, v_or, v_ite, v_sub, v_rev, v_call, v_blt, v_isi, v_comp, evs, evAnd, evOr, evIfs, evT, evTAnd, evTOr, parS, bi_asc, tgD, tgDs, wipeS, slotsOf, slotsOfs, szk, ed, fr0, dmr]) ?_
    exact st1 e2 rfl)
  exact ⟨x1, x2, x3, y', e⟩
end
theorem all_parts {α : Type} {f : α → Bool} {l : List α} (n k : Nat) (hn : 0 < n) (hl : l.length ≤ k * n) (h : ∀ i, i < k → ((l.drop (n * i)).take n).all f = true) : l.all f = true := by
  rw [List.all_eq_true]
  intro v hv
  obtain ⟨j, hj, rfl⟩ := List.mem_iff_getElem.mp hv
  have hi : j / n < k := (Nat.div_lt_iff_lt_mul hn).mpr (Nat.lt_of_lt_of_le hj hl)
  have e := Nat.div_add_mod j n
  have lt := Nat.mod_lt j hn
  refine List.all_eq_true.mp (h (j / n) hi) _ ?_
  rw [List.mem_iff_getElem?]
  refine ⟨j % n, ?_⟩
  rw [List.getElem?_take, if_pos lt, List.getElem?_drop, e]
  exact List.getElem?_eq_getElem hj
theorem lt_cases {P : Nat → Prop} {k : Nat} (h : P k) (r : ∀ i, i < k → P i) : ∀ i, i < k + 1 → P i := fun i hi => by
  by_cases e : i = k
  · subst e; exact h
  · exact r i (by omega)
end DICE

set_option Elab.async false
set_option linter.all false
set_option maxRecDepth 100000
set_option maxHeartbeats 2000000
set_option exponentiation.threshold 10000
/-! EV, part Mn: laws over menus: runs over empty cells, calls that are told, words of errors. -/
namespace MN
open PySem EV DICE
/-! ### what runs over empty cells runs alike over any -/
theorem put_step {n k : Nat} (r : Sto) (hr : r.length = n) (hk : k < n) : put0 k (r[k]'(by omega)) (r.take k ++ List.replicate (n - k) MO.nil) = r.take (k + 1) ++ List.replicate (n - (k + 1)) MO.nil := by
  unfold put0
  have e : n - k = (n - (k + 1)) + 1 := by omega
  have hl : (r.take k).length = k := by rw [List.length_take]; omega
  rw [e, List.replicate_succ, List.set_append_right _ _ (by omega), hl, Nat.sub_self, List.set_cons_zero, List.take_succ_eq_append_getElem (by omega), List.append_assoc]
  rfl
theorem fz_step {n k : Nat} (r : Sto) (hr : r.length = n) (hk : k < n) : Fz k (r.take k ++ List.replicate (n - k) MO.nil) := by
  unfold Fz
  have hl : (r.take k).length = k := by rw [List.length_take]; omega
  rw [List.getElem?_append_right (by omega), hl, Nat.sub_self, List.getElem?_replicate, if_pos (by omega)]
theorem all_nil {n : Nat} {m : Sto} (l : m.length = n) (h : ∀ j, j < n → Fz j m) : m = List.replicate n .nil := by
  refine List.ext_getElem? fun j => ?_
  rw [List.getElem?_replicate]
  split
  · rename_i hj
    exact h j hj
  · exact List.getElem?_eq_none (by omega)
theorem fz_rep {n j : Nat} (h : j < n) : Fz j (List.replicate n MO.nil) := by unfold Fz; rw [List.getElem?_replicate, if_pos h]
section
variable {α : Type} {f : Sto → R α} {n : Nat}
theorem lift_ok (h0 : 0 < n) (hs : ∀ j x, j < n → Sim j x f) {a : α} {m1 : Sto} (h : f (List.replicate n .nil) = .ok a m1) (r : Sto) (hr : r.length = n) : f r = .ok a r := by
  have em : m1 = List.replicate n .nil := by
    refine all_nil ?_ fun j hj => ?_
    · have q := hs 0 .nil h0 _ (fz_rep h0)
      rw [h] at q
      rw [q.2.1, List.length_replicate]
    · have q := hs j .nil hj _ (fz_rep hj)
      rw [h] at q
      exact q.1
  subst em
  have st : ∀ k, k ≤ n → f (r.take k ++ List.replicate (n - k) .nil) = .ok a (r.take k ++ List.replicate (n - k) .nil) := by
    intro k
    induction k with
    | zero => intro _; simpa using h
    | succ k ih =>
      intro hk
      have q := hs k (r[k]'(by omega)) (by omega) _ (fz_step r hr (by omega))
      rw [ih (by omega)] at q
      have z := q.2.2
      rw [put_step r hr (by omega)] at z
      exact z
  have e := st n (Nat.le_refl _)
  rw [← hr, List.take_length, Nat.sub_self] at e
  simpa using e
theorem lift_exc (h0 : 0 < n) (hs : ∀ j x, j < n → Sim j x f) {a : Xc} {m1 : Sto} (h : f (List.replicate n .nil) = .exc a m1) (r : Sto) (hr : r.length = n) : f r = .exc a r := by
  have em : m1 = List.replicate n .nil := by
    refine all_nil ?_ fun j hj => ?_
    · have q := hs 0 .nil h0 _ (fz_rep h0)
      rw [h] at q
      rw [q.2.1, List.length_replicate]
    · have q := hs j .nil hj _ (fz_rep hj)
      rw [h] at q
      exact q.1
  subst em
  have st : ∀ k, k ≤ n → f (r.take k ++ List.replicate (n - k) .nil) = .exc a (r.take k ++ List.replicate (n - k) .nil) := by
    intro k
    induction k with
    | zero => intro _; simpa using h
    | succ k ih =>
      intro hk
      have q := hs k (r[k]'(by omega)) (by omega) _ (fz_step r hr (by omega))
      rw [ih (by omega)] at q
      have z := q.2.2
      rw [put_step r hr (by omega)] at z
      exact z
  have e := st n (Nat.le_refl _)
  rw [← hr, List.take_length, Nat.sub_self] at e
  simpa using e
end
/-! ### statements -/
section
variable {W : Wd} {C : Cal} {b : Nat}
theorem exs_app {l r : List EV.St} {s s' : Slots} {m m' : Sto} (h : exs W C b l s m = .ok (.nx s') m') : exs W C b (l ++ r) s m = exs W C b r s' m' := by
  induction l generalizing s m with
  | nil =>
    simp only [exs] at h
    cases h
    rfl
  | cons y l ih =>
    rw [x_cons] at h
    rw [List.cons_append, x_cons]
    cases q : exS W C b y s m with
    | ok o m1 =>
      rw [q] at h
      simp only [R.bind] at h ⊢
      cases o with
      | nx s1 => exact ih h
      | ret v => cases h
      | brk s1 => cases h
      | ctn s1 => cases h
    | exc e m1 => rw [q] at h; cases h
    | bad => rw [q] at h; cases h
theorem evs2 {e : Ex} {s : Slots} {m : Sto} {l : Nat} {d : D} (h0 : s[0]? = some (some (.loc l))) (h : ev W C e s m = .ok (.dat d) m) : evs W C [.var 0, e] s m = .ok [.loc l, .dat d] m := by
  have q : ev W C (.var 0) s m = .ok (.loc l) m := by simp [v_var, h0]
  simp [evs, q, h, bi_ok]
theorem st_set {i : Nat} {e : Ex} {s : Slots} {d : D} {m : Sto} (hi : i < s.length) (h : ev W C e s m = .ok (.dat d) m) : exS W C b (.set (.nm i) e) s m = .ok (.nx (s.set i (some (.dat d)))) m := by
  rw [x_set, h]
  show (if i < s.length then _ else _) = _
  rw [if_pos hi]
theorem st_no {t : Tx} {a c : List EV.St} {s s' : Slots} {m m1 m' : Sto} (h : evT W C t s m = .ok false m1) (h2 : exs W C b c s m1 = .ok (.nx s') m') : exS W C b (.ife t a c) s m = .ok (.nx s') m' := by
  rw [x_ife, h]
  exact h2
theorem st_yes {t : Tx} {a c : List EV.St} {s s' : Slots} {m m1 m' : Sto} (h : evT W C t s m = .ok true m1) (h2 : exs W C b a s m1 = .ok (.nx s') m') : exS W C b (.ife t a c) s m = .ok (.nx s') m' := by
  rw [x_ife, h]
  exact h2
end
/-! ### calls, told -/
section
variable {W0 : Wd}
def okV : RV → Bool
  | .vl (.dat _) => true
  | .new _ => true
  | _ => false
/-- how a call ends over n cells -/
def twk (W0 : Wd) (T : Tl) (N n F : Nat) (vs : List Vl) : Option Str := match callF W0 N F vs (List.replicate n .nil) with
  | .ok v _ => if okV v = true then some T.fine else none
  | .exc e _ => tellC T.cs e
  | .bad => none
def Tw (W0 : Wd) (T : Tl) (N n F : Nat) (vs : List Vl) (y : Str) : Prop := ∀ r : Sto, r.length = n → (∃ v, callF W0 N F vs r = .ok v r ∧ okV v = true ∧ y = T.fine) ∨ (∃ e, callF W0 N F vs r = .exc e r ∧ tellC T.cs e = some y)
theorem twk_ok (hW : W0.ap = apBad) {T : Tl} {N n F : Nat} {vs : List Vl} {y : Str} (h0 : 0 < n) (h : twk W0 T N n F vs = some y) : Tw W0 T N n F vs y := by
  intro r hr
  have hs : ∀ j x, j < n → Sim j x (fun m => callF W0 N F vs m) := fun j x _ => sim_call (simA_bad hW) N F vs
  unfold twk at h
  split at h
  · rename_i v m1 q
    split at h
    · rename_i hv
      exact .inl ⟨v, lift_ok h0 hs q r hr, hv, by cases h; rfl⟩
    · cases h
  · rename_i e m1 q
    exact .inr ⟨e, lift_exc h0 hs q r hr, h⟩
  · cases h
/-- a call's datum over n cells -/
def clD (W0 : Wd) (N n F : Nat) (vs : List Vl) : Option D := match callF W0 N F vs (List.replicate n .nil) with
  | .ok (.vl (.dat d)) _ => some d
  | _ => none
theorem clD_ok (hW : W0.ap = apBad) {N n F : Nat} {vs : List Vl} {d : D} (h0 : 0 < n) (h : clD W0 N n F vs = some d) (r : Sto) (hr : r.length = n) : callF W0 N F vs r = .ok (.vl (.dat d)) r := by
  unfold clD at h
  split at h
  · rename_i d' m1 q
    cases h
    exact lift_ok h0 (fun j x _ => sim_call (simA_bad hW) N F vs) q r hr
  · cases h
theorem call_told {T : Tl} {N n F : Nat} {W1 : Wd} {es : List Ex} {s : Slots} {vs : List Vl} {y : Str} {r : Sto} (hr : r.length = n) (h1 : evs W1 (callF W0 N) es s r = .ok vs r) (h : Tw W0 T N n F vs y) : tellR T (ev W1 (callF W0 N) (.call F es) s r) = .ok (.str y) r := by
  rw [v_call, h1]
  show tellR T ((callF W0 N F vs r).bind _) = _
  rcases h r hr with ⟨v, q, hv, rfl⟩ | ⟨e, q, t⟩
  · rw [q]
    cases v with
    | vl w =>
      cases w with
      | dat d => rfl
      | loc _ => cases hv
      | fns _ => cases hv
    | new xs => rfl
  · rw [q]
    show (match tellC T.cs e with
        | some y => R.ok (D.str y) r
        | none => .bad) = _
    rw [t]
def tellV (T : Tl) : R Vl → R Vl
  | .ok _ m => .ok (.dat (.str T.fine)) m
  | .exc x m => match tellC T.cs x with
    | some y => .ok (.dat (.str y)) m
    | none => .bad
  | .bad => .bad
theorem v_told (W : Wd) (C : Cal) (t : Nat) (e : Ex) (s : Slots) (m : Sto) : ev W C (.told t e) s m = match W.tl[t]? with
    | some T => tellV T (ev W C e s m)
    | none => .bad := by
  simp only [ev]
  cases W.tl[t]? with
  | none => rfl
  | some T => cases ev W C e s m <;> rfl
/-- a told call -/
theorem told_ev {T : Tl} {N n F t : Nat} {W1 : Wd} (hT : W1.tl[t]? = some T) {es : List Ex} {s : Slots} {vs : List Vl} {y : Str} {r : Sto} (hr : r.length = n) (h1 : evs W1 (callF W0 N) es s r = .ok vs r) (h : Tw W0 T N n F vs y) :
    ev W1 (callF W0 N) (.told t (.call F es)) s r = .ok (.dat (.str y)) r := by
  rw [v_told, hT, v_call, h1]
  show tellV T ((callF W0 N F vs r).bind _) = _
  rcases h r hr with ⟨v, q, hv, rfl⟩ | ⟨e, q, t⟩
  · rw [q]
    cases v with
    | vl w =>
      cases w with
      | dat d => rfl
      | loc _ => cases hv
      | fns _ => cases hv
    | new xs => rfl
  · rw [q]
    show (match tellC T.cs e with
        | some y => R.ok (Vl.dat (.str y)) r
        | none => .bad) = _
    rw [t]
/-- lambdas of a def, each told -/
inductive Tells (T : Tl) (ap : Nat → Slots → Sto → R Vl) (s : Slots) (r : Sto) : List Nat → List Str → Prop
  | nil : Tells T ap s r [] []
  | cons {k : Nat} {ks : List Nat} {y : Str} {ys : List Str} : tellR T (ap k s r) = .ok (.str y) r → Tells T ap s r ks ys → Tells T ap s r (k :: ks) (y :: ys)
theorem tells_all {T : Tl} {ap : Nat → Slots → Sto → R Vl} {s : Slots} {r : Sto} {ks : List Nat} {ys : List Str} (h : Tells T ap s r ks ys) : tellAll T ap s ks r = .ok (ys.map .str) r := by
  induction h with
  | nil => rfl
  | cons h1 _ ih => simp only [tellAll, h1, bi_ok, ih]; rfl
theorem tolds_ev {T : Tl} {W1 : Wd} {C : Cal} {t i : Nat} {s : Slots} {r : Sto} {ks : List Nat} {ys : List Str} (hT : W1.tl[t]? = some T) (hs : s[i]? = some (some (.fns ks))) (h : Tells T W1.ap s r ks ys) : ev W1 C (.tolds t i) s r = .ok (.dat (.lst (ys.map .str))) r := by
  simp only [ev]
  rw [hT, hs]
  show (tellAll T W1.ap s ks r).bind _ = _
  rw [tells_all h]
  rfl
theorem tell_lam {T : Tl} {N n F k : Nat} {f : Fn} {es : List Ex} {s : Slots} {vs : List Vl} {y : Str} {r : Sto} (hf : f.lms ≠ []) (hr : r.length = n) (hk : f.lms[k]? = some (.call F es)) (h1 : evs W0 (callF W0 N) es s r = .ok vs r) (h : Tw W0 T N n F vs y) :
    tellR T ((wdOf W0 (callF W0 N) f).ap k s r) = .ok (.str y) r := by
  have e : (wdOf W0 (callF W0 N) f).ap = apOf W0 (callF W0 N) f.lms := by
    unfold wdOf
    split
    · rename_i q; exact absurd q hf
    · rfl
  rw [e]
  unfold apOf
  rw [hk]
  exact call_told hr h1 h
end
/-! ### the first word that is not fine -/
def ntF (x : Str) : Bool := !decide (x = "fine")
def firstS (l : List Str) : Str := (l.filter ntF).headD "fine"
def FIRST : Fn := ⟨1, 2, 0, [], [.ret (.sub (.bin .Add (.comp (.nm 1) .seq [(.var 0)] [(.cmp .NotEq (.var 1) (.cst (.str "fine")))] (.var 1)) (.lst [(.cst (.str "fine"))])) (.cst (.int 0)))], false, []⟩
section
variable {W : Wd} {C : Cal}
theorem first_turn (s1 : Option Vl) (d0 : Option Vl) (x : Str) (m : Sto) : turnC W C (.nm 1) [(.cmp .NotEq (.var 1) (.cst (.str "fine")))] (.var 1) [d0, s1] (.str x) m = .ok (if x = "fine" then none else some (.str x)) m := by
  unfold turnC
  simp only [tgD, slotsOf, wipeS, List.length_set, List.length_cons, List.length_nil, Nat.zero_add, Nat.reduceAdd, Nat.reduceLT, if_true, List.set_cons_succ, List.set_cons_zero]
  have e : evIfs W C [(.cmp .NotEq (.var 1) (.cst (.str "fine")))] [d0, some (.dat (.str x))] m = .ok (!decide (x = "fine")) m := by
    simp [x_nil, x_cons, x_set, x_setT, x_par, x_ife, x_ret, x_retf, n_lst, n_call, x_newl, x_exp, bi_ok, bi_bad, of_some, lk_dat, lks_nil, lks_cons, do_nil, do_cons, op_some, ob_some, b_add, b_sub, c_lt, c_le, c_gt, c_ge, c_eqS, c_neS, c_eqI, c_neI, c_eqB, c_neB, c_eqT, c_neT, c_eqL, c_neL, c_isB, c_isntB, c_is, c_isnt, eq_int, eq_bl, eq_pair, t_bl, t_int, t_lst, t_tup, l_tup, l_lst, l_scr, l_abs, l_int, l_intB, l_max, l_min, l_tt, l_tl, l_all, l_any, l_repr, s_tup, s_lst, s_scr, i_tt, i_ii, i_ib, i_it, ix0, ix1, ix2, v_var, v_cst, v_glo, v_tup, v_lst, v_lsts, d_nil, d_star, d_one, l_max1, l_min1, l_sum, v_bin, v_neg, v_nt, v_cmp, v_chain, v_and, v_or, v_ite, v_sub, v_rev, v_call, v_blt, v_isi, v_comp, evs, evAnd, evOr, evIfs, evT, evTAnd, evTOr, parS, bi_asc, tgD, tgDs, wipeS, slotsOf, slotsOfs, szk, cmpD]
  rw [e]
  by_cases h : x = "fine"
  · simp [h, noX, bi_ok]
  · have e2 : ev W C (.var 1) [d0, some (.dat (.str x))] m = .ok (.dat (.str x)) m := by simp [x_nil, x_cons, x_set, x_setT, x_par, x_ife, x_ret, x_retf, n_lst, n_call, x_newl, x_exp, bi_ok, bi_bad, of_some, lk_dat, lks_nil, lks_cons, do_nil, do_cons, op_some, ob_some, b_add, b_sub, c_lt, c_le, c_gt, c_ge, c_eqS, c_neS, c_eqI, c_neI, c_eqB, c_neB, c_eqT, c_neT, c_eqL, c_neL, c_isB, c_isntB, c_is, c_isnt, eq_int, eq_bl, eq_pair, t_bl, t_int, t_lst, t_tup, l_tup, l_lst, l_scr, l_abs, l_int, l_intB, l_max, l_min, l_tt, l_tl, l_all, l_any, l_repr, s_tup, s_lst, s_scr, i_tt, i_ii, i_ib, i_it, ix0, ix1, ix2, v_var, v_cst, v_glo, v_tup, v_lst, v_lsts, d_nil, d_star, d_one, l_max1, l_min1, l_sum, v_bin, v_neg, v_nt, v_cmp, v_chain, v_and, v_or, v_ite, v_sub, v_rev, v_call, v_blt, v_isi, v_comp, evs, evAnd, evOr, evIfs, evT, evTAnd, evTOr, parS, bi_asc, tgD, tgDs, wipeS, slotsOf, slotsOfs, szk]
    simp [h, noX, bi_ok, e2]
theorem first_loop (s1 : Option Vl) (d0 : Option Vl) (m : Sto) : ∀ (l : List Str) (acc : List D), loopC (turnC W C (.nm 1) [(.cmp .NotEq (.var 1) (.cst (.str "fine")))] (.var 1) [d0, s1]) (l.map .str) acc m = .ok (acc ++ (l.filter ntF).map .str) m
  | [], acc => by simp [loopC]
  | x :: l, acc => by
    rw [List.map_cons]
    simp only [loopC, first_turn, bi_ok]
    by_cases h : x = "fine"
    · have hn : ntF x = false := by unfold ntF; simp [h]
      simp only [if_pos h, first_loop s1 d0 m l acc]
      rw [List.filter_cons_of_neg (by simp [hn])]
    · have hn : ntF x = true := by unfold ntF; simp [h]
      simp only [if_neg h, first_loop s1 d0 m l]
      rw [List.filter_cons_of_pos hn, List.map_cons, List.append_assoc]
      rfl
end
theorem sub_hd (d : D) (ds : List D) : subD (.lst (d :: ds)) (.int 0) = some d := by
  show (ixD (ds.length + 1) 0).bind _ = _
  unfold ixD
  rw [if_pos (by decide), if_pos (by omega)]
  rfl
theorem first_ok {W0 : Wd} {k : Nat} (hk : W0.fn[k]? = some FIRST) (N : Nat) (l : List Str) (hl : l.length ≤ 100) (m : Sto) : callF W0 (N + 1) k [.dat (.lst (l.map .str))] m = .ok (.vl (.dat (.str (firstS l)))) m := by
  rw [callF_at hk]
  refine ru_dat rfl rfl rfl rfl ?_
  have e : evC W0 (callF W0 N) (.nm 1) .seq [(.var 0)] [(.cmp .NotEq (.var 1) (.cst (.str "fine")))] (.var 1) [some (.dat (.lst (l.map .str))), none] m = .ok ((l.filter ntF).map .str) m := by
    unfold evC
    have v : evs W0 (callF W0 N) [(.var 0)] [some (.dat (.lst (l.map .str))), none] m = .ok [.dat (.lst (l.map .str))] m := by simp [x_nil, x_cons, x_set, x_setT, x_par, x_ife, x_ret, x_retf, n_lst, n_call, x_newl, x_exp, bi_ok, bi_bad, of_some, lk_dat, lks_nil, lks_cons, do_nil, do_cons, op_some, ob_some, b_add, b_sub, c_lt, c_le, c_gt, c_ge, c_eqS, c_neS, c_eqI, c_neI, c_eqB, c_neB, c_eqT, c_neT, c_eqL, c_neL, c_isB, c_isntB, c_is, c_isnt, eq_int, eq_bl, eq_pair, t_bl, t_int, t_lst, t_tup, l_tup, l_lst, l_scr, l_abs, l_int, l_intB, l_max, l_min, l_tt, l_tl, l_all, l_any, l_repr, s_tup, s_lst, s_scr, i_tt, i_ii, i_ib, i_it, ix0, ix1, ix2, v_var, v_cst, v_glo, v_tup, v_lst, v_lsts, d_nil, d_star, d_one, l_max1, l_min1, l_sum, v_bin, v_neg, v_nt, v_cmp, v_chain, v_and, v_or, v_ite, v_sub, v_rev, v_call, v_blt, v_isi, v_comp, evs, evAnd, evOr, evIfs, evT, evTAnd, evTOr, parS, bi_asc, tgD, tgDs, wipeS, slotsOf, slotsOfs, szk]
    rw [v]
    show (if szOk ((l.map D.str).length) = true then loopC _ (l.map .str) [] m else .bad) = _
    rw [if_pos (szl (by rw [List.length_map]; exact hl)), first_loop]
    simp
  show exs W0 (callF W0 N) m.length [.ret _] [some (.dat (.lst (l.map .str))), none] m = _
  have hz : szOk ((l.filter ntF).length + 1) = true := szk (by
    have := List.length_filter_le ntF l
    omega)
  have e2 : ev W0 (callF W0 N) (.bin .Add (.comp (.nm 1) .seq [(.var 0)] [(.cmp .NotEq (.var 1) (.cst (.str "fine")))] (.var 1)) (.lst [(.cst (.str "fine"))])) [some (.dat (.lst (l.map .str))), none] m = .ok (.dat (.lst ((l.filter ntF).map .str ++ [.str "fine"]))) m := by
    rw [v_bin, v_comp, e]
    simp [x_nil, x_cons, x_set, x_setT, x_par, x_ife, x_ret, x_retf, n_lst, n_call, x_newl, x_exp, bi_ok, bi_bad, of_some, lk_dat, lks_nil, lks_cons, do_nil, do_cons, op_some, ob_some, b_add, b_sub, c_lt, c_le, c_gt, c_ge, c_eqS, c_neS, c_eqI, c_neI, c_eqB, c_neB, c_eqT, c_neT, c_eqL, c_neL, c_isB, c_isntB, c_is, c_isnt, eq_int, eq_bl, eq_pair, t_bl, t_int, t_lst, t_tup, l_tup, l_lst, l_scr, l_abs, l_int, l_intB, l_max, l_min, l_tt, l_tl, l_all, l_any, l_repr, s_tup, s_lst, s_scr, i_tt, i_ii, i_ib, i_it, ix0, ix1, ix2, v_var, v_cst, v_glo, v_tup, v_lst, v_lsts, d_nil, d_star, d_one, l_max1, l_min1, l_sum, v_bin, v_neg, v_nt, v_cmp, v_chain, v_and, v_or, v_ite, v_sub, v_rev, v_call, v_blt, v_isi, v_comp, evs, evAnd, evOr, evIfs, evT, evTAnd, evTOr, parS, bi_asc, tgD, tgDs, wipeS, slotsOf, slotsOfs, szk, binD, hz]
  rw [x_cons, x_ret, v_sub, e2]
  have e3 : subD (.lst ((l.filter ntF).map .str ++ [.str "fine"])) (.int 0) = some (.str (firstS l)) := by
    unfold firstS
    cases q : l.filter ntF with
    | nil => rfl
    | cons y r => exact sub_hd _ _
  simp [x_nil, x_cons, x_set, x_setT, x_par, x_ife, x_ret, x_retf, n_lst, n_call, x_newl, x_exp, bi_ok, bi_bad, of_some, lk_dat, lks_nil, lks_cons, do_nil, do_cons, op_some, ob_some, b_add, b_sub, c_lt, c_le, c_gt, c_ge, c_eqS, c_neS, c_eqI, c_neI, c_eqB, c_neB, c_eqT, c_neT, c_eqL, c_neL, c_isB, c_isntB, c_is, c_isnt, eq_int, eq_bl, eq_pair, t_bl, t_int, t_lst, t_tup, l_tup, l_lst, l_scr, l_abs, l_int, l_intB, l_max, l_min, l_tt, l_tl, l_all, l_any, l_repr, s_tup, s_lst, s_scr, i_tt, i_ii, i_ib, i_it, ix0, ix1, ix2, v_var, v_cst, v_glo, v_tup, v_lst, v_lsts, d_nil, d_star, d_one, l_max1, l_min1, l_sum, v_bin, v_neg, v_nt, v_cmp, v_chain, v_and, v_or, v_ite, v_sub, v_rev, v_call, v_blt, v_isi, v_comp, evs, evAnd, evOr, evIfs, evT, evTAnd, evTOr, parS, bi_asc, tgD, tgDs, wipeS, slotsOf, slotsOfs, szk, e3]
/-! ### lists of words are alike -/
def wdS (x : Str) : Bool := SeqAt.shaped (.str x)
theorem strs_py : ∀ l : List Str, toPys (l.map .str) = some (l.map .str)
  | [] => rfl
  | x :: l => by rw [List.map_cons]; simp only [toPys, toPy, strs_py l]; rfl
theorem strs_lay : ∀ l : List Str, l.all wdS = true → PyData.canLayAll0 (l.map .str) = true ∧ PyData.depthAll (l.map .str) ≤ 1
  | [], _ => ⟨rfl, by decide⟩
  | x :: l, h => by
    rw [List.all_cons, Bool.and_eq_true] at h
    obtain ⟨h1, h2⟩ := strs_lay l h.2
    have h0 := SeqAt.canLay_of_shaped (show SeqAt.shaped (.str x) = true from h.1)
    rw [List.map_cons]
    refine ⟨by simp only [PyData.canLayAll0, h0, h1]; rfl, ?_⟩
    simp only [PyData.depthAll, PyData.depth]
    omega
theorem strs_shaped {l : List Str} (h : l.all wdS = true) : SeqAt.shaped (.list (l.map .str)) = true := by
  obtain ⟨h1, h2⟩ := strs_lay l h
  unfold SeqAt.shaped
  rw [Bool.and_eq_true]
  refine ⟨h1, decide_eq_true ?_⟩
  simp only [PyData.depth]
  omega
theorem strs_eqv {l : List Str} (h : l.all wdS = true) : eqD (.lst (l.map .str)) (.lst (l.map .str)) = some true := by
  have e : toPy (.lst (l.map .str)) = some (.list (l.map .str)) := by simp only [toPy, strs_py]; rfl
  have s := strs_shaped h
  unfold eqD
  rw [e]
  show (if (SeqAt.shaped (.list (l.map .str)) && SeqAt.shaped (.list (l.map .str))) = true then some (PyData.eqv (.list (l.map .str)) (.list (l.map .str))) else none) = some true
  rw [s, SeqAt.eqv_refl _ (SeqAt.canLay_of_shaped s)]
  rfl
theorem strs_ne {l : List Str} (h : l.all wdS = true) : cmpD .NotEq (.lst (l.map .str)) (.lst (l.map .str)) = some false := by
  show (eqD _ _).map _ = _
  rw [strs_eqv h]
  rfl
theorem strs_eq {l : List Str} (h : l.all wdS = true) : cmpD .Eq (.lst (l.map .str)) (.lst (l.map .str)) = some true := strs_eqv h
theorem first_mem {l : List Str} : firstS l = "fine" ∨ firstS l ∈ l := by
  unfold firstS
  cases q : l.filter ntF with
  | nil => exact .inl rfl
  | cons y r =>
    refine .inr ?_
    have : y ∈ l.filter ntF := by rw [q]; exact List.mem_cons_self
    exact (List.mem_filter.mp this).1
theorem first_wd {l : List Str} (h : l.all wdS = true) : wdS (firstS l) = true := by
  rcases first_mem (l := l) with e | e
  · rw [e]; decide +kernel
  · exact List.all_eq_true.mp h _ e
theorem first_fine {l : List Str} : firstS ("fine" :: l) = firstS l := by
  unfold firstS
  rw [List.filter_cons_of_neg (by decide)]
theorem first_hit {x : Str} {l : List Str} (h : x ≠ "fine") : firstS (x :: l) = x := by
  unfold firstS
  rw [List.filter_cons_of_pos (by unfold ntF; simp [h])]
  rfl
/-! ### a pick -/
theorem pick_st {W0 W1 : Wd} {rs : Sto} {ds : List D} {E : Ex} {s : Slots} {k n kr kp b : Nat} {p : Int} (hp : p = 131 ∨ p = 137) (hr : W0.fn[kr]? = some (ROLL p)) (hq : W0.fn[kp]? = some (PICK kr)) (N B : Nat) (m : Sto) (hm : Dm rs m B) (hB : B + 1 ≤ 2 ^ 60) (hl : ds.length = n) (h1 : 1 ≤ n) (h2 : n < 2 ^ 20) (h0 : s[0]? = some (some (.loc 0))) (hk : k < s.length) (hE : ev W1 (callF W0 (N + 2)) E s m = .ok (.dat (.lst ds)) m) :
    ∃ (i : Nat) (m' : Sto), exS W1 (callF W0 (N + 2)) b (.set (.nm k) (.call kp [.var 0, E])) s m = .ok (.nx (s.set k (some (.dat (ds.getD i .non))))) m' ∧ i < n ∧ Dm rs m' (B + 1) := by
  obtain ⟨i, d, m', e, gi, hm'⟩ := pick_g (W0 := W0) hp hr hq N B m ds hm hB (by omega) (by omega)
  have hi : i < n := by
    rw [← hl]
    exact (List.getElem?_eq_some_iff.mp gi).1
  have hd : ds.getD i .non = d := by rw [List.getD_eq_getElem?_getD, gi]; rfl
  refine ⟨i, m', ?_, hi, hm'⟩
  rw [x_set, v_call, evs2 h0 hE, hd]
  show ((callF W0 (N + 2) kp [.loc 0, .dat (.lst ds)] m).bind _).bind _ = _
  rw [e]
  show (if k < s.length then _ else _) = _
  rw [if_pos hk]
theorem dm_one {m : Sto} {B : Nat} (h : Dm [] m B) : ∃ x, m = [x] := by
  obtain ⟨a, b, c, rfl, _⟩ := h
  exact ⟨_, rfl⟩
end MN

set_option Elab.async false
set_option linter.all false
set_option maxRecDepth 100000
set_option maxHeartbeats 4000000
namespace K20
open PySem PySem.Spec PyProof.Rows L2 EV
/-! ### the text by places -/
def top (i : Nat) : Stmt := PySem.Challenge.pw_handbetween_k20_whole_errors.main.body.getD i (.Pass ⟨0, 0, 0, 0⟩)
/-! ### the defs in the small language -/
def b_law_dice : List EV.St := [.set (.nm 2) (.ite (.cmp .Lt (.var 1) (.blt .len [(.var 0)])) (.blt .int [(.sub (.var 0) (.var 1))]) (.bin .Add (.bin .Mult (.cst (.int 131)) (.var 1)) (.cst (.int 37)))),
  .set (.nm 3) (.bin .Mod (.blt .int [(.blt .abs [(.var 2)])]) (.bin .Pow (.bin .Pow (.cst (.int 10)) (.cst (.int 53))) (.cst (.int 6)))),
  .set (.nm 4) (.bin .Add (.bin .Add (.bin .Add (.bin .Mult (.bin .Mod (.var 3) (.cst (.int 2305843009213693907))) (.cst (.int 73))) (.bin .Mult (.cst (.int 619)) (.var 1))) (.bin .Mult (.cst (.int 41)) (.blt .int [(.cmp .Lt (.var 2) (.cst (.int 0)))]))) (.cst (.int 17))),
  .retf (.lst [(.blt .max2 [(.cst (.int 0)), (.bin .Sub (.var 3) (.bin .Pow (.cst (.int 10)) (.cst (.int 16))))]), (.var 4), (.cst (.int 0))])]
def d_law_dice : Fn := ⟨2, 5, 0, [], b_law_dice, false, []⟩
def s_law_dice : FS := ⟨"_law_dice", "_law_dice", top 21, ["script", "spot", "cell", "great", "seed"], ["script", "spot"], d_law_dice⟩
def b_law_roll : List EV.St := [.ife (.cmp .Gt (.sub (.var 0) (.cst (.int 0))) (.cst (.int 0)))
  [.set (.nm 2) (.bin .Mod (.sub (.var 0) (.cst (.int 0))) (.var 1)),
  .sset 0 (.cst (.int 0)) (.bin .FloorDiv (.sub (.var 0) (.cst (.int 0))) (.var 1)),
  .ret (.blt .int [(.var 2)])]
  [],
  .sset 0 (.cst (.int 2)) (.bin .Add (.sub (.var 0) (.cst (.int 2))) (.cst (.int 1))),
  .set (.nm 3) (.bin .Mod (.bin .Add (.sub (.var 0) (.cst (.int 1))) (.bin .Mult (.cst (.int 49979687)) (.sub (.var 0) (.cst (.int 2))))) (.cst (.int 2305843009213693951))),
  .set (.nm 4) (.bin .Add (.bin .Mult (.bin .Mod (.bin .Add (.bin .Mult (.var 3) (.var 3)) (.bin .Mult (.cst (.int 131)) (.sub (.var 0) (.cst (.int 2))))) (.cst (.int 2305843009213693921))) (.cst (.int 32452843))) (.var 3)),
  .ret (.bin .Mod (.blt .int [(.bin .FloorDiv (.var 4) (.cst (.int 65587)))]) (.var 1))]
def d_law_roll : Fn := ⟨2, 5, 0, [], b_law_roll, false, []⟩
def s_law_roll : FS := ⟨"_law_roll", "_law_roll", top 22, ["dice", "total", "found", "one", "two"], ["dice", "total"], d_law_roll⟩
def b_law_pick : List EV.St := [.ret (.sub (.var 1) (.call 1 [(.var 0), (.blt .len [(.var 1)])]))]
def d_law_pick : Fn := ⟨2, 2, 0, [], b_law_pick, false, []⟩
def s_law_pick : FS := ⟨"_law_pick", "_law_pick", top 23, ["dice", "items"], ["dice", "items"], d_law_pick⟩
def b_law_words : List EV.St := [.newl 1 0 (.lst [(.isx (.var 0) 0), (.isx (.var 0) 1), (.isx (.var 0) 2)]),
  .newl 1 0 (.bin .Add (.var 1) (.lst [(.isx (.var 0) 3), (.isx (.var 0) 4), (.isx (.var 0) 5)])),
  .newl 1 0 (.bin .Add (.var 1) (.lst [(.isx (.var 0) 6), (.isx (.var 0) 7), (.isx (.var 0) 8)])),
  .newl 1 0 (.bin .Add (.var 1) (.lst [(.isx (.var 0) 9), (.isx (.var 0) 10)])),
  .app 1 (.isx (.var 0) 11),
  .app 1 (.isx (.var 0) 12),
  .newl 1 0 (.bin .Add (.var 1) (.lst [(.isx (.var 0) 13), (.isx (.var 0) 14), (.isx (.var 0) 15)])),
  .newl 1 0 (.bin .Add (.var 1) (.lst [(.isx (.var 0) 16), (.isx (.var 0) 17), (.isx (.var 0) 18)])),
  .newl 1 0 (.bin .Add (.var 1) (.lst [(.isb (.var 0) "ValueError"), (.isb (.var 0) "KeyError"), (.isb (.var 0) "IndexError")])),
  .newl 1 0 (.bin .Add (.var 1) (.lst [(.isb (.var 0) "OverflowError"), (.isb (.var 0) "ArithmeticError"), (.isb (.var 0) "LookupError")])),
  .set (.nm 2) (.cst (.str "name fraction row table word house code course rule wheel operation command parse unknown count many")),
  .set (.nm 2) (.bin .Add (.var 2) (.cst (.str " refused"))),
  .set (.nm 2) (.spl (.bin .Add (.var 2) (.cst (.str " undo base value key index over arithmetic lookup"))) " "),
  .frz 1,
  .retf (.comp (.tp [(.nm 3), (.nm 4)]) .zip [(.var 2), (.var 1)] [(.val (.var 4))] (.var 3))]
def d_law_words : Fn := ⟨1, 5, 1, [], b_law_words, false, []⟩
def s_law_words : FS := ⟨"_law_words", "_law_words", top 24, ["error", "told", "names", "name", "one"], ["error"], d_law_words⟩
def b_law_plain : List EV.St := [.ife (.cmp .In (.var 0) (.tup [(.cst (.str "name")), (.cst (.str "fraction")), (.cst (.str "row")), (.cst (.str "table"))]))
  [.set (.nm 1) (.ite (.cmp .Eq (.var 0) (.cst (.str "name"))) (.mk0 0 (.cst (.str "told"))) (.mk0 1 (.cst (.str "told")))),
  .set (.nm 2) (.ite (.cmp .Eq (.var 0) (.cst (.str "row"))) (.mk0 2 (.cst (.str "told"))) (.mk0 3 (.cst (.str "told")))),
  .ret (.ite (.cmp .In (.var 0) (.tup [(.cst (.str "name")), (.cst (.str "fraction"))])) (.var 1) (.var 2))]
  [],
  .ife (.cmp .In (.var 0) (.tup [(.cst (.str "word")), (.cst (.str "house")), (.cst (.str "code")), (.cst (.str "course"))]))
  [.set (.nm 1) (.ite (.cmp .Eq (.var 0) (.cst (.str "word"))) (.mk0 4 (.cst (.str "told"))) (.mk0 5 (.cst (.str "told")))),
  .set (.nm 2) (.ite (.cmp .Eq (.var 0) (.cst (.str "code"))) (.mk0 6 (.cst (.str "told"))) (.mk0 7 (.cst (.str "told")))),
  .ret (.ite (.cmp .In (.var 0) (.tup [(.cst (.str "word")), (.cst (.str "house"))])) (.var 1) (.var 2))]
  [],
  .ife (.cmp .In (.var 0) (.tup [(.cst (.str "rule")), (.cst (.str "wheel"))]))
  [.ret (.ite (.cmp .Eq (.var 0) (.cst (.str "rule"))) (.mk0 8 (.cst (.str "told"))) (.mk0 9 (.cst (.str "told"))))]
  [],
  .ret (.ite (.cmp .Eq (.var 0) (.cst (.str "operation"))) (.mk0 10 (.cst (.str "told"))) (.mk0 11 (.cst (.str "told"))))]
def d_law_plain : Fn := ⟨1, 3, 0, [], b_law_plain, false, []⟩
def s_law_plain : FS := ⟨"_law_plain", "_law_plain", top 25, ["word", "first", "second"], ["word"], d_law_plain⟩
def b_law_keeping : List EV.St := [.ife (.cmp .Eq (.var 0) (.cst (.str "parse")))
  [.set (.nm 2) (.mk1 12 (.var 1)),
  .ret (.tup [(.var 2), (.att (.var 2) "line")])]
  [],
  .ife (.cmp .Eq (.var 0) (.cst (.str "unknown")))
  [.set (.nm 2) (.mk1 13 (.var 1)),
  .ret (.tup [(.var 2), (.att (.var 2) "wanted")])]
  [],
  .ife (.cmp .Eq (.var 0) (.cst (.str "count")))
  [.set (.nm 2) (.mk1 14 (.var 1)),
  .ret (.tup [(.var 2), (.att (.var 2) "given")])]
  [],
  .ife (.cmp .Eq (.var 0) (.cst (.str "many")))
  [.set (.nm 2) (.mk1 15 (.var 1)),
  .ret (.tup [(.var 2), (.att (.var 2) "limit")])]
  [],
  .ife (.cmp .Eq (.var 0) (.cst (.str "refused")))
  [.set (.nm 2) (.mk1 16 (.var 1)),
  .ret (.tup [(.var 2), (.att (.var 2) "reason")])]
  [],
  .set (.nm 2) (.mk1 17 (.var 1)),
  .ret (.tup [(.var 2), (.att (.var 2) "wanted")])]
def d_law_keeping : Fn := ⟨2, 3, 0, [], b_law_keeping, false, []⟩
def s_law_keeping : FS := ⟨"_law_keeping", "_law_keeping", top 26, ["word", "value", "error"], ["word", "value"], d_law_keeping⟩
def b_law_due : List EV.St := [.newd 1 0 (.lit ["unknown", "count", "many"] [(.lst [(.cst (.str "key")), (.cst (.str "lookup"))]), (.lst [(.cst (.str "index")), (.cst (.str "lookup"))]), (.lst [(.cst (.str "over")), (.cst (.str "arithmetic"))])]),
  .upd 1 ["refused", "undo"] [(.lst [(.cst (.str "arithmetic"))]), (.lst [(.cst (.str "lookup"))])],
  .ret (.blt .sorted [(.bin .Add (.lst [(.var 0)]) (.dget (.var 1) (.var 0) (.lst [(.cst (.str "base")), (.cst (.str "value"))])))])]
def d_law_due : Fn := ⟨1, 2, 1, [], b_law_due, false, []⟩
def s_law_due : FS := ⟨"_law_due", "_law_due", top 27, ["word", "beside"], ["word"], d_law_due⟩
def b_law_thrown : List EV.St := [.ife (.cmp .Eq (.var 0) (.cst (.str "unknown")))
  [.rsk 13 (.var 1)]
  [],
  .ife (.cmp .Eq (.var 0) (.cst (.str "count")))
  [.rsk 14 (.var 1)]
  [],
  .ife (.cmp .Eq (.var 0) (.cst (.str "many")))
  [.rsk 15 (.var 1)]
  [],
  .ife (.cmp .Eq (.var 0) (.cst (.str "refused")))
  [.rsk 16 (.var 1)]
  [],
  .ife (.cmp .Eq (.var 0) (.cst (.str "undo")))
  [.rsk 17 (.var 1)]
  [],
  .ife (.cmp .Eq (.var 0) (.cst (.str "parse")))
  [.rsk 12 (.var 1)]
  [],
  .ife (.cmp .Eq (.var 0) (.cst (.str "row")))
  [.rse 2]
  [],
  .rse 5]
def d_law_thrown : Fn := ⟨2, 2, 0, [], b_law_thrown, false, []⟩
def s_law_thrown : FS := ⟨"_law_thrown", "_law_thrown", top 28, ["word", "value"], ["word", "value"], d_law_thrown⟩
def b_law_caught : List EV.St := [.trx (.call 7 [(.var 0), (.var 1)]) [(18, "base"), (13, "unknown"), (14, "count"), (15, "many"), (16, "refused"), (17, "undo")],
  .ret (.cst (.str "none"))]
def d_law_caught : Fn := ⟨2, 2, 0, [], b_law_caught, false, []⟩
def s_law_caught : FS := ⟨"_law_caught", "_law_caught", top 29, ["word", "value"], ["word", "value"], d_law_caught⟩
def b_law : List EV.St := [.fort (.nm 1) .rng1 [(.blt .max2 [(.cst (.int 1)), (.blt .min2 [(.cst (.int 3)), (.blt .len [(.var 0)])])])]
  [.newl 2 0 (.call 0 [(.var 0), (.var 1)]),
  .fort (.nm 3) .seq [(.spl (.cst (.str "name fraction row table word house code course rule wheel operation command")) " ")]
  [.ife (.orl [(.cmp .NotEq (.blt .sorted [(.call 3 [(.call 4 [(.var 3)])])]) (.call 6 [(.var 3)])), (.cmp .NotEq (.call 8 [(.var 3), (.cst .non)]) (.cst (.str "base")))])
  [.ret (.cst (.bl false))]
  []],
  .fort (.nm 3) .seq [(.tup [(.cst (.str "parse")), (.cst (.str "unknown")), (.cst (.str "count")), (.cst (.str "many")), (.cst (.str "refused")), (.cst (.str "undo"))])]
  [.set (.nm 4) (.lst [(.cst .non), (.cst (.int 0)), (.neg (.cst (.int 1))), (.cst (.int 12)), (.cst (.str "a")), (.cst (.str "")), (.tup []), (.tup [(.cst (.str "nought"))]), (.lst [(.cst (.int 1))]), (.cst (.bl true)), (.bin .Pow (.cst (.int 10)) (.cst (.int 30))), (.tup [(.tup [(.cst (.str "a")), (.cst (.int 1))]), (.cst (.int 2))])]),
  .set (.nm 5) (.call 2 [(.var 2), (.ite (.cmp .NotEq (.var 3) (.cst (.str "parse"))) (.var 4) (.lst [(.cst .non), (.cst (.int 0)), (.cst (.int 3)), (.cst (.int 71))]))]),
  .set (.tp [(.nm 6), (.nm 7)]) (.call 5 [(.var 3), (.var 5)]),
  .ife (.orl [(.cmp .NotEq (.blt .sorted [(.call 3 [(.var 6)])]) (.call 6 [(.var 3)])), (.cmp .NotEq (.blt .repr [(.var 7)]) (.blt .repr [(.var 5)]))])
  [.ret (.cst (.bl false))]
  [],
  .ife (.cmp .NotEq (.call 8 [(.var 3), (.var 5)]) (.ite (.cmp .Eq (.var 3) (.cst (.str "parse"))) (.cst (.str "base")) (.var 3)))
  [.ret (.cst (.bl false))]
  []]],
  .ret (.cmp .Eq (.call 3 [(.mk0 18 (.cst (.str "told")))]) (.lst [(.cst (.str "base")), (.cst (.str "value"))]))]
def d_law : Fn := ⟨1, 8, 1, [], b_law, false, []⟩
def s_law : FS := ⟨"law", "law", top 30, ["script", "spot", "dice", "word", "some", "value", "error", "kept"], ["script"], d_law⟩
def fs : List FS := [s_law_dice, s_law_roll, s_law_pick, s_law_words, s_law_plain, s_law_keeping, s_law_due, s_law_thrown, s_law_caught, s_law]
def lms : List FS := []
def xs : List Xk := [⟨"InvalidName", "", none, [0, 18], [("ValueError", true), ("KeyError", false), ("IndexError", false), ("OverflowError", false), ("ArithmeticError", false), ("LookupError", false)]⟩, ⟨"InvalidFraction", "", none, [1, 18], [("ValueError", true), ("KeyError", false), ("IndexError", false), ("OverflowError", false), ("ArithmeticError", false), ("LookupError", false)]⟩, ⟨"InvalidRow", "", none, [2, 18], [("ValueError", true), ("KeyError", false), ("IndexError", false), ("OverflowError", false), ("ArithmeticError", false), ("LookupError", false)]⟩, ⟨"InvalidTable", "", none, [3, 18], [("ValueError", true), ("KeyError", false), ("IndexError", false), ("OverflowError", false), ("ArithmeticError", false), ("LookupError", false)]⟩, ⟨"InvalidWord", "", none, [4, 18], [("ValueError", true), ("KeyError", false), ("IndexError", false), ("OverflowError", false), ("ArithmeticError", false), ("LookupError", false)]⟩, ⟨"InvalidHouse", "", none, [5, 18], [("ValueError", true), ("KeyError", false), ("IndexError", false), ("OverflowError", false), ("ArithmeticError", false), ("LookupError", false)]⟩, ⟨"InvalidCode", "", none, [6, 18], [("ValueError", true), ("KeyError", false), ("IndexError", false), ("OverflowError", false), ("ArithmeticError", false), ("LookupError", false)]⟩, ⟨"InvalidCourse", "", none, [7, 18], [("ValueError", true), ("KeyError", false), ("IndexError", false), ("OverflowError", false), ("ArithmeticError", false), ("LookupError", false)]⟩, ⟨"InvalidRule", "", none, [8, 18], [("ValueError", true), ("KeyError", false), ("IndexError", false), ("OverflowError", false), ("ArithmeticError", false), ("LookupError", false)]⟩, ⟨"InvalidWheel", "", none, [9, 18], [("ValueError", true), ("KeyError", false), ("IndexError", false), ("OverflowError", false), ("ArithmeticError", false), ("LookupError", false)]⟩, ⟨"InvalidOperation", "", none, [10, 18], [("ValueError", true), ("KeyError", false), ("IndexError", false), ("OverflowError", false), ("ArithmeticError", false), ("LookupError", false)]⟩, ⟨"InvalidCommand", "", none, [11, 18], [("ValueError", true), ("KeyError", false), ("IndexError", false), ("OverflowError", false), ("ArithmeticError", false), ("LookupError", false)]⟩, ⟨"ParseError", "line", some [.c "line ", .p], [12, 18], [("ValueError", true), ("KeyError", false), ("IndexError", false), ("OverflowError", false), ("ArithmeticError", false), ("LookupError", false)]⟩, ⟨"UnknownName", "wanted", some [.r, .c " is not there"], [13], [("ValueError", false), ("KeyError", true), ("IndexError", false), ("OverflowError", false), ("ArithmeticError", false), ("LookupError", true)]⟩, ⟨"InvalidCount", "given", some [.r, .c " is given"], [14], [("ValueError", false), ("KeyError", false), ("IndexError", true), ("OverflowError", false), ("ArithmeticError", false), ("LookupError", true)]⟩, ⟨"TooMany", "limit", some [.c "more than ", .p], [15], [("ValueError", false), ("KeyError", false), ("IndexError", false), ("OverflowError", true), ("ArithmeticError", true), ("LookupError", false)]⟩, ⟨"Refused", "reason", some [.c "refused: ", .r], [16], [("ValueError", false), ("KeyError", false), ("IndexError", false), ("OverflowError", false), ("ArithmeticError", true), ("LookupError", false)]⟩, ⟨"NothingToUndo", "wanted", some [.c "nothing for ", .r], [17], [("ValueError", false), ("KeyError", false), ("IndexError", false), ("OverflowError", false), ("ArithmeticError", false), ("LookupError", true)]⟩, ⟨"HouseError", "", none, [18], [("ValueError", true), ("KeyError", false), ("IndexError", false), ("OverflowError", false), ("ArithmeticError", false), ("LookupError", false)]⟩]
def ts : List (Tl × FS) := []
def cs : List (Str × D) := []
def bs : List Str := ["len", "int", "abs", "max", "isinstance", "ValueError", "KeyError", "IndexError", "OverflowError", "ArithmeticError", "LookupError", "zip", "sorted", "range", "min", "repr"]
abbrev W0 : Wd := FS.wd cs fs xs ts
abbrev n0 : Wn := FS.wn cs fs bs xs ts
theorem fs_ok : fs.all (FS.ok W0 n0) = true := by decide +kernel
theorem ts_ok : ts.all (FS.okT W0 n0) = true := by decide +kernel
theorem lms_is : fs.filter (fun F => F.f.lm) = lms := rfl
theorem lms_ok : ∀ F ∈ fs, F.f.lm = true → F ∈ lms := fun F h e => lms_is ▸ List.mem_filter.mpr ⟨h, e⟩
theorem bd_law_dice : BindF s_law_dice := bind0 rfl fun _ _ _ _ _ _ us hl => match us, hl with | [_, _], _ => rfl
theorem bd_law_roll : BindF s_law_roll := bind0 rfl fun _ _ _ _ _ _ us hl => match us, hl with | [_, _], _ => rfl
theorem bd_law_pick : BindF s_law_pick := bind0 rfl fun _ _ _ _ _ _ us hl => match us, hl with | [_, _], _ => rfl
theorem bd_law_words : BindF s_law_words := bind0 rfl fun _ _ _ _ _ _ us hl => match us, hl with | [_], _ => rfl
theorem bd_law_plain : BindF s_law_plain := bind0 rfl fun _ _ _ _ _ _ us hl => match us, hl with | [_], _ => rfl
theorem bd_law_keeping : BindF s_law_keeping := bind0 rfl fun _ _ _ _ _ _ us hl => match us, hl with | [_, _], _ => rfl
theorem bd_law_due : BindF s_law_due := bind0 rfl fun _ _ _ _ _ _ us hl => match us, hl with | [_], _ => rfl
theorem bd_law_thrown : BindF s_law_thrown := bind0 rfl fun _ _ _ _ _ _ us hl => match us, hl with | [_, _], _ => rfl
theorem bd_law_caught : BindF s_law_caught := bind0 rfl fun _ _ _ _ _ _ us hl => match us, hl with | [_, _], _ => rfl
theorem bd_law : BindF s_law := bind0 rfl fun _ _ _ _ _ _ us hl => match us, hl with | [_], _ => rfl
theorem bdt_all : AllF (fun p => BindF p.2) ts := trivial
theorem bd_all : AllF BindF fs := ⟨bd_law_dice, bd_law_roll, bd_law_pick, bd_law_words, bd_law_plain, bd_law_keeping, bd_law_due, bd_law_thrown, bd_law_caught, bd_law, trivial⟩
theorem c_law_dice (lv : Nat) (vs : List Vl) (m : Sto) : callF W0 (lv + 1) 0 vs m = runF W0 (callF W0 lv) d_law_dice vs m := rfl
theorem c_law_roll (lv : Nat) (vs : List Vl) (m : Sto) : callF W0 (lv + 1) 1 vs m = runF W0 (callF W0 lv) d_law_roll vs m := rfl
theorem c_law_pick (lv : Nat) (vs : List Vl) (m : Sto) : callF W0 (lv + 1) 2 vs m = runF W0 (callF W0 lv) d_law_pick vs m := rfl
theorem c_law_words (lv : Nat) (vs : List Vl) (m : Sto) : callF W0 (lv + 1) 3 vs m = runF W0 (callF W0 lv) d_law_words vs m := rfl
theorem c_law_plain (lv : Nat) (vs : List Vl) (m : Sto) : callF W0 (lv + 1) 4 vs m = runF W0 (callF W0 lv) d_law_plain vs m := rfl
theorem c_law_keeping (lv : Nat) (vs : List Vl) (m : Sto) : callF W0 (lv + 1) 5 vs m = runF W0 (callF W0 lv) d_law_keeping vs m := rfl
theorem c_law_due (lv : Nat) (vs : List Vl) (m : Sto) : callF W0 (lv + 1) 6 vs m = runF W0 (callF W0 lv) d_law_due vs m := rfl
theorem c_law_thrown (lv : Nat) (vs : List Vl) (m : Sto) : callF W0 (lv + 1) 7 vs m = runF W0 (callF W0 lv) d_law_thrown vs m := rfl
theorem c_law_caught (lv : Nat) (vs : List Vl) (m : Sto) : callF W0 (lv + 1) 8 vs m = runF W0 (callF W0 lv) d_law_caught vs m := rfl
theorem c_law (lv : Nat) (vs : List Vl) (m : Sto) : callF W0 (lv + 1) 9 vs m = runF W0 (callF W0 lv) d_law vs m := rfl
theorem tab {K : PySem.W.Frag} {q P : Program} {mg : Str → Option Value} {h : Heap} {ps as : List Addr} (kin : K.In h) (G : h.Ns mainGlobals mg) (hf : AllF (FnIn K) fs) (hc : AllF (ConIn K) cs) (hb : AllF (NoIn K) bs) (hx : XkAll K P xs as) (hs : SbAll K as xs as) (hl : LmAll K q lms ps) (hd : ps.Nodup) (ht : AllF (fun p => FnIn K p.2) ts) :
    ∃ ad : Adr, Tab K ad W0 n0 mg P ∧ ∀ p ∈ ad.tb, K.lookup p.1 = none ∧ ∃ (c : Addr) (x : Str) (dr : DefRec), PySem.W.tabIn K x = some (c, p.1) ∧ (recsOf q).find? (fun e => e.name == x) = some dr := tab_of kin G hf hc hb hx hs (by decide +kernel) hl hd ht fs_ok bd_all lms_ok ts_ok bdt_all
end K20

set_option Elab.async false
set_option linter.all false
set_option maxRecDepth 100000
set_option maxHeartbeats 4000000
set_option exponentiation.threshold 10000
namespace K20
open PySem EV DICE MN
abbrev C8 : Cal := callF W0 39
abbrev st (x : Str) : Option Vl := some (.dat (.str x))
abbrev da (d : D) : Option Vl := some (.dat d)
def W12 : List Str := ["name", "fraction", "row", "table", "word", "house", "code", "course", "rule", "wheel", "operation", "command"]
def W6 : List Str := ["parse", "unknown", "count", "many", "refused", "undo"]
def SV : List D := [.non, .int 0, .int (-1), .int 12, .str "a", .str "", .tup [], .tup [.str "nought"], .lst [.int 1], .bl true, .int 1000000000000000000000000000000, .tup [.tup [.str "a", .int 1], .int 2]]
def PV : List D := [.non, .int 0, .int 3, .int 71]
def vals (w : Str) : List D := if w = "parse" then PV else SV
def isF : R Bool → Bool
  | .ok false _ => true
  | _ => false
def T1 : Tx := .orl [(.cmp .NotEq (.blt .sorted [(.call 3 [(.call 4 [(.var 3)])])]) (.call 6 [(.var 3)])), (.cmp .NotEq (.call 8 [(.var 3), (.cst .non)]) (.cst (.str "base")))]
def T2 : Tx := .orl [(.cmp .NotEq (.blt .sorted [(.call 3 [(.var 6)])]) (.call 6 [(.var 3)])), (.cmp .NotEq (.blt .repr [(.var 7)]) (.blt .repr [(.var 5)]))]
def T3 : Tx := .cmp .NotEq (.call 8 [(.var 3), (.var 5)]) (.ite (.cmp .Eq (.var 3) (.cst (.str "parse"))) (.cst (.str "base")) (.var 3))
def NO : List EV.St := [.ret (.cst (.bl false))]
def SRC1 : Ex := .spl (.cst (.str "name fraction row table word house code course rule wheel operation command")) " "
def SRC2 : Ex := .tup [(.cst (.str "parse")), (.cst (.str "unknown")), (.cst (.str "count")), (.cst (.str "many")), (.cst (.str "refused")), (.cst (.str "undo"))]
def SOMEE : Ex := .lst [(.cst .non), (.cst (.int 0)), (.neg (.cst (.int 1))), (.cst (.int 12)), (.cst (.str "a")), (.cst (.str "")), (.tup []), (.tup [(.cst (.str "nought"))]), (.lst [(.cst (.int 1))]), (.cst (.bl true)), (.bin .Pow (.cst (.int 10)) (.cst (.int 30))), (.tup [(.tup [(.cst (.str "a")), (.cst (.int 1))]), (.cst (.int 2))])]
def PICKE : Ex := .ite (.cmp .NotEq (.var 3) (.cst (.str "parse"))) (.var 4) (.lst [(.cst .non), (.cst (.int 0)), (.cst (.int 3)), (.cst (.int 71))])
def L1 : EV.St := .fort (.nm 3) .seq [SRC1] [.ife T1 NO []]
def B2 : List EV.St := [.set (.nm 4) SOMEE, .set (.nm 5) (.call 2 [(.var 2), PICKE]), .set (.tp [(.nm 6), (.nm 7)]) (.call 5 [(.var 3), (.var 5)]), .ife T2 NO [], .ife T3 NO []]
def L2 : EV.St := .fort (.nm 3) .seq [SRC2] B2
def OUT : List EV.St := [.newl 2 0 (.call 0 [(.var 0), (.var 1)]), L1, L2]
def RET : Ex := .cmp .Eq (.call 3 [(.mk0 18 (.cst (.str "told")))]) (.lst [(.cst (.str "base")), (.cst (.str "value"))])
theorem b_law_eq : b_law = [.fort (.nm 1) .rng1 [(.blt .max2 [(.cst (.int 1)), (.blt .min2 [(.cst (.int 3)), (.blt .len [(.var 0)])])])] OUT, .ret RET] := rfl
/-! ### finitely many runs -/
theorem f1 (sc x1 x4 x5 x6 x7 : Option Vl) : (W12.all fun w => isF (evT W0 C8 T1 [sc, x1, some (.loc 0), st w, x4, x5, x6, x7] [.nil])) = true := by kernel_rfl
def chk (sc x1 : Option Vl) (w : Str) (v : D) : Bool := match clD W0 39 1 5 [.dat (.str w), .dat v] with
  | some (.tup [e, k]) => isF (evT W0 C8 T2 [sc, x1, some (.loc 0), st w, da (.lst SV), da v, da e, da k] [.nil]) && isF (evT W0 C8 T3 [sc, x1, some (.loc 0), st w, da (.lst SV), da v, da e, da k] [.nil])
  | _ => false
theorem f2 (sc x1 : Option Vl) : (W6.all fun w => (vals w).all fun v => chk sc x1 w v) = true := by kernel_rfl
theorem fr (y : MO) (s : Slots) : ev W0 C8 RET s [y] = .ok (.dat (.bl true)) [y] := by kernel_rfl
/-! ### the words that take a message -/
theorem isF_of {f : Sto → R Bool} (hs : ∀ j x, j < 1 → Sim j x f) (h : isF (f [.nil]) = true) (y : MO) : f [y] = .ok false [y] := by
  unfold isF at h
  split at h
  · rename_i m1 q
    exact lift_ok (n := 1) (by decide) hs q [y] rfl
  · cases h
theorem simC8 (j : Nat) (x : MO) : SimC j x C8 := fun k vs => sim_call (simA_bad rfl) 39 k vs
theorem t1_at {sc x1 x4 x5 x6 x7 : Option Vl} {w : Str} (hw : w ∈ W12) (y : MO) : evT W0 C8 T1 [sc, x1, some (.loc 0), st w, x4, x5, x6, x7] [y] = .ok false [y] :=
  isF_of (f := fun m => evT W0 C8 T1 [sc, x1, some (.loc 0), st w, x4, x5, x6, x7] m) (fun j x _ => sim_T (simC8 j x) (simA_bad rfl) T1 _) (List.all_eq_true.mp (f1 sc x1 x4 x5 x6 x7) w hw) y
def Nl (x : Option Vl) : Prop := ∀ l, x ≠ some (.loc l)
theorem nl_da (d : D) : Nl (da d) := fun l z => by cases z
theorem loop1 (sc x1 x3 x4 x5 x6 x7 : Option Vl) (y : MO) (n3 : Nl x3) : ∃ x3', Nl x3' ∧ exS W0 C8 0 L1 [sc, x1, some (.loc 0), x3, x4, x5, x6, x7] [y] = .ok (.nx [sc, x1, some (.loc 0), x3', x4, x5, x6, x7]) [y] := by
  obtain ⟨s', m', e, _, x3', n3', rfl, rfl⟩ := for_ok (W := W0) (C := C8) (b := 0) (tg := .nm 3) (ik := .seq) (src := [SRC1]) (vs := [.dat (.lst (W12.map .str))]) (ds := [.lst (W12.map .str)]) (enc := fun w : Str => D.str w) (body := [.ife T1 NO []]) (s := [sc, x1, some (.loc 0), x3, x4, x5, x6, x7]) (m := [y]) (m1 := [y])
    (fun r s mm => (∀ w ∈ r, w ∈ W12) ∧ ∃ x3', Nl x3' ∧ s = [sc, x1, some (.loc 0), x3', x4, x5, x6, x7] ∧ mm = [y]) W12 (by kernel_rfl) rfl rfl (by decide) ⟨fun w h => h, x3, n3, rfl, rfl⟩ (by
    rintro w r s mm ⟨hr, x3', n3', rfl, rfl⟩
    refine ⟨[sc, x1, some (.loc 0), st w, x4, x5, x6, x7], [y], ?_, fun z hz => hr z (List.mem_cons_of_mem _ hz), st w, nl_da _, rfl, rfl⟩
    unfold forStep
    show exs W0 C8 0 [.ife T1 NO []] [sc, x1, some (.loc 0), st w, x4, x5, x6, x7] [y] = _
    exact st1 (st_no (t1_at (hr w List.mem_cons_self) y) rfl) rfl)
  exact ⟨x3', n3', e⟩
/-! ### the words that keep a value -/
theorem vals_ev {w : Str} (hw : w ∈ W6) (sc x1 x5 x6 x7 : Option Vl) (m : Sto) : evs W0 C8 [(.var 2), PICKE] [sc, x1, some (.loc 0), st w, da (.lst SV), x5, x6, x7] m = .ok [.loc 0, .dat (.lst (vals w))] m := by
  simp only [W6, List.mem_cons, List.not_mem_nil, or_false] at hw
  rcases hw with rfl | rfl | rfl | rfl | rfl | rfl <;> kernel_rfl
theorem vals_len {w : Str} : 1 ≤ (vals w).length ∧ (vals w).length < 2 ^ 20 := by
  unfold vals
  split <;> exact ⟨by decide, by decide⟩
theorem body2 {w : Str} (hw : w ∈ W6) (sc x1 x4 x5 x6 x7 : Option Vl) (m : Sto) (B : Nat) (hm : Dm [] m B) (hB : B + 1 ≤ 2 ^ 60) :
    ∃ (v e k : D) (m' : Sto), exs W0 C8 0 B2 [sc, x1, some (.loc 0), st w, x4, x5, x6, x7] m = .ok (.nx [sc, x1, some (.loc 0), st w, da (.lst SV), da v, da e, da k]) m' ∧ Dm [] m' (B + 1) := by
  obtain ⟨i, v, m1, e1, gv, hm1⟩ := pick_g (W0 := W0) (.inl rfl) (show W0.fn[1]? = some (ROLL 131) from rfl) (show W0.fn[2]? = some (PICK 1) from rfl) 37 B m (vals w) hm (by omega) vals_len.1 vals_len.2
  have hv : v ∈ vals w := List.mem_of_getElem? gv
  obtain ⟨a, b, c, rfl, _⟩ := id hm1
  have q := List.all_eq_true.mp (List.all_eq_true.mp (f2 sc x1) w hw) v hv
  unfold chk at q
  split at q
  case h_2 => cases q
  case h_1 e k ek =>
  rw [Bool.and_eq_true] at q
  have ck := clD_ok (W0 := W0) rfl (by decide) ek (dmr [] a b c) rfl
  have t2 := isF_of (f := fun m => evT W0 C8 T2 [sc, x1, some (.loc 0), st w, da (.lst SV), da v, da e, da k] m) (fun j x _ => sim_T (simC8 j x) (simA_bad rfl) T2 _) q.1 (.lst [.int a, .int b, .int c])
  have t3 := isF_of (f := fun m => evT W0 C8 T3 [sc, x1, some (.loc 0), st w, da (.lst SV), da v, da e, da k] m) (fun j x _ => sim_T (simC8 j x) (simA_bad rfl) T3 _) q.2 (.lst [.int a, .int b, .int c])
  refine ⟨v, e, k, dmr [] a b c, ?_, hm1⟩
  refine st1 (s' := [sc, x1, some (.loc 0), st w, da (.lst SV), x5, x6, x7]) (m' := m) (by kernel_rfl) ?_
  refine st1 (s' := [sc, x1, some (.loc 0), st w, da (.lst SV), da v, x6, x7]) (m' := dmr [] a b c) (by
    rw [x_set, v_call, vals_ev hw]
    show ((C8 2 [.loc 0, .dat (.lst (vals w))] m).bind _).bind _ = _
    rw [show C8 2 [.loc 0, .dat (.lst (vals w))] m = _ from e1]
    rfl) ?_
  refine st1 (s' := [sc, x1, some (.loc 0), st w, da (.lst SV), da v, da e, da k]) (m' := dmr [] a b c) (by
    rw [x_setT, v_call, show evs W0 C8 [(.var 3), (.var 5)] [sc, x1, some (.loc 0), st w, da (.lst SV), da v, x6, x7] (dmr [] a b c) = .ok [.dat (.str w), .dat v] (dmr [] a b c) from rfl]
    show ((C8 5 [.dat (.str w), .dat v] (dmr [] a b c)).bind _).bind _ = _
    rw [show C8 5 [.dat (.str w), .dat v] (dmr [] a b c) = _ from ck]
    rfl) ?_
  refine st1 (st_no t2 rfl) ?_
  exact st1 (st_no t3 rfl) rfl
theorem loop2 (sc x1 x3 x4 x5 x6 x7 : Option Vl) (m : Sto) (hm : Dm [] m 0) (n3 : Nl x3) (n4 : Nl x4) (n5 : Nl x5) (n6 : Nl x6) (n7 : Nl x7) :
    ∃ (x3' x4' x5' x6' x7' : Option Vl) (y : MO), Nl x3' ∧ Nl x4' ∧ Nl x5' ∧ Nl x6' ∧ Nl x7' ∧ exS W0 C8 0 L2 [sc, x1, some (.loc 0), x3, x4, x5, x6, x7] m = .ok (.nx [sc, x1, some (.loc 0), x3', x4', x5', x6', x7']) [y] := by
  obtain ⟨s', m', e, _, x3', x4', x5', x6', x7', B, n3', n4', n5', n6', n7', rfl, hm', _⟩ := for_ok (W := W0) (C := C8) (b := 0) (tg := .nm 3) (ik := .seq) (src := [SRC2]) (vs := [.dat (.tup (W6.map .str))]) (ds := [.tup (W6.map .str)]) (enc := fun w : Str => D.str w) (body := B2) (s := [sc, x1, some (.loc 0), x3, x4, x5, x6, x7]) (m := m) (m1 := m)
    (fun r s mm => (∀ w ∈ r, w ∈ W6) ∧ ∃ (x3' x4' x5' x6' x7' : Option Vl) (B : Nat), Nl x3' ∧ Nl x4' ∧ Nl x5' ∧ Nl x6' ∧ Nl x7' ∧ s = [sc, x1, some (.loc 0), x3', x4', x5', x6', x7'] ∧ Dm [] mm B ∧ B + r.length ≤ 6) W6 (by kernel_rfl) rfl rfl (by decide) ⟨fun w h => h, x3, x4, x5, x6, x7, 0, n3, n4, n5, n6, n7, rfl, hm, by decide⟩ (by
    rintro w r s mm ⟨hr, x3', x4', x5', x6', x7', B, n3', n4', n5', n6', n7', rfl, hmm, hB⟩
    rw [List.length_cons] at hB
    obtain ⟨v, e, k, m2, e2, hm2⟩ := body2 (hr w List.mem_cons_self) sc x1 x4' x5' x6' x7' mm B hmm (by omega)
    refine ⟨_, m2, ?_, fun z hz => hr z (List.mem_cons_of_mem _ hz), st w, da (.lst SV), da v, da e, da k, B + 1, nl_da _, nl_da _, nl_da _, nl_da _, nl_da _, rfl, hm2, by omega⟩
    unfold forStep
    show exs W0 C8 0 B2 [sc, x1, some (.loc 0), st w, x4', x5', x6', x7'] mm = _
    exact e2)
  obtain ⟨a, b, c, rfl, _⟩ := hm'
  exact ⟨x3', x4', x5', x6', x7', _, n3', n4', n5', n6', n7', e⟩
/-! ### the law -/
theorem fo {n i j : Nat} {x : Option Vl} {r : Slots} (h : Nl x) : freeOf n i j (x :: r) = freeOf n i (j + 1) r := by
  cases x with
  | none => rfl
  | some v =>
    cases v with
    | dat _ => rfl
    | fns _ => rfl
    | loc l => exact absurd rfl (h l)
theorem law_ok (ns : List Int) (h : ns.length ≤ 63) : callF W0 40 9 [.dat (.scr (ns.map .int))] [] = .ok (.vl (.dat (.bl true))) [] := by
  show callF W0 (39 + 1) 9 _ _ = _
  rw [c_law]
  obtain ⟨k, hk, ek⟩ : ∃ k : Nat, k ≤ 3 ∧ max 1 (min 3 (ns.length : Int)) = k := ⟨max 1 (min 3 ns.length), by omega, by omega⟩
  obtain ⟨s', m', e, _, x1, x2, x3, x4, x5, x6, x7, y, _, _, _, _, _, _, rfl, rfl⟩ := for_ok (W := W0) (C := C8) (b := 0) (tg := .nm 1) (ik := .rng1) (src := [(.blt .max2 [(.cst (.int 1)), (.blt .min2 [(.cst (.int 3)), (.blt .len [(.var 0)])])])]) (vs := [.dat (.int k)]) (ds := [.int k]) (enc := fun i : Nat => D.int i)
    (body := OUT) (s := [da (.scr (ns.map .int)), none, none, none, none, none, none, none]) (m := [.nil]) (m1 := [.nil])
    (fun r s mm => (∀ i ∈ r, i < 3) ∧ ∃ (x1 x2 x3 x4 x5 x6 x7 : Option Vl) (y : MO), Nl x1 ∧ Nl x3 ∧ Nl x4 ∧ Nl x5 ∧ Nl x6 ∧ Nl x7 ∧ s = [da (.scr (ns.map .int)), x1, x2, x3, x4, x5, x6, x7] ∧ mm = [y]) (List.range k)
    (by simp [x_nil, x_cons, x_set, x_setT, x_par, x_ife, x_ret, x_retf, n_lst, n_call, x_newl, x_exp, bi_ok, bi_bad, of_some, lk_dat, lks_nil, lks_cons, do_nil, do_cons, op_some, ob_some, b_add, b_sub, c_lt, c_le, c_gt, c_ge, c_eqS, c_neS, c_eqI, c_neI, c_eqB, c_neB, c_eqT, c_neT, c_eqL, c_neL, c_isB, c_isntB, c_is, c_isnt, eq_int, eq_bl, eq_pair, t_bl, t_int, t_lst, t_tup, l_tup, l_lst, l_scr, l_abs, l_int, l_intB, l_max, l_min, l_tt, l_tl, l_all, l_any, l_repr, s_tup, s_lst, s_scr, i_tt, i_ii, i_ib, i_it, ix0, ix1, ix2, v_var, v_cst, v_glo, v_tup, v_lst, v_lsts, d_nil, d_star, d_one, l_max1, l_min1, l_sum, v_bin, v_neg, v_nt, v_cmp, v_chain, v_and, v_or, v_ite, v_sub, v_rev, v_call, v_blt, v_isi, v_comp, evs, evAnd, evOr, evIfs, evT, evTAnd, evTOr, parS, bi_asc, tgD, tgDs, wipeS, slotsOf, slotsOfs, szk, ek]) rfl (wd_rng1 (by omega)) (by simp; omega) ⟨fun i hi => (by simp at hi; omega), none, none, none, none, none, none, none, .nil, (fun l z => by cases z), (fun l z => by cases z), (fun l z => by cases z), (fun l z => by cases z), (fun l z => by cases z), (fun l z => by cases z), rfl, rfl⟩ (by
    rintro i r s mm ⟨hr, x1, x2, x3, x4, x5, x6, x7, y, n1, n3, n4, n5, n6, n7, rfl, rfl⟩
    have hi := hr i List.mem_cons_self
    obtain ⟨a, b, ed, db⟩ := dice_g (W0 := W0) (kd := 0) (p1 := 131) (p2 := 37) (p3 := 73) (p4 := 619) (p5 := 41) (p6 := 17) rfl (by decide) (by decide) (by decide) (by decide) (by decide) 38 [y] ns i (by omega)
    obtain ⟨x3', n3', g1⟩ := loop1 (da (.scr (ns.map .int))) (da (.int i)) x3 x4 x5 x6 x7 (.lst [.int a, .int b, .int 0]) n3
    obtain ⟨z3, z4, z5, z6, z7, y', h3, h4, h5, h6, h7, g2⟩ := loop2 (da (.scr (ns.map .int))) (da (.int i)) x3' x4 x5 x6 x7 (dmr [] a b 0) ⟨a, b, 0, rfl, db⟩ n3' n4 n5 n6 n7
    refine ⟨[da (.scr (ns.map .int)), da (.int i), some (.loc 0), z3, z4, z5, z6, z7], [y'], ?_, fun z hz => hr z (List.mem_cons_of_mem _ hz), da (.int i), some (.loc 0), z3, z4, z5, z6, z7, y', nl_da _, h3, h4, h5, h6, h7, rfl, rfl⟩
    unfold forStep
    show exs W0 C8 0 OUT [da (.scr (ns.map .int)), da (.int i), x2, x3, x4, x5, x6, x7] [y] = _
    refine st1 (s' := [da (.scr (ns.map .int)), da (.int i), some (.loc 0), x3, x4, x5, x6, x7]) (m' := dmr [] a b 0) ?_ (st1 g1 (st1 g2 rfl))
    have fr0 : EV.freeOf (0 + 0) 2 0 [da (.scr (ns.map .int)), da (.int i), x2, x3, x4, x5, x6, x7] = true := by
      rw [fo (nl_da _), fo (nl_da _)]
      have q : EV.freeOf (0 + 0) 2 2 (x2 :: [x3, x4, x5, x6, x7]) = EV.freeOf (0 + 0) 2 3 [x3, x4, x5, x6, x7] := by
        cases x2 with
        | none => rfl
        | some v => cases v <;> first | rfl | simp [EV.freeOf]
      rw [q, fo n3, fo n4, fo n5, fo n6, fo n7]
      rfl
    have en : evN W0 C8 (.call 0 [(.var 0), (.var 1)]) [da (.scr (ns.map .int)), da (.int i), x2, x3, x4, x5, x6, x7] [y] = .ok [.int a, .int b, .int 0] [y] := by
      rw [n_call, show evs W0 C8 [(.var 0), (.var 1)] [da (.scr (ns.map .int)), da (.int i), x2, x3, x4, x5, x6, x7] [y] = .ok [.dat (.scr (ns.map .int)), .dat (.int i)] [y] from rfl, bi_ok, show C8 0 [.dat (.scr (ns.map .int)), .dat (.int i)] [y] = _ from ed]
      rfl
    rw [x_newl, en, bi_ok, fr0]
    rfl)
  have key : exs W0 C8 0 b_law [da (.scr (ns.map .int)), none, none, none, none, none, none, none] [.nil] = .ok (.ret (.vl (.dat (.bl true)))) [y] := by
    rw [b_law_eq]
    refine st1 e ?_
    rw [x_cons, x_ret, fr y]
    rfl
  have z := ru_cut (f := d_law) (vs := [.dat (.scr (ns.map .int))]) (m := []) rfl rfl key
  simpa using z
end K20

set_option Elab.async false
set_option linter.all false
set_option maxRecDepth 100000
set_option maxHeartbeats 0
open PySem PySem.W PyProof.Rows
theorem PySem.Challenge.cw_handbetween_k20_whole_errors_holds : PySem.Challenge.rw_handbetween_k20_whole_errors.Holds := by
  w_on; o_law; k_head; (case hw => w_witness2)
  k_fill
  refine EV.law_end (l := PySem.Challenge.rw_handbetween_k20_whole_errors) (most := 63) (lv := 40) (k := 9) (W := K20.W0) (n := K20.n0) rfl (by decide) rfl ⟨rfl, by decide, by decide⟩ (fun w h Y => PySem.W.kIn_of Y) rfl ?F K20.law_ok
  case F =>
    intro w mg h KX G
    refine' K20.tab KX G ?tf ?tc ?tb ?tx ?ts ?tl ?td ?tt
    case tf =>
      refine ⟨?f0, ?f1, ?f2, ?f3, ?f4, ?f5, ?f6, ?f7, ?f8, ?f9, trivial⟩
      (case f0 => (refine' EV.fn0 ?h1 ?h2 ?h3 ?h4 rfl); (case h1 => k_is); (case h2 => k_is); (case h3 => k_is); (case h4 => k_is))
      (case f1 => (refine' EV.fn0 ?h1 ?h2 ?h3 ?h4 rfl); (case h1 => k_is); (case h2 => k_is); (case h3 => k_is); (case h4 => k_is))
      (case f2 => (refine' EV.fn0 ?h1 ?h2 ?h3 ?h4 rfl); (case h1 => k_is); (case h2 => k_is); (case h3 => k_is); (case h4 => k_is))
      (case f3 => (refine' EV.fn0 ?h1 ?h2 ?h3 ?h4 rfl); (case h1 => k_is); (case h2 => k_is); (case h3 => k_is); (case h4 => k_is))
      (case f4 => (refine' EV.fn0 ?h1 ?h2 ?h3 ?h4 rfl); (case h1 => k_is); (case h2 => k_is); (case h3 => k_is); (case h4 => k_is))
      (case f5 => (refine' EV.fn0 ?h1 ?h2 ?h3 ?h4 rfl); (case h1 => k_is); (case h2 => k_is); (case h3 => k_is); (case h4 => k_is))
      (case f6 => (refine' EV.fn0 ?h1 ?h2 ?h3 ?h4 rfl); (case h1 => k_is); (case h2 => k_is); (case h3 => k_is); (case h4 => k_is))
      (case f7 => (refine' EV.fn0 ?h1 ?h2 ?h3 ?h4 rfl); (case h1 => k_is); (case h2 => k_is); (case h3 => k_is); (case h4 => k_is))
      (case f8 => (refine' EV.fn0 ?h1 ?h2 ?h3 ?h4 rfl); (case h1 => k_is); (case h2 => k_is); (case h3 => k_is); (case h4 => k_is))
      (case f9 => (refine' EV.fn0 ?h1 ?h2 ?h3 ?h4 rfl); (case h1 => k_is); (case h2 => k_is); (case h3 => k_is); (case h4 => k_is))
    case tc =>
      exact trivial
    case tb =>
      refine ⟨?b0, ?b1, ?b2, ?b3, ?b4, ?b5, ?b6, ?b7, ?b8, ?b9, ?b10, ?b11, ?b12, ?b13, ?b14, ?b15, trivial⟩
      (case b0 => (refine' EV.no_mk ?h1); (case h1 => k_is))
      (case b1 => (refine' EV.no_mk ?h1); (case h1 => k_is))
      (case b2 => (refine' EV.no_mk ?h1); (case h1 => k_is))
      (case b3 => (refine' EV.no_mk ?h1); (case h1 => k_is))
      (case b4 => (refine' EV.no_mk ?h1); (case h1 => k_is))
      (case b5 => (refine' EV.no_mk ?h1); (case h1 => k_is))
      (case b6 => (refine' EV.no_mk ?h1); (case h1 => k_is))
      (case b7 => (refine' EV.no_mk ?h1); (case h1 => k_is))
      (case b8 => (refine' EV.no_mk ?h1); (case h1 => k_is))
      (case b9 => (refine' EV.no_mk ?h1); (case h1 => k_is))
      (case b10 => (refine' EV.no_mk ?h1); (case h1 => k_is))
      (case b11 => (refine' EV.no_mk ?h1); (case h1 => k_is))
      (case b12 => (refine' EV.no_mk ?h1); (case h1 => k_is))
      (case b13 => (refine' EV.no_mk ?h1); (case h1 => k_is))
      (case b14 => (refine' EV.no_mk ?h1); (case h1 => k_is))
      (case b15 => (refine' EV.no_mk ?h1); (case h1 => k_is))
    case tx =>
      refine' (EV.XkAll.cons ?x0 (EV.XkAll.cons ?x1 (EV.XkAll.cons ?x2 (EV.XkAll.cons ?x3 (EV.XkAll.cons ?x4 (EV.XkAll.cons ?x5 (EV.XkAll.cons ?x6 (EV.XkAll.cons ?x7 (EV.XkAll.cons ?x8 (EV.XkAll.cons ?x9 (EV.XkAll.cons ?x10 (EV.XkAll.cons ?x11 (EV.XkAll.cons ?x12 (EV.XkAll.cons ?x13 (EV.XkAll.cons ?x14 (EV.XkAll.cons ?x15 (EV.XkAll.cons ?x16 (EV.XkAll.cons ?x17 (EV.XkAll.cons ?x18 EV.XkAll.nil)))))))))))))))))))
      (case x0 => (refine' EV.xk0 PySem.F.excBase_ValueError rfl ?y0g ?y0kp ?y0sb ?y0ty ?y0ic ?y0ex ?y0ec ?y0self ?y0bt); (case y0g => k_is); (case y0kp => k_is); (case y0sb => k_is); (case y0ty => k_is); (case y0ic => k_is); (case y0ex => k_exc); (case y0ec => (refine' L2.ExcC.mk ?e1 ?e2 ?e3 ?e4 ?e5 ?e6 ?e7 ?e8); (case e1 => k_is); (case e2 => k_is); (case e3 => k_is); (case e4 => k_is); (case e5 => k_is); (case e6 => k_is); (case e7 => k_is); (case e8 => k_is)); (case y0self => k_is); (case y0bt => (refine' ⟨?t0, ?t1, ?t2, ?t3, ?t4, ?t5, trivial⟩); (case t0 => k_is); (case t1 => k_is); (case t2 => k_is); (case t3 => k_is); (case t4 => k_is); (case t5 => k_is)))
      (case x1 => (refine' EV.xk0 PySem.F.excBase_ValueError rfl ?y1g ?y1kp ?y1sb ?y1ty ?y1ic ?y1ex ?y1ec ?y1self ?y1bt); (case y1g => k_is); (case y1kp => k_is); (case y1sb => k_is); (case y1ty => k_is); (case y1ic => k_is); (case y1ex => k_exc); (case y1ec => (refine' L2.ExcC.mk ?e1 ?e2 ?e3 ?e4 ?e5 ?e6 ?e7 ?e8); (case e1 => k_is); (case e2 => k_is); (case e3 => k_is); (case e4 => k_is); (case e5 => k_is); (case e6 => k_is); (case e7 => k_is); (case e8 => k_is)); (case y1self => k_is); (case y1bt => (refine' ⟨?t0, ?t1, ?t2, ?t3, ?t4, ?t5, trivial⟩); (case t0 => k_is); (case t1 => k_is); (case t2 => k_is); (case t3 => k_is); (case t4 => k_is); (case t5 => k_is)))
      (case x2 => (refine' EV.xk0 PySem.F.excBase_ValueError rfl ?y2g ?y2kp ?y2sb ?y2ty ?y2ic ?y2ex ?y2ec ?y2self ?y2bt); (case y2g => k_is); (case y2kp => k_is); (case y2sb => k_is); (case y2ty => k_is); (case y2ic => k_is); (case y2ex => k_exc); (case y2ec => (refine' L2.ExcC.mk ?e1 ?e2 ?e3 ?e4 ?e5 ?e6 ?e7 ?e8); (case e1 => k_is); (case e2 => k_is); (case e3 => k_is); (case e4 => k_is); (case e5 => k_is); (case e6 => k_is); (case e7 => k_is); (case e8 => k_is)); (case y2self => k_is); (case y2bt => (refine' ⟨?t0, ?t1, ?t2, ?t3, ?t4, ?t5, trivial⟩); (case t0 => k_is); (case t1 => k_is); (case t2 => k_is); (case t3 => k_is); (case t4 => k_is); (case t5 => k_is)))
      (case x3 => (refine' EV.xk0 PySem.F.excBase_ValueError rfl ?y3g ?y3kp ?y3sb ?y3ty ?y3ic ?y3ex ?y3ec ?y3self ?y3bt); (case y3g => k_is); (case y3kp => k_is); (case y3sb => k_is); (case y3ty => k_is); (case y3ic => k_is); (case y3ex => k_exc); (case y3ec => (refine' L2.ExcC.mk ?e1 ?e2 ?e3 ?e4 ?e5 ?e6 ?e7 ?e8); (case e1 => k_is); (case e2 => k_is); (case e3 => k_is); (case e4 => k_is); (case e5 => k_is); (case e6 => k_is); (case e7 => k_is); (case e8 => k_is)); (case y3self => k_is); (case y3bt => (refine' ⟨?t0, ?t1, ?t2, ?t3, ?t4, ?t5, trivial⟩); (case t0 => k_is); (case t1 => k_is); (case t2 => k_is); (case t3 => k_is); (case t4 => k_is); (case t5 => k_is)))
      (case x4 => (refine' EV.xk0 PySem.F.excBase_ValueError rfl ?y4g ?y4kp ?y4sb ?y4ty ?y4ic ?y4ex ?y4ec ?y4self ?y4bt); (case y4g => k_is); (case y4kp => k_is); (case y4sb => k_is); (case y4ty => k_is); (case y4ic => k_is); (case y4ex => k_exc); (case y4ec => (refine' L2.ExcC.mk ?e1 ?e2 ?e3 ?e4 ?e5 ?e6 ?e7 ?e8); (case e1 => k_is); (case e2 => k_is); (case e3 => k_is); (case e4 => k_is); (case e5 => k_is); (case e6 => k_is); (case e7 => k_is); (case e8 => k_is)); (case y4self => k_is); (case y4bt => (refine' ⟨?t0, ?t1, ?t2, ?t3, ?t4, ?t5, trivial⟩); (case t0 => k_is); (case t1 => k_is); (case t2 => k_is); (case t3 => k_is); (case t4 => k_is); (case t5 => k_is)))
      (case x5 => (refine' EV.xk0 PySem.F.excBase_ValueError rfl ?y5g ?y5kp ?y5sb ?y5ty ?y5ic ?y5ex ?y5ec ?y5self ?y5bt); (case y5g => k_is); (case y5kp => k_is); (case y5sb => k_is); (case y5ty => k_is); (case y5ic => k_is); (case y5ex => k_exc); (case y5ec => (refine' L2.ExcC.mk ?e1 ?e2 ?e3 ?e4 ?e5 ?e6 ?e7 ?e8); (case e1 => k_is); (case e2 => k_is); (case e3 => k_is); (case e4 => k_is); (case e5 => k_is); (case e6 => k_is); (case e7 => k_is); (case e8 => k_is)); (case y5self => k_is); (case y5bt => (refine' ⟨?t0, ?t1, ?t2, ?t3, ?t4, ?t5, trivial⟩); (case t0 => k_is); (case t1 => k_is); (case t2 => k_is); (case t3 => k_is); (case t4 => k_is); (case t5 => k_is)))
      (case x6 => (refine' EV.xk0 PySem.F.excBase_ValueError rfl ?y6g ?y6kp ?y6sb ?y6ty ?y6ic ?y6ex ?y6ec ?y6self ?y6bt); (case y6g => k_is); (case y6kp => k_is); (case y6sb => k_is); (case y6ty => k_is); (case y6ic => k_is); (case y6ex => k_exc); (case y6ec => (refine' L2.ExcC.mk ?e1 ?e2 ?e3 ?e4 ?e5 ?e6 ?e7 ?e8); (case e1 => k_is); (case e2 => k_is); (case e3 => k_is); (case e4 => k_is); (case e5 => k_is); (case e6 => k_is); (case e7 => k_is); (case e8 => k_is)); (case y6self => k_is); (case y6bt => (refine' ⟨?t0, ?t1, ?t2, ?t3, ?t4, ?t5, trivial⟩); (case t0 => k_is); (case t1 => k_is); (case t2 => k_is); (case t3 => k_is); (case t4 => k_is); (case t5 => k_is)))
      (case x7 => (refine' EV.xk0 PySem.F.excBase_ValueError rfl ?y7g ?y7kp ?y7sb ?y7ty ?y7ic ?y7ex ?y7ec ?y7self ?y7bt); (case y7g => k_is); (case y7kp => k_is); (case y7sb => k_is); (case y7ty => k_is); (case y7ic => k_is); (case y7ex => k_exc); (case y7ec => (refine' L2.ExcC.mk ?e1 ?e2 ?e3 ?e4 ?e5 ?e6 ?e7 ?e8); (case e1 => k_is); (case e2 => k_is); (case e3 => k_is); (case e4 => k_is); (case e5 => k_is); (case e6 => k_is); (case e7 => k_is); (case e8 => k_is)); (case y7self => k_is); (case y7bt => (refine' ⟨?t0, ?t1, ?t2, ?t3, ?t4, ?t5, trivial⟩); (case t0 => k_is); (case t1 => k_is); (case t2 => k_is); (case t3 => k_is); (case t4 => k_is); (case t5 => k_is)))
      (case x8 => (refine' EV.xk0 PySem.F.excBase_ValueError rfl ?y8g ?y8kp ?y8sb ?y8ty ?y8ic ?y8ex ?y8ec ?y8self ?y8bt); (case y8g => k_is); (case y8kp => k_is); (case y8sb => k_is); (case y8ty => k_is); (case y8ic => k_is); (case y8ex => k_exc); (case y8ec => (refine' L2.ExcC.mk ?e1 ?e2 ?e3 ?e4 ?e5 ?e6 ?e7 ?e8); (case e1 => k_is); (case e2 => k_is); (case e3 => k_is); (case e4 => k_is); (case e5 => k_is); (case e6 => k_is); (case e7 => k_is); (case e8 => k_is)); (case y8self => k_is); (case y8bt => (refine' ⟨?t0, ?t1, ?t2, ?t3, ?t4, ?t5, trivial⟩); (case t0 => k_is); (case t1 => k_is); (case t2 => k_is); (case t3 => k_is); (case t4 => k_is); (case t5 => k_is)))
      (case x9 => (refine' EV.xk0 PySem.F.excBase_ValueError rfl ?y9g ?y9kp ?y9sb ?y9ty ?y9ic ?y9ex ?y9ec ?y9self ?y9bt); (case y9g => k_is); (case y9kp => k_is); (case y9sb => k_is); (case y9ty => k_is); (case y9ic => k_is); (case y9ex => k_exc); (case y9ec => (refine' L2.ExcC.mk ?e1 ?e2 ?e3 ?e4 ?e5 ?e6 ?e7 ?e8); (case e1 => k_is); (case e2 => k_is); (case e3 => k_is); (case e4 => k_is); (case e5 => k_is); (case e6 => k_is); (case e7 => k_is); (case e8 => k_is)); (case y9self => k_is); (case y9bt => (refine' ⟨?t0, ?t1, ?t2, ?t3, ?t4, ?t5, trivial⟩); (case t0 => k_is); (case t1 => k_is); (case t2 => k_is); (case t3 => k_is); (case t4 => k_is); (case t5 => k_is)))
      (case x10 => (refine' EV.xk0 PySem.F.excBase_ValueError rfl ?y10g ?y10kp ?y10sb ?y10ty ?y10ic ?y10ex ?y10ec ?y10self ?y10bt); (case y10g => k_is); (case y10kp => k_is); (case y10sb => k_is); (case y10ty => k_is); (case y10ic => k_is); (case y10ex => k_exc); (case y10ec => (refine' L2.ExcC.mk ?e1 ?e2 ?e3 ?e4 ?e5 ?e6 ?e7 ?e8); (case e1 => k_is); (case e2 => k_is); (case e3 => k_is); (case e4 => k_is); (case e5 => k_is); (case e6 => k_is); (case e7 => k_is); (case e8 => k_is)); (case y10self => k_is); (case y10bt => (refine' ⟨?t0, ?t1, ?t2, ?t3, ?t4, ?t5, trivial⟩); (case t0 => k_is); (case t1 => k_is); (case t2 => k_is); (case t3 => k_is); (case t4 => k_is); (case t5 => k_is)))
      (case x11 => (refine' EV.xk0 PySem.F.excBase_ValueError rfl ?y11g ?y11kp ?y11sb ?y11ty ?y11ic ?y11ex ?y11ec ?y11self ?y11bt); (case y11g => k_is); (case y11kp => k_is); (case y11sb => k_is); (case y11ty => k_is); (case y11ic => k_is); (case y11ex => k_exc); (case y11ec => (refine' L2.ExcC.mk ?e1 ?e2 ?e3 ?e4 ?e5 ?e6 ?e7 ?e8); (case e1 => k_is); (case e2 => k_is); (case e3 => k_is); (case e4 => k_is); (case e5 => k_is); (case e6 => k_is); (case e7 => k_is); (case e8 => k_is)); (case y11self => k_is); (case y11bt => (refine' ⟨?t0, ?t1, ?t2, ?t3, ?t4, ?t5, trivial⟩); (case t0 => k_is); (case t1 => k_is); (case t2 => k_is); (case t3 => k_is); (case t4 => k_is); (case t5 => k_is)))
      (case x12 => (refine' EV.xkI (EV.OwnF.of PySem.F.excBase_ValueError) PySem.F.store_ValueError PySem.W.kxs_ValueError rfl ?y12g ?y12kp ?y12sb ?y12ty ?y12ic ?y12hi ?y12q ?y12hf ?y12sub ?y12sup ?y12opq ?y12hm ?y12hB ?y12sa ?y12ov ?y12tk ?y12hh ?y12l1 ?y12l2 ?y12l3 ?y12l4 ?y12l5 ?y12l6 ?y12l7 ?y12l8 ?y12l9 ?y12m1 ?y12m2 ?y12m3 ?y12m4 ?y12ga ?y12gg ?y12fl ?y12ec ?y12self ?y12bt); (case y12g => k_is); (case y12kp => k_is); (case y12sb => k_is); (case y12ty => k_is); (case y12ic => k_is); (case y12hi => k_is); (case y12q => kx_is); (case y12hf => k_is); (case y12sub => k_is); (case y12sup => k_is); (case y12opq => k_is); (case y12hm => ks_is); (case y12hB => k_is); (case y12sa => k_is); (case y12ov => kx_is); (case y12tk => k_is); (case y12hh => k_is); (case y12l1 => k_is); (case y12l2 => k_is); (case y12l3 => k_is); (case y12l4 => exact rfl); (case y12l5 => decide +kernel); (case y12l6 => k_is); (case y12l7 => k_is); (case y12m1 => exact rfl); (case y12m2 => exact rfl); (case y12m3 => exact fun _ _ => rfl); (case y12m4 => decide +kernel); (case y12l8 => decide +kernel); (case y12l9 => decide +kernel); (case y12ga => k_is); (case y12gg => k_is); (case y12fl => k_is); (case y12ec => (refine' L2.ExcC.mk ?e1 ?e2 ?e3 ?e4 ?e5 ?e6 ?e7 ?e8); (case e1 => k_is); (case e2 => k_is); (case e3 => k_is); (case e4 => k_is); (case e5 => k_is); (case e6 => k_is); (case e7 => k_is); (case e8 => k_is)); (case y12self => k_is); (case y12bt => (refine' ⟨?t0, ?t1, ?t2, ?t3, ?t4, ?t5, trivial⟩); (case t0 => k_is); (case t1 => k_is); (case t2 => k_is); (case t3 => k_is); (case t4 => k_is); (case t5 => k_is)))
      (case x13 => (refine' EV.xkI EV.own_KeyError EV.ownstore_KeyError EV.ownkxs_KeyError rfl ?y13g ?y13kp ?y13sb ?y13ty ?y13ic ?y13hi ?y13q ?y13hf ?y13sub ?y13sup ?y13opq ?y13hm ?y13hB ?y13sa ?y13ov ?y13tk ?y13hh ?y13l1 ?y13l2 ?y13l3 ?y13l4 ?y13l5 ?y13l6 ?y13l7 ?y13l8 ?y13l9 ?y13m1 ?y13m2 ?y13m3 ?y13m4 ?y13ga ?y13gg ?y13fl ?y13ec ?y13self ?y13bt); (case y13g => k_is); (case y13kp => k_is); (case y13sb => k_is); (case y13ty => k_is); (case y13ic => k_is); (case y13hi => k_is); (case y13q => kx_is); (case y13hf => k_is); (case y13sub => k_is); (case y13sup => k_is); (case y13opq => k_is); (case y13hm => ks_is); (case y13hB => k_is); (case y13sa => k_is); (case y13ov => kx_is); (case y13tk => k_is); (case y13hh => k_is); (case y13l1 => k_is); (case y13l2 => k_is); (case y13l3 => k_is); (case y13l4 => exact rfl); (case y13l5 => decide +kernel); (case y13l6 => k_is); (case y13l7 => k_is); (case y13m1 => exact rfl); (case y13m2 => exact rfl); (case y13m3 => exact fun _ _ => rfl); (case y13m4 => decide +kernel); (case y13l8 => decide +kernel); (case y13l9 => decide +kernel); (case y13ga => k_is); (case y13gg => k_is); (case y13fl => k_is); (case y13ec => (refine' L2.ExcC.mk ?e1 ?e2 ?e3 ?e4 ?e5 ?e6 ?e7 ?e8); (case e1 => k_is); (case e2 => k_is); (case e3 => k_is); (case e4 => k_is); (case e5 => k_is); (case e6 => k_is); (case e7 => k_is); (case e8 => k_is)); (case y13self => k_is); (case y13bt => (refine' ⟨?t0, ?t1, ?t2, ?t3, ?t4, ?t5, trivial⟩); (case t0 => k_is); (case t1 => k_is); (case t2 => k_is); (case t3 => k_is); (case t4 => k_is); (case t5 => k_is)))
      (case x14 => (refine' EV.xkI (EV.OwnF.of PySem.F.excBase_IndexError) PySem.F.store_IndexError PySem.W.kxs_IndexError rfl ?y14g ?y14kp ?y14sb ?y14ty ?y14ic ?y14hi ?y14q ?y14hf ?y14sub ?y14sup ?y14opq ?y14hm ?y14hB ?y14sa ?y14ov ?y14tk ?y14hh ?y14l1 ?y14l2 ?y14l3 ?y14l4 ?y14l5 ?y14l6 ?y14l7 ?y14l8 ?y14l9 ?y14m1 ?y14m2 ?y14m3 ?y14m4 ?y14ga ?y14gg ?y14fl ?y14ec ?y14self ?y14bt); (case y14g => k_is); (case y14kp => k_is); (case y14sb => k_is); (case y14ty => k_is); (case y14ic => k_is); (case y14hi => k_is); (case y14q => kx_is); (case y14hf => k_is); (case y14sub => k_is); (case y14sup => k_is); (case y14opq => k_is); (case y14hm => ks_is); (case y14hB => k_is); (case y14sa => k_is); (case y14ov => kx_is); (case y14tk => k_is); (case y14hh => k_is); (case y14l1 => k_is); (case y14l2 => k_is); (case y14l3 => k_is); (case y14l4 => exact rfl); (case y14l5 => decide +kernel); (case y14l6 => k_is); (case y14l7 => k_is); (case y14m1 => exact rfl); (case y14m2 => exact rfl); (case y14m3 => exact fun _ _ => rfl); (case y14m4 => decide +kernel); (case y14l8 => decide +kernel); (case y14l9 => decide +kernel); (case y14ga => k_is); (case y14gg => k_is); (case y14fl => k_is); (case y14ec => (refine' L2.ExcC.mk ?e1 ?e2 ?e3 ?e4 ?e5 ?e6 ?e7 ?e8); (case e1 => k_is); (case e2 => k_is); (case e3 => k_is); (case e4 => k_is); (case e5 => k_is); (case e6 => k_is); (case e7 => k_is); (case e8 => k_is)); (case y14self => k_is); (case y14bt => (refine' ⟨?t0, ?t1, ?t2, ?t3, ?t4, ?t5, trivial⟩); (case t0 => k_is); (case t1 => k_is); (case t2 => k_is); (case t3 => k_is); (case t4 => k_is); (case t5 => k_is)))
      (case x15 => (refine' EV.xkI (EV.OwnF.of PySem.F.excBase_OverflowError) PySem.F.store_OverflowError PySem.W.kxs_OverflowError rfl ?y15g ?y15kp ?y15sb ?y15ty ?y15ic ?y15hi ?y15q ?y15hf ?y15sub ?y15sup ?y15opq ?y15hm ?y15hB ?y15sa ?y15ov ?y15tk ?y15hh ?y15l1 ?y15l2 ?y15l3 ?y15l4 ?y15l5 ?y15l6 ?y15l7 ?y15l8 ?y15l9 ?y15m1 ?y15m2 ?y15m3 ?y15m4 ?y15ga ?y15gg ?y15fl ?y15ec ?y15self ?y15bt); (case y15g => k_is); (case y15kp => k_is); (case y15sb => k_is); (case y15ty => k_is); (case y15ic => k_is); (case y15hi => k_is); (case y15q => kx_is); (case y15hf => k_is); (case y15sub => k_is); (case y15sup => k_is); (case y15opq => k_is); (case y15hm => ks_is); (case y15hB => k_is); (case y15sa => k_is); (case y15ov => kx_is); (case y15tk => k_is); (case y15hh => k_is); (case y15l1 => k_is); (case y15l2 => k_is); (case y15l3 => k_is); (case y15l4 => exact rfl); (case y15l5 => decide +kernel); (case y15l6 => k_is); (case y15l7 => k_is); (case y15m1 => exact rfl); (case y15m2 => exact rfl); (case y15m3 => exact fun _ _ => rfl); (case y15m4 => decide +kernel); (case y15l8 => decide +kernel); (case y15l9 => decide +kernel); (case y15ga => k_is); (case y15gg => k_is); (case y15fl => k_is); (case y15ec => (refine' L2.ExcC.mk ?e1 ?e2 ?e3 ?e4 ?e5 ?e6 ?e7 ?e8); (case e1 => k_is); (case e2 => k_is); (case e3 => k_is); (case e4 => k_is); (case e5 => k_is); (case e6 => k_is); (case e7 => k_is); (case e8 => k_is)); (case y15self => k_is); (case y15bt => (refine' ⟨?t0, ?t1, ?t2, ?t3, ?t4, ?t5, trivial⟩); (case t0 => k_is); (case t1 => k_is); (case t2 => k_is); (case t3 => k_is); (case t4 => k_is); (case t5 => k_is)))
      (case x16 => (refine' EV.xkI (EV.OwnF.of PySem.F.excBase_ArithmeticError) PySem.F.store_ArithmeticError PySem.W.kxs_ArithmeticError rfl ?y16g ?y16kp ?y16sb ?y16ty ?y16ic ?y16hi ?y16q ?y16hf ?y16sub ?y16sup ?y16opq ?y16hm ?y16hB ?y16sa ?y16ov ?y16tk ?y16hh ?y16l1 ?y16l2 ?y16l3 ?y16l4 ?y16l5 ?y16l6 ?y16l7 ?y16l8 ?y16l9 ?y16m1 ?y16m2 ?y16m3 ?y16m4 ?y16ga ?y16gg ?y16fl ?y16ec ?y16self ?y16bt); (case y16g => k_is); (case y16kp => k_is); (case y16sb => k_is); (case y16ty => k_is); (case y16ic => k_is); (case y16hi => k_is); (case y16q => kx_is); (case y16hf => k_is); (case y16sub => k_is); (case y16sup => k_is); (case y16opq => k_is); (case y16hm => ks_is); (case y16hB => k_is); (case y16sa => k_is); (case y16ov => kx_is); (case y16tk => k_is); (case y16hh => k_is); (case y16l1 => k_is); (case y16l2 => k_is); (case y16l3 => k_is); (case y16l4 => exact rfl); (case y16l5 => decide +kernel); (case y16l6 => k_is); (case y16l7 => k_is); (case y16m1 => exact rfl); (case y16m2 => exact rfl); (case y16m3 => exact fun _ _ => rfl); (case y16m4 => decide +kernel); (case y16l8 => decide +kernel); (case y16l9 => decide +kernel); (case y16ga => k_is); (case y16gg => k_is); (case y16fl => k_is); (case y16ec => (refine' L2.ExcC.mk ?e1 ?e2 ?e3 ?e4 ?e5 ?e6 ?e7 ?e8); (case e1 => k_is); (case e2 => k_is); (case e3 => k_is); (case e4 => k_is); (case e5 => k_is); (case e6 => k_is); (case e7 => k_is); (case e8 => k_is)); (case y16self => k_is); (case y16bt => (refine' ⟨?t0, ?t1, ?t2, ?t3, ?t4, ?t5, trivial⟩); (case t0 => k_is); (case t1 => k_is); (case t2 => k_is); (case t3 => k_is); (case t4 => k_is); (case t5 => k_is)))
      (case x17 => (refine' EV.xkI (EV.OwnF.of PySem.F.excBase_LookupError) PySem.F.store_LookupError PySem.W.kxs_LookupError rfl ?y17g ?y17kp ?y17sb ?y17ty ?y17ic ?y17hi ?y17q ?y17hf ?y17sub ?y17sup ?y17opq ?y17hm ?y17hB ?y17sa ?y17ov ?y17tk ?y17hh ?y17l1 ?y17l2 ?y17l3 ?y17l4 ?y17l5 ?y17l6 ?y17l7 ?y17l8 ?y17l9 ?y17m1 ?y17m2 ?y17m3 ?y17m4 ?y17ga ?y17gg ?y17fl ?y17ec ?y17self ?y17bt); (case y17g => k_is); (case y17kp => k_is); (case y17sb => k_is); (case y17ty => k_is); (case y17ic => k_is); (case y17hi => k_is); (case y17q => kx_is); (case y17hf => k_is); (case y17sub => k_is); (case y17sup => k_is); (case y17opq => k_is); (case y17hm => ks_is); (case y17hB => k_is); (case y17sa => k_is); (case y17ov => kx_is); (case y17tk => k_is); (case y17hh => k_is); (case y17l1 => k_is); (case y17l2 => k_is); (case y17l3 => k_is); (case y17l4 => exact rfl); (case y17l5 => decide +kernel); (case y17l6 => k_is); (case y17l7 => k_is); (case y17m1 => exact rfl); (case y17m2 => exact rfl); (case y17m3 => exact fun _ _ => rfl); (case y17m4 => decide +kernel); (case y17l8 => decide +kernel); (case y17l9 => decide +kernel); (case y17ga => k_is); (case y17gg => k_is); (case y17fl => k_is); (case y17ec => (refine' L2.ExcC.mk ?e1 ?e2 ?e3 ?e4 ?e5 ?e6 ?e7 ?e8); (case e1 => k_is); (case e2 => k_is); (case e3 => k_is); (case e4 => k_is); (case e5 => k_is); (case e6 => k_is); (case e7 => k_is); (case e8 => k_is)); (case y17self => k_is); (case y17bt => (refine' ⟨?t0, ?t1, ?t2, ?t3, ?t4, ?t5, trivial⟩); (case t0 => k_is); (case t1 => k_is); (case t2 => k_is); (case t3 => k_is); (case t4 => k_is); (case t5 => k_is)))
      (case x18 => (refine' EV.xk0 PySem.F.excBase_ValueError rfl ?y18g ?y18kp ?y18sb ?y18ty ?y18ic ?y18ex ?y18ec ?y18self ?y18bt); (case y18g => k_is); (case y18kp => k_is); (case y18sb => k_is); (case y18ty => k_is); (case y18ic => k_is); (case y18ex => k_exc); (case y18ec => (refine' L2.ExcC.mk ?e1 ?e2 ?e3 ?e4 ?e5 ?e6 ?e7 ?e8); (case e1 => k_is); (case e2 => k_is); (case e3 => k_is); (case e4 => k_is); (case e5 => k_is); (case e6 => k_is); (case e7 => k_is); (case e8 => k_is)); (case y18self => k_is); (case y18bt => (refine' ⟨?t0, ?t1, ?t2, ?t3, ?t4, ?t5, trivial⟩); (case t0 => k_is); (case t1 => k_is); (case t2 => k_is); (case t3 => k_is); (case t4 => k_is); (case t5 => k_is)))
    case ts =>
      refine' (EV.SbAll.cons (EV.SbRow.cons ?s0_0 (EV.SbRow.cons ?s0_1 (EV.SbRow.cons ?s0_2 (EV.SbRow.cons ?s0_3 (EV.SbRow.cons ?s0_4 (EV.SbRow.cons ?s0_5 (EV.SbRow.cons ?s0_6 (EV.SbRow.cons ?s0_7 (EV.SbRow.cons ?s0_8 (EV.SbRow.cons ?s0_9 (EV.SbRow.cons ?s0_10 (EV.SbRow.cons ?s0_11 (EV.SbRow.cons ?s0_12 (EV.SbRow.cons ?s0_13 (EV.SbRow.cons ?s0_14 (EV.SbRow.cons ?s0_15 (EV.SbRow.cons ?s0_16 (EV.SbRow.cons ?s0_17 (EV.SbRow.cons ?s0_18 EV.SbRow.nil))))))))))))))))))) (EV.SbAll.cons (EV.SbRow.cons ?s1_0 (EV.SbRow.cons ?s1_1 (EV.SbRow.cons ?s1_2 (EV.SbRow.cons ?s1_3 (EV.SbRow.cons ?s1_4 (EV.SbRow.cons ?s1_5 (EV.SbRow.cons ?s1_6 (EV.SbRow.cons ?s1_7 (EV.SbRow.cons ?s1_8 (EV.SbRow.cons ?s1_9 (EV.SbRow.cons ?s1_10 (EV.SbRow.cons ?s1_11 (EV.SbRow.cons ?s1_12 (EV.SbRow.cons ?s1_13 (EV.SbRow.cons ?s1_14 (EV.SbRow.cons ?s1_15 (EV.SbRow.cons ?s1_16 (EV.SbRow.cons ?s1_17 (EV.SbRow.cons ?s1_18 EV.SbRow.nil))))))))))))))))))) (EV.SbAll.cons (EV.SbRow.cons ?s2_0 (EV.SbRow.cons ?s2_1 (EV.SbRow.cons ?s2_2 (EV.SbRow.cons ?s2_3 (EV.SbRow.cons ?s2_4 (EV.SbRow.cons ?s2_5 (EV.SbRow.cons ?s2_6 (EV.SbRow.cons ?s2_7 (EV.SbRow.cons ?s2_8 (EV.SbRow.cons ?s2_9 (EV.SbRow.cons ?s2_10 (EV.SbRow.cons ?s2_11 (EV.SbRow.cons ?s2_12 (EV.SbRow.cons ?s2_13 (EV.SbRow.cons ?s2_14 (EV.SbRow.cons ?s2_15 (EV.SbRow.cons ?s2_16 (EV.SbRow.cons ?s2_17 (EV.SbRow.cons ?s2_18 EV.SbRow.nil))))))))))))))))))) (EV.SbAll.cons (EV.SbRow.cons ?s3_0 (EV.SbRow.cons ?s3_1 (EV.SbRow.cons ?s3_2 (EV.SbRow.cons ?s3_3 (EV.SbRow.cons ?s3_4 (EV.SbRow.cons ?s3_5 (EV.SbRow.cons ?s3_6 (EV.SbRow.cons ?s3_7 (EV.SbRow.cons ?s3_8 (EV.SbRow.cons ?s3_9 (EV.SbRow.cons ?s3_10 (EV.SbRow.cons ?s3_11 (EV.SbRow.cons ?s3_12 (EV.SbRow.cons ?s3_13 (EV.SbRow.cons ?s3_14 (EV.SbRow.cons ?s3_15 (EV.SbRow.cons ?s3_16 (EV.SbRow.cons ?s3_17 (EV.SbRow.cons ?s3_18 EV.SbRow.nil))))))))))))))))))) (EV.SbAll.cons (EV.SbRow.cons ?s4_0 (EV.SbRow.cons ?s4_1 (EV.SbRow.cons ?s4_2 (EV.SbRow.cons ?s4_3 (EV.SbRow.cons ?s4_4 (EV.SbRow.cons ?s4_5 (EV.SbRow.cons ?s4_6 (EV.SbRow.cons ?s4_7 (EV.SbRow.cons ?s4_8 (EV.SbRow.cons ?s4_9 (EV.SbRow.cons ?s4_10 (EV.SbRow.cons ?s4_11 (EV.SbRow.cons ?s4_12 (EV.SbRow.cons ?s4_13 (EV.SbRow.cons ?s4_14 (EV.SbRow.cons ?s4_15 (EV.SbRow.cons ?s4_16 (EV.SbRow.cons ?s4_17 (EV.SbRow.cons ?s4_18 EV.SbRow.nil))))))))))))))))))) (EV.SbAll.cons (EV.SbRow.cons ?s5_0 (EV.SbRow.cons ?s5_1 (EV.SbRow.cons ?s5_2 (EV.SbRow.cons ?s5_3 (EV.SbRow.cons ?s5_4 (EV.SbRow.cons ?s5_5 (EV.SbRow.cons ?s5_6 (EV.SbRow.cons ?s5_7 (EV.SbRow.cons ?s5_8 (EV.SbRow.cons ?s5_9 (EV.SbRow.cons ?s5_10 (EV.SbRow.cons ?s5_11 (EV.SbRow.cons ?s5_12 (EV.SbRow.cons ?s5_13 (EV.SbRow.cons ?s5_14 (EV.SbRow.cons ?s5_15 (EV.SbRow.cons ?s5_16 (EV.SbRow.cons ?s5_17 (EV.SbRow.cons ?s5_18 EV.SbRow.nil))))))))))))))))))) (EV.SbAll.cons (EV.SbRow.cons ?s6_0 (EV.SbRow.cons ?s6_1 (EV.SbRow.cons ?s6_2 (EV.SbRow.cons ?s6_3 (EV.SbRow.cons ?s6_4 (EV.SbRow.cons ?s6_5 (EV.SbRow.cons ?s6_6 (EV.SbRow.cons ?s6_7 (EV.SbRow.cons ?s6_8 (EV.SbRow.cons ?s6_9 (EV.SbRow.cons ?s6_10 (EV.SbRow.cons ?s6_11 (EV.SbRow.cons ?s6_12 (EV.SbRow.cons ?s6_13 (EV.SbRow.cons ?s6_14 (EV.SbRow.cons ?s6_15 (EV.SbRow.cons ?s6_16 (EV.SbRow.cons ?s6_17 (EV.SbRow.cons ?s6_18 EV.SbRow.nil))))))))))))))))))) (EV.SbAll.cons (EV.SbRow.cons ?s7_0 (EV.SbRow.cons ?s7_1 (EV.SbRow.cons ?s7_2 (EV.SbRow.cons ?s7_3 (EV.SbRow.cons ?s7_4 (EV.SbRow.cons ?s7_5 (EV.SbRow.cons ?s7_6 (EV.SbRow.cons ?s7_7 (EV.SbRow.cons ?s7_8 (EV.SbRow.cons ?s7_9 (EV.SbRow.cons ?s7_10 (EV.SbRow.cons ?s7_11 (EV.SbRow.cons ?s7_12 (EV.SbRow.cons ?s7_13 (EV.SbRow.cons ?s7_14 (EV.SbRow.cons ?s7_15 (EV.SbRow.cons ?s7_16 (EV.SbRow.cons ?s7_17 (EV.SbRow.cons ?s7_18 EV.SbRow.nil))))))))))))))))))) (EV.SbAll.cons (EV.SbRow.cons ?s8_0 (EV.SbRow.cons ?s8_1 (EV.SbRow.cons ?s8_2 (EV.SbRow.cons ?s8_3 (EV.SbRow.cons ?s8_4 (EV.SbRow.cons ?s8_5 (EV.SbRow.cons ?s8_6 (EV.SbRow.cons ?s8_7 (EV.SbRow.cons ?s8_8 (EV.SbRow.cons ?s8_9 (EV.SbRow.cons ?s8_10 (EV.SbRow.cons ?s8_11 (EV.SbRow.cons ?s8_12 (EV.SbRow.cons ?s8_13 (EV.SbRow.cons ?s8_14 (EV.SbRow.cons ?s8_15 (EV.SbRow.cons ?s8_16 (EV.SbRow.cons ?s8_17 (EV.SbRow.cons ?s8_18 EV.SbRow.nil))))))))))))))))))) (EV.SbAll.cons (EV.SbRow.cons ?s9_0 (EV.SbRow.cons ?s9_1 (EV.SbRow.cons ?s9_2 (EV.SbRow.cons ?s9_3 (EV.SbRow.cons ?s9_4 (EV.SbRow.cons ?s9_5 (EV.SbRow.cons ?s9_6 (EV.SbRow.cons ?s9_7 (EV.SbRow.cons ?s9_8 (EV.SbRow.cons ?s9_9 (EV.SbRow.cons ?s9_10 (EV.SbRow.cons ?s9_11 (EV.SbRow.cons ?s9_12 (EV.SbRow.cons ?s9_13 (EV.SbRow.cons ?s9_14 (EV.SbRow.cons ?s9_15 (EV.SbRow.cons ?s9_16 (EV.SbRow.cons ?s9_17 (EV.SbRow.cons ?s9_18 EV.SbRow.nil))))))))))))))))))) (EV.SbAll.cons (EV.SbRow.cons ?s10_0 (EV.SbRow.cons ?s10_1 (EV.SbRow.cons ?s10_2 (EV.SbRow.cons ?s10_3 (EV.SbRow.cons ?s10_4 (EV.SbRow.cons ?s10_5 (EV.SbRow.cons ?s10_6 (EV.SbRow.cons ?s10_7 (EV.SbRow.cons ?s10_8 (EV.SbRow.cons ?s10_9 (EV.SbRow.cons ?s10_10 (EV.SbRow.cons ?s10_11 (EV.SbRow.cons ?s10_12 (EV.SbRow.cons ?s10_13 (EV.SbRow.cons ?s10_14 (EV.SbRow.cons ?s10_15 (EV.SbRow.cons ?s10_16 (EV.SbRow.cons ?s10_17 (EV.SbRow.cons ?s10_18 EV.SbRow.nil))))))))))))))))))) (EV.SbAll.cons (EV.SbRow.cons ?s11_0 (EV.SbRow.cons ?s11_1 (EV.SbRow.cons ?s11_2 (EV.SbRow.cons ?s11_3 (EV.SbRow.cons ?s11_4 (EV.SbRow.cons ?s11_5 (EV.SbRow.cons ?s11_6 (EV.SbRow.cons ?s11_7 (EV.SbRow.cons ?s11_8 (EV.SbRow.cons ?s11_9 (EV.SbRow.cons ?s11_10 (EV.SbRow.cons ?s11_11 (EV.SbRow.cons ?s11_12 (EV.SbRow.cons ?s11_13 (EV.SbRow.cons ?s11_14 (EV.SbRow.cons ?s11_15 (EV.SbRow.cons ?s11_16 (EV.SbRow.cons ?s11_17 (EV.SbRow.cons ?s11_18 EV.SbRow.nil))))))))))))))))))) (EV.SbAll.cons (EV.SbRow.cons ?s12_0 (EV.SbRow.cons ?s12_1 (EV.SbRow.cons ?s12_2 (EV.SbRow.cons ?s12_3 (EV.SbRow.cons ?s12_4 (EV.SbRow.cons ?s12_5 (EV.SbRow.cons ?s12_6 (EV.SbRow.cons ?s12_7 (EV.SbRow.cons ?s12_8 (EV.SbRow.cons ?s12_9 (EV.SbRow.cons ?s12_10 (EV.SbRow.cons ?s12_11 (EV.SbRow.cons ?s12_12 (EV.SbRow.cons ?s12_13 (EV.SbRow.cons ?s12_14 (EV.SbRow.cons ?s12_15 (EV.SbRow.cons ?s12_16 (EV.SbRow.cons ?s12_17 (EV.SbRow.cons ?s12_18 EV.SbRow.nil))))))))))))))))))) (EV.SbAll.cons (EV.SbRow.cons ?s13_0 (EV.SbRow.cons ?s13_1 (EV.SbRow.cons ?s13_2 (EV.SbRow.cons ?s13_3 (EV.SbRow.cons ?s13_4 (EV.SbRow.cons ?s13_5 (EV.SbRow.cons ?s13_6 (EV.SbRow.cons ?s13_7 (EV.SbRow.cons ?s13_8 (EV.SbRow.cons ?s13_9 (EV.SbRow.cons ?s13_10 (EV.SbRow.cons ?s13_11 (EV.SbRow.cons ?s13_12 (EV.SbRow.cons ?s13_13 (EV.SbRow.cons ?s13_14 (EV.SbRow.cons ?s13_15 (EV.SbRow.cons ?s13_16 (EV.SbRow.cons ?s13_17 (EV.SbRow.cons ?s13_18 EV.SbRow.nil))))))))))))))))))) (EV.SbAll.cons (EV.SbRow.cons ?s14_0 (EV.SbRow.cons ?s14_1 (EV.SbRow.cons ?s14_2 (EV.SbRow.cons ?s14_3 (EV.SbRow.cons ?s14_4 (EV.SbRow.cons ?s14_5 (EV.SbRow.cons ?s14_6 (EV.SbRow.cons ?s14_7 (EV.SbRow.cons ?s14_8 (EV.SbRow.cons ?s14_9 (EV.SbRow.cons ?s14_10 (EV.SbRow.cons ?s14_11 (EV.SbRow.cons ?s14_12 (EV.SbRow.cons ?s14_13 (EV.SbRow.cons ?s14_14 (EV.SbRow.cons ?s14_15 (EV.SbRow.cons ?s14_16 (EV.SbRow.cons ?s14_17 (EV.SbRow.cons ?s14_18 EV.SbRow.nil))))))))))))))))))) (EV.SbAll.cons (EV.SbRow.cons ?s15_0 (EV.SbRow.cons ?s15_1 (EV.SbRow.cons ?s15_2 (EV.SbRow.cons ?s15_3 (EV.SbRow.cons ?s15_4 (EV.SbRow.cons ?s15_5 (EV.SbRow.cons ?s15_6 (EV.SbRow.cons ?s15_7 (EV.SbRow.cons ?s15_8 (EV.SbRow.cons ?s15_9 (EV.SbRow.cons ?s15_10 (EV.SbRow.cons ?s15_11 (EV.SbRow.cons ?s15_12 (EV.SbRow.cons ?s15_13 (EV.SbRow.cons ?s15_14 (EV.SbRow.cons ?s15_15 (EV.SbRow.cons ?s15_16 (EV.SbRow.cons ?s15_17 (EV.SbRow.cons ?s15_18 EV.SbRow.nil))))))))))))))))))) (EV.SbAll.cons (EV.SbRow.cons ?s16_0 (EV.SbRow.cons ?s16_1 (EV.SbRow.cons ?s16_2 (EV.SbRow.cons ?s16_3 (EV.SbRow.cons ?s16_4 (EV.SbRow.cons ?s16_5 (EV.SbRow.cons ?s16_6 (EV.SbRow.cons ?s16_7 (EV.SbRow.cons ?s16_8 (EV.SbRow.cons ?s16_9 (EV.SbRow.cons ?s16_10 (EV.SbRow.cons ?s16_11 (EV.SbRow.cons ?s16_12 (EV.SbRow.cons ?s16_13 (EV.SbRow.cons ?s16_14 (EV.SbRow.cons ?s16_15 (EV.SbRow.cons ?s16_16 (EV.SbRow.cons ?s16_17 (EV.SbRow.cons ?s16_18 EV.SbRow.nil))))))))))))))))))) (EV.SbAll.cons (EV.SbRow.cons ?s17_0 (EV.SbRow.cons ?s17_1 (EV.SbRow.cons ?s17_2 (EV.SbRow.cons ?s17_3 (EV.SbRow.cons ?s17_4 (EV.SbRow.cons ?s17_5 (EV.SbRow.cons ?s17_6 (EV.SbRow.cons ?s17_7 (EV.SbRow.cons ?s17_8 (EV.SbRow.cons ?s17_9 (EV.SbRow.cons ?s17_10 (EV.SbRow.cons ?s17_11 (EV.SbRow.cons ?s17_12 (EV.SbRow.cons ?s17_13 (EV.SbRow.cons ?s17_14 (EV.SbRow.cons ?s17_15 (EV.SbRow.cons ?s17_16 (EV.SbRow.cons ?s17_17 (EV.SbRow.cons ?s17_18 EV.SbRow.nil))))))))))))))))))) (EV.SbAll.cons (EV.SbRow.cons ?s18_0 (EV.SbRow.cons ?s18_1 (EV.SbRow.cons ?s18_2 (EV.SbRow.cons ?s18_3 (EV.SbRow.cons ?s18_4 (EV.SbRow.cons ?s18_5 (EV.SbRow.cons ?s18_6 (EV.SbRow.cons ?s18_7 (EV.SbRow.cons ?s18_8 (EV.SbRow.cons ?s18_9 (EV.SbRow.cons ?s18_10 (EV.SbRow.cons ?s18_11 (EV.SbRow.cons ?s18_12 (EV.SbRow.cons ?s18_13 (EV.SbRow.cons ?s18_14 (EV.SbRow.cons ?s18_15 (EV.SbRow.cons ?s18_16 (EV.SbRow.cons ?s18_17 (EV.SbRow.cons ?s18_18 EV.SbRow.nil))))))))))))))))))) EV.SbAll.nil)))))))))))))))))))
      (case s0_0 => k_is)
      (case s0_1 => k_is)
      (case s0_2 => k_is)
      (case s0_3 => k_is)
      (case s0_4 => k_is)
      (case s0_5 => k_is)
      (case s0_6 => k_is)
      (case s0_7 => k_is)
      (case s0_8 => k_is)
      (case s0_9 => k_is)
      (case s0_10 => k_is)
      (case s0_11 => k_is)
      (case s0_12 => k_is)
      (case s0_13 => k_is)
      (case s0_14 => k_is)
      (case s0_15 => k_is)
      (case s0_16 => k_is)
      (case s0_17 => k_is)
      (case s0_18 => k_is)
      (case s1_0 => k_is)
      (case s1_1 => k_is)
      (case s1_2 => k_is)
      (case s1_3 => k_is)
      (case s1_4 => k_is)
      (case s1_5 => k_is)
      (case s1_6 => k_is)
      (case s1_7 => k_is)
      (case s1_8 => k_is)
      (case s1_9 => k_is)
      (case s1_10 => k_is)
      (case s1_11 => k_is)
      (case s1_12 => k_is)
      (case s1_13 => k_is)
      (case s1_14 => k_is)
      (case s1_15 => k_is)
      (case s1_16 => k_is)
      (case s1_17 => k_is)
      (case s1_18 => k_is)
      (case s2_0 => k_is)
      (case s2_1 => k_is)
      (case s2_2 => k_is)
      (case s2_3 => k_is)
      (case s2_4 => k_is)
      (case s2_5 => k_is)
      (case s2_6 => k_is)
      (case s2_7 => k_is)
      (case s2_8 => k_is)
      (case s2_9 => k_is)
      (case s2_10 => k_is)
      (case s2_11 => k_is)
      (case s2_12 => k_is)
      (case s2_13 => k_is)
      (case s2_14 => k_is)
      (case s2_15 => k_is)
      (case s2_16 => k_is)
      (case s2_17 => k_is)
      (case s2_18 => k_is)
      (case s3_0 => k_is)
      (case s3_1 => k_is)
      (case s3_2 => k_is)
      (case s3_3 => k_is)
      (case s3_4 => k_is)
      (case s3_5 => k_is)
      (case s3_6 => k_is)
      (case s3_7 => k_is)
      (case s3_8 => k_is)
      (case s3_9 => k_is)
      (case s3_10 => k_is)
      (case s3_11 => k_is)
      (case s3_12 => k_is)
      (case s3_13 => k_is)
      (case s3_14 => k_is)
      (case s3_15 => k_is)
      (case s3_16 => k_is)
      (case s3_17 => k_is)
      (case s3_18 => k_is)
      (case s4_0 => k_is)
      (case s4_1 => k_is)
      (case s4_2 => k_is)
      (case s4_3 => k_is)
      (case s4_4 => k_is)
      (case s4_5 => k_is)
      (case s4_6 => k_is)
      (case s4_7 => k_is)
      (case s4_8 => k_is)
      (case s4_9 => k_is)
      (case s4_10 => k_is)
      (case s4_11 => k_is)
      (case s4_12 => k_is)
      (case s4_13 => k_is)
      (case s4_14 => k_is)
      (case s4_15 => k_is)
      (case s4_16 => k_is)
      (case s4_17 => k_is)
      (case s4_18 => k_is)
      (case s5_0 => k_is)
      (case s5_1 => k_is)
      (case s5_2 => k_is)
      (case s5_3 => k_is)
      (case s5_4 => k_is)
      (case s5_5 => k_is)
      (case s5_6 => k_is)
      (case s5_7 => k_is)
      (case s5_8 => k_is)
      (case s5_9 => k_is)
      (case s5_10 => k_is)
      (case s5_11 => k_is)
      (case s5_12 => k_is)
      (case s5_13 => k_is)
      (case s5_14 => k_is)
      (case s5_15 => k_is)
      (case s5_16 => k_is)
      (case s5_17 => k_is)
      (case s5_18 => k_is)
      (case s6_0 => k_is)
      (case s6_1 => k_is)
      (case s6_2 => k_is)
      (case s6_3 => k_is)
      (case s6_4 => k_is)
      (case s6_5 => k_is)
      (case s6_6 => k_is)
      (case s6_7 => k_is)
      (case s6_8 => k_is)
      (case s6_9 => k_is)
      (case s6_10 => k_is)
      (case s6_11 => k_is)
      (case s6_12 => k_is)
      (case s6_13 => k_is)
      (case s6_14 => k_is)
      (case s6_15 => k_is)
      (case s6_16 => k_is)
      (case s6_17 => k_is)
      (case s6_18 => k_is)
      (case s7_0 => k_is)
      (case s7_1 => k_is)
      (case s7_2 => k_is)
      (case s7_3 => k_is)
      (case s7_4 => k_is)
      (case s7_5 => k_is)
      (case s7_6 => k_is)
      (case s7_7 => k_is)
      (case s7_8 => k_is)
      (case s7_9 => k_is)
      (case s7_10 => k_is)
      (case s7_11 => k_is)
      (case s7_12 => k_is)
      (case s7_13 => k_is)
      (case s7_14 => k_is)
      (case s7_15 => k_is)
      (case s7_16 => k_is)
      (case s7_17 => k_is)
      (case s7_18 => k_is)
      (case s8_0 => k_is)
      (case s8_1 => k_is)
      (case s8_2 => k_is)
      (case s8_3 => k_is)
      (case s8_4 => k_is)
      (case s8_5 => k_is)
      (case s8_6 => k_is)
      (case s8_7 => k_is)
      (case s8_8 => k_is)
      (case s8_9 => k_is)
      (case s8_10 => k_is)
      (case s8_11 => k_is)
      (case s8_12 => k_is)
      (case s8_13 => k_is)
      (case s8_14 => k_is)
      (case s8_15 => k_is)
      (case s8_16 => k_is)
      (case s8_17 => k_is)
      (case s8_18 => k_is)
      (case s9_0 => k_is)
      (case s9_1 => k_is)
      (case s9_2 => k_is)
      (case s9_3 => k_is)
      (case s9_4 => k_is)
      (case s9_5 => k_is)
      (case s9_6 => k_is)
      (case s9_7 => k_is)
      (case s9_8 => k_is)
      (case s9_9 => k_is)
      (case s9_10 => k_is)
      (case s9_11 => k_is)
      (case s9_12 => k_is)
      (case s9_13 => k_is)
      (case s9_14 => k_is)
      (case s9_15 => k_is)
      (case s9_16 => k_is)
      (case s9_17 => k_is)
      (case s9_18 => k_is)
      (case s10_0 => k_is)
      (case s10_1 => k_is)
      (case s10_2 => k_is)
      (case s10_3 => k_is)
      (case s10_4 => k_is)
      (case s10_5 => k_is)
      (case s10_6 => k_is)
      (case s10_7 => k_is)
      (case s10_8 => k_is)
      (case s10_9 => k_is)
      (case s10_10 => k_is)
      (case s10_11 => k_is)
      (case s10_12 => k_is)
      (case s10_13 => k_is)
      (case s10_14 => k_is)
      (case s10_15 => k_is)
      (case s10_16 => k_is)
      (case s10_17 => k_is)
      (case s10_18 => k_is)
      (case s11_0 => k_is)
      (case s11_1 => k_is)
      (case s11_2 => k_is)
      (case s11_3 => k_is)
      (case s11_4 => k_is)
      (case s11_5 => k_is)
      (case s11_6 => k_is)
      (case s11_7 => k_is)
      (case s11_8 => k_is)
      (case s11_9 => k_is)
      (case s11_10 => k_is)
      (case s11_11 => k_is)
      (case s11_12 => k_is)
      (case s11_13 => k_is)
      (case s11_14 => k_is)
      (case s11_15 => k_is)
      (case s11_16 => k_is)
      (case s11_17 => k_is)
      (case s11_18 => k_is)
      (case s12_0 => k_is)
      (case s12_1 => k_is)
      (case s12_2 => k_is)
      (case s12_3 => k_is)
      (case s12_4 => k_is)
      (case s12_5 => k_is)
      (case s12_6 => k_is)
      (case s12_7 => k_is)
      (case s12_8 => k_is)
      (case s12_9 => k_is)
      (case s12_10 => k_is)
      (case s12_11 => k_is)
      (case s12_12 => k_is)
      (case s12_13 => k_is)
      (case s12_14 => k_is)
      (case s12_15 => k_is)
      (case s12_16 => k_is)
      (case s12_17 => k_is)
      (case s12_18 => k_is)
      (case s13_0 => k_is)
      (case s13_1 => k_is)
      (case s13_2 => k_is)
      (case s13_3 => k_is)
      (case s13_4 => k_is)
      (case s13_5 => k_is)
      (case s13_6 => k_is)
      (case s13_7 => k_is)
      (case s13_8 => k_is)
      (case s13_9 => k_is)
      (case s13_10 => k_is)
      (case s13_11 => k_is)
      (case s13_12 => k_is)
      (case s13_13 => k_is)
      (case s13_14 => k_is)
      (case s13_15 => k_is)
      (case s13_16 => k_is)
      (case s13_17 => k_is)
      (case s13_18 => k_is)
      (case s14_0 => k_is)
      (case s14_1 => k_is)
      (case s14_2 => k_is)
      (case s14_3 => k_is)
      (case s14_4 => k_is)
      (case s14_5 => k_is)
      (case s14_6 => k_is)
      (case s14_7 => k_is)
      (case s14_8 => k_is)
      (case s14_9 => k_is)
      (case s14_10 => k_is)
      (case s14_11 => k_is)
      (case s14_12 => k_is)
      (case s14_13 => k_is)
      (case s14_14 => k_is)
      (case s14_15 => k_is)
      (case s14_16 => k_is)
      (case s14_17 => k_is)
      (case s14_18 => k_is)
      (case s15_0 => k_is)
      (case s15_1 => k_is)
      (case s15_2 => k_is)
      (case s15_3 => k_is)
      (case s15_4 => k_is)
      (case s15_5 => k_is)
      (case s15_6 => k_is)
      (case s15_7 => k_is)
      (case s15_8 => k_is)
      (case s15_9 => k_is)
      (case s15_10 => k_is)
      (case s15_11 => k_is)
      (case s15_12 => k_is)
      (case s15_13 => k_is)
      (case s15_14 => k_is)
      (case s15_15 => k_is)
      (case s15_16 => k_is)
      (case s15_17 => k_is)
      (case s15_18 => k_is)
      (case s16_0 => k_is)
      (case s16_1 => k_is)
      (case s16_2 => k_is)
      (case s16_3 => k_is)
      (case s16_4 => k_is)
      (case s16_5 => k_is)
      (case s16_6 => k_is)
      (case s16_7 => k_is)
      (case s16_8 => k_is)
      (case s16_9 => k_is)
      (case s16_10 => k_is)
      (case s16_11 => k_is)
      (case s16_12 => k_is)
      (case s16_13 => k_is)
      (case s16_14 => k_is)
      (case s16_15 => k_is)
      (case s16_16 => k_is)
      (case s16_17 => k_is)
      (case s16_18 => k_is)
      (case s17_0 => k_is)
      (case s17_1 => k_is)
      (case s17_2 => k_is)
      (case s17_3 => k_is)
      (case s17_4 => k_is)
      (case s17_5 => k_is)
      (case s17_6 => k_is)
      (case s17_7 => k_is)
      (case s17_8 => k_is)
      (case s17_9 => k_is)
      (case s17_10 => k_is)
      (case s17_11 => k_is)
      (case s17_12 => k_is)
      (case s17_13 => k_is)
      (case s17_14 => k_is)
      (case s17_15 => k_is)
      (case s17_16 => k_is)
      (case s17_17 => k_is)
      (case s17_18 => k_is)
      (case s18_0 => k_is)
      (case s18_1 => k_is)
      (case s18_2 => k_is)
      (case s18_3 => k_is)
      (case s18_4 => k_is)
      (case s18_5 => k_is)
      (case s18_6 => k_is)
      (case s18_7 => k_is)
      (case s18_8 => k_is)
      (case s18_9 => k_is)
      (case s18_10 => k_is)
      (case s18_11 => k_is)
      (case s18_12 => k_is)
      (case s18_13 => k_is)
      (case s18_14 => k_is)
      (case s18_15 => k_is)
      (case s18_16 => k_is)
      (case s18_17 => k_is)
      (case s18_18 => k_is)
    case tl =>
      refine' EV.LmAll.nil
    case td => decide
    case tt =>
      exact trivial
