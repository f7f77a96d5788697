import PyProof.Rows.All
import Wide.All
import OpenK.AllK
import Wide.FinOn
import PyProof.EqAt
import PyProof.EqKinds
import PyProof.TupleCall
import KE.KWithOwn
import HandS.Base
import HandS.Call
import HandS.Exc
import HandS.Words
import HandS.List
import HandS.Finally
import HandS.Nested
import KE.KExcInit
import HandS.ExcInit
import HandS.ExcField
import HandS.TryMany
import HandS.OwnEq
import PyProof.NeKinds
import HandS.Zip
import HandS.Dict
import KE.KDictZip
import HandS.Deep
import HandS.Comp
import PyProof.Draws
import PyProof.EnumMake
import OpenK.KOps
import OpenK.KMeth
import HandS.ForMost
import HandS.IsInst
import HandS.Codes
import HandS.Star
import HandS.TupAny
import HandS.MakeKw
import HandS.MakeKwOnly
import HandS.Defaults
import HandS.RaiseMore
import HandS.DictComp
import HandS.Flow
import HandS.WordsExc
import HandS.EndTab
import HandS.More
import HandS.Small
import PySem.Challenge.RW_cutofftills_k70_whole_attempts
set_option Elab.async false
set_option linter.all false
set_option maxRecDepth 100000
set_option maxHeartbeats 4000000
/-! KA: a def called whatever is handled (FnA); the with statement whose body may raise (ps_with). -/
namespace KW
open PySem PySem.Spec PyProof.Rows L2

/-! ### a def called whatever is handled -/
structure RoomA (k : Nat) (A : Around) : Prop where
  dp : A.depth + 3 * k + 5 < recursionLimit
  un : A.units + 16 * k + 200 < cLine
theorem RoomA.deeper {k : Nat} {A : Around} (r : RoomA (k + 1) A) (env : Env) : RoomA k (A.deeper env) :=
  ⟨by have := r.dp; show A.depth + 1 + 3 * k + 5 < _; omega, by have := r.un; show A.units + 3 + 16 * k + 200 < _; omega⟩
theorem RoomA.depth {k : Nat} {A : Around} (r : RoomA k A) : A.depth < recursionLimit := by have := r.dp; omega
theorem roomA_of {k : Nat} {A : Around} (r : Room k A) : RoomA k A := ⟨r.dp, r.un⟩
theorem roomA_mark {k : Nat} {A : Around} (r : Room k A) (h : Option Value) : RoomA k (A.mark h) := ⟨r.dp, r.un⟩
structure FnA (P : Program) (w : World) (K : PySem.W.Frag) (mg : Str → Option Value) (base : Heap) (CX : CXT) (k : Nat) (f : Addr) (fd : FuncData) (ps : List Str) (sp : Sp) : Prop where
  len : ∀ vs H Q E, sp vs H Q E → vs.length = ps.length
  run : ∀ (A : Around) (outer : List Env) (s : Shared) (H : Hp) (args : Args) (us : List Value) (vs : List V) (Q : VK) (E : XK), RoomA k A → Env0 P w K mg base A outer s H → BindsTo s fd args (ps.zip us) → Vals vs us → sp vs H Q E →
    codeAny (model P w) A (.call (.ref f) args) (CR CX outer P w H s Q E) s
def cxA (CX : CXT) (P : Program) (w : World) (K : PySem.W.Frag) (mg : Str → Option Value) (base : Heap) (N : List Str) (qual : Str) (scope : Scope) (f : Addr) (cd : Value) (A : Around) (outer : List Env) (s : Shared) (H : Hp) (E : XK) : Cx :=
  { cxOf CX P w K mg base N qual scope f cd A outer s H E with calm := false }
theorem inv_startA {CX : CXT} {P : Program} {w : World} {K : PySem.W.Frag} {mg : Str → Option Value} {base : Heap} {N ps : List Str} {qual : Str} {scope : Scope} {f : Addr} {cd : Value} {A : Around} {outer : List Env} {s s1 : Shared} {H : Hp} {E : XK} {us : List Value} {vs : List V}
    (S : FnScope N ps scope) (e0 : Env0 P w K mg base A outer s H) (hl : vs.length = ps.length) (r : Vals vs us)
    (x : InCallC s s.heap.objs.size (bindL (envOfC qual scope s.heap.objs.size f cd).kindOf (ps.zip us) fun _ => none) (cellsFrom (s.heap.objs.size + 1) scope.names []) (bindC (envOfC qual scope s.heap.objs.size f cd).kindOf (ps.zip us) fun _ => none) s1) :
    Inv (cxA CX P w K mg base N qual scope f cd A outer s H E) [] (L2.start N vs) H s1 := by
  have hpl : ps.length ≤ N.length := by have := congrArg List.length S.pre; rw [List.length_take] at this; omega
  obtain ⟨h1, tk, rfl, hk⟩ := x.done
  have noA : ∀ b : Addr, b ∉ (cxA CX P w K mg base N qual scope f cd A outer s H E).ex := fun b z => absurd (show b ∈ ([] : List Addr) from z) (by simp)
  refine ⟨⟨e0.mod, S.kind, rfl, rfl, Nat.le_refl _, fun y z c h1 h2 => ?_, fun y hy => ?_, fun y c _ h => ?_, (fun z => Bool.noConfusion (show false = true from z)), Around.frames_deeper e0.frames, .inr ⟨rfl, rfl⟩, fun b z => absurd z (noA b), e0.bs, e0.bsz, fun b _ _ => noA b, fun b z => absurd z (noA b), e0.funs, e0.frf⟩,
    rfl, e0.bare, Un.kept hk, ⟨_, x.toInCall.ns, fun i y v h1 h2 h3 => ?_⟩, fun y c h => ⟨_, x.cell y c h⟩, e0.hok.fresh (Nat.le_refl _), fun y c h => ?_, fun p hp => absurd (show p ∈ ([] : List (Addr × Obj)) from hp) (by simp), e0.hok.kept hk, ?_⟩
  · exact name_of_addr x.apart (PySem.mem_of_lookup h1) (PySem.mem_of_lookup h2)
  · have hy : scope.names.lookup y = some .cell ∨ scope.names.lookup y = some .free := hy
    rcases hy with hy | hy
    · exact cell_has hy
    · exact absurd rfl (S.nofree _ (PySem.mem_of_lookup hy))
  · exact Nat.le_of_lt (x.above y c (PySem.mem_of_lookup h))
  · have hi : i < vs.length := by
      unfold L2.start at h2
      by_cases hi : i < vs.length
      · exact hi
      · rw [List.getElem?_append_right (by simpa using hi)] at h2
        rw [List.getElem?_replicate] at h2
        split at h2 <;> cases h2
    have ha : vs[i]? = some v := by
      unfold L2.start at h2
      rw [List.getElem?_append_left (by simpa using hi), List.getElem?_map] at h2
      cases e : vs[i]? with
      | none => rw [e] at h2; cases h2
      | some a => rw [e] at h2; cases h2; rfl
    obtain ⟨u, hu, rv⟩ := r.get ha
    have hp : ps[i]? = some y := by
      rw [← S.pre, List.getElem?_take_of_lt (by omega)]; exact h1
    have ndP : ps.Nodup := by rw [← S.pre]; exact S.nd.sublist (List.take_sublist _ _)
    refine ⟨u, rv, ?_⟩
    rcases S.par y (List.mem_of_getElem? hp) with k | k
    · exact .inl ⟨k, bindL_get ndP hp hu k⟩
    · obtain ⟨c, e⟩ := cell_has (n := s.heap.objs.size + 1) k
      refine .inr ⟨.inl k, c, e, ?_⟩
      have q := x.cell y c e
      rw [bindC_get ndP hp hu (by show scope.names.lookup y ≠ _; rw [k]; decide)] at q
      exact q
  · exact e0.hok.fresh (Nat.le_of_lt (x.above y c (PySem.mem_of_lookup h)))
  · unfold L2.start
    show _ = N.length
    rw [List.length_append, List.length_map, List.length_replicate]
    omega
theorem fn_ofA {CX : CXT} {P : Program} {w : World} {K : PySem.W.Frag} {mg : Str → Option Value} {base : Heap} {k : Nat} {f : Addr} {name qual : Str} {params : Arguments} {body : List Stmt} {scope : Scope} {dV kV doc pm cdv ct oc : Value} {an od : Option Addr}
    {osl : Array (Option Value)} {N ps : List Str} {sp : Sp} (lk : K.lookup f = some ⟨oc, od, .func (PySem.W.fnOf name qual params body scope dV kV doc pm an cdv ct), osl⟩) (hcd : PySem.W.codeIn K cdv qual = true) (S : FnScope N ps scope)
    (len : ∀ vs H Q E, sp vs H Q E → vs.length = ps.length)
    (hbody : ∀ (A : Around) (outer : List Env) (s : Shared) (H : Hp) (vs : List V) (Q : VK) (E : XK), RoomA k (A.deeper (envOfC qual scope s.heap.objs.size f cdv)) → sp vs H Q E →
      ∃ t, PSs (cxA CX P w K mg base N qual scope f cdv A outer s H E) body t ∧ t { nx := fun _ H' => Q .non H', rt := Q } (L2.start N vs) H) :
    FnA P w K mg base CX (k + 1) f (PySem.W.fnOf name qual params body scope dV kV doc pm an cdv ct) ps sp := by
  refine ⟨len, fun A outer s H args us vs Q E hr e0 hb r hsp => ?_⟩
  have hl := len _ _ _ _ hsp
  have KX : K.In s.heap := e0.mod.kin.keeps fun b o e => (e0.bs b o e).1
  have lim : s.heap.NoLimit := e0.mod.nolimit.keeps fun b o e => (e0.bs b o e).1
  have hkind : ∀ y ∈ ps.zip us, scope.names.lookup y.1 = some .local ∨ (scope.names.lookup y.1 = some .cell ∧ ((cellsFrom (s.heap.objs.size + 1) scope.names []).lookup y.1).isSome = true) := fun ⟨n, v⟩ hy => by
    rcases S.par n (List.of_mem_zip hy).1 with q | q
    · exact .inl q
    · exact .inr ⟨q, PySem.W.cellsFrom_some _ _ _ (.inl q)⟩
  refine codeAny_call_function hr.depth (KX _ _ lk) rfl S.co S.gen rfl (PySem.W.codeRec_of KX hcd) (hb _ _ _ _ ?_)
  refine wpAny_newFunctionEnv_cells S.kind hkind fun env he s1 x => ?_
  subst he
  refine ⟨lim.keeps x.toInCall.keep, codeAny_func ?_⟩
  obtain ⟨t, ht, hq⟩ := hbody A outer s H vs Q E (hr.deeper _) hsp
  have I : Inv (cxA CX P w K mg base N qual scope f cdv A outer s H E) [] (L2.start N vs) H s1 := inv_startA S e0 hl r x
  refine wpAny_mono (ht.run [] s1 (L2.start N vs) H _ I hq) (fun fl s' hs => ?_) fun e s' hs => hs
  have fin : ∀ {σ' : L2.St} {H' : Hp} {v : V} {u : Value}, Inv (cxA CX P w K mg base N qual scope f cdv A outer s H E) [] σ' H' s' → RelV v u → Q v H' → CE outer P w H s Q u s' :=
    fun {σ' H' v u} J rv q => ⟨v, H', J.os, J.bare, J.base, J.hok, rv, q⟩
  cases fl with
  | ret u =>
    obtain ⟨v, σ', H', J, rv, q⟩ := hs
    exact fin J rv q
  | next =>
    obtain ⟨σ', H', J, q⟩ := hs
    exact fin (v := V.non) (u := Value.none) J rfl q
  | brk =>
    obtain ⟨_, _, _, q⟩ := hs
    exact False.elim q
  | cont =>
    obtain ⟨_, _, _, q⟩ := hs
    exact False.elim q
end KW
set_option Elab.async false
set_option linter.all false
set_option maxRecDepth 100000
set_option maxHeartbeats 4000000
namespace KW
open PySem PySem.Spec PyProof.Rows L2
/-- what the with wishes of an exception of its body: __exit__ runs and hands back False -/
def wWith (spX : Sp) (a : Addr) (Wout : WX) : WX := fun cls d σ H => ∃ c, cls = .ref c ∧ ∀ e t, H e = none → spX [.ref a, .ref c, .ref e, t] H (fun v H2 => v = .bl false ∧ Wout cls d σ H2) E0
/-- behind the body's end __exit__ runs -/
def dWith (spX : Sp) (a : Addr) (D : Ends) : Ends where
  nx := fun σ H => spX [.ref a, .non, .non, .non] H (fun _ H2 => D.nx σ H2) E0
  rt := fun v H => spX [.ref a, .non, .non, .non] H (fun _ H2 => D.rt v H2) E0
  bk := fun σ H => spX [.ref a, .non, .non, .non] H (fun _ H2 => D.bk σ H2) E0
  ct := fun σ H => spX [.ref a, .non, .non, .non] H (fun _ H2 => D.ct σ H2) E0
def tWith (C : Addr) (i : Nat) (spE spX : Sp) (tm : TE) (tb : WX → TS) (Wout : WX) : TS := fun D σ H => tm σ H fun x H1 => ∃ a dx fs, x = .ref a ∧ H1 a = some (.ins C dx fs) ∧
  spE [.ref a] H1 (fun v H2 => tb (wWith spX a Wout) (dWith spX a D) (σ.set i (some v)) H2) E0
/-- behind a raise in the body: the rest of the with -/
def WithRaised (env : Env) (pos : Pos) (a fx : Addr) (e : Value) : Sem Flow := do
  standAt pos
  holding [e] do
    let r ← withItem.marked e (.call (.ref fx) ⟨[.ref a] ++ [← typeOf e, e, ← tracebackOf e], []⟩)
    let swallow ← match r with
      | .none => pure false
      | .bool b => pure b
      | _ => do pure ((← withItem.marked e (.call (.type "bool") ⟨[r], []⟩)) == .bool true)
    if swallow then rule "with.exit-swallows"; setFlight e none; pure .next else passOn "with" e env
section
variable {prog : Program} {w : World} {M : Model} {A : Around} {E : Value → Shared → Prop} {s : Shared} {env : Env} {K : PySem.W.Frag} {x C L fe fx : Addr} {ox : Obj} {od : Option Obj} {pos : Pos}
theorem with_core {b : Value → Sem Unit} {bdy : Sem Flow} {Q : Flow → Shared → Prop} (X : K.In s.heap) (I : PySem.W.InstAt s.heap x ox C od) (he : PySem.W.findIn K (.ref C) "__enter__" = some (some (.ref fe))) (hfe : PySem.W.isFn K (.ref fe) = true) (hx : PySem.W.findIn K (.ref C) "__exit__" = some (some (.ref fx))) (hfx : PySem.W.isFn K (.ref fx) = true)
    (h : wpAny (model prog w) A (call (.ref fe) [.ref x]) (fun v s₂ => wpAny (model prog w) A (b v >>= fun _ => bdy) (fun f s₄ => wpAny (model prog w) A (call (.ref fx) [.ref x, .none, .none, .none]) (fun _ s₅ => Q f s₅) E s₄)
      (fun e s₄ => wpAny (model prog w) A (noteFrame e env) (fun _ s₅ => wpAny (model prog w) A (setFlight e none) (fun _ s₆ => wpAny (model prog w) A (WithRaised env pos x fx e) Q E s₆) E s₅) E s₄) s₂) E s) :
    wpAny (model prog w) A (withItem false pos env (pure (.ref x)) (some b) bdy) Q E s := by
  obtain ⟨cd, hcd, ae⟩ := PySem.W.kw_along he
  obtain ⟨cd', hcd', ax⟩ := PySem.W.kw_along hx
  cases hcd.symm.trans hcd'
  obtain ⟨hh, g, d, tt, os⟩ := s
  have L1 : PySem.W.Looks (model prog w) hh (specialOnItsLine (.ref x) "__enter__") (some (.ref fe), cd.mro) := PySem.W.kw_special X I hcd ae
  have L2 : PySem.W.Looks (model prog w) hh (specialOnItsLine (.ref x) "__exit__") (some (.ref fx), cd.mro) := PySem.W.kw_special X I hcd ax
  have L3 : PySem.W.Looks (model prog w) hh (bindSpecial (.ref fe) (.ref x)) (.ref fe, [.ref x]) := PySem.W.bind_fn X _ (beq_iff_eq.mp hfe)
  have L4 : PySem.W.Looks (model prog w) hh (bindSpecial (.ref fx) (.ref x)) (.ref fx, [.ref x]) := PySem.W.bind_fn X _ (beq_iff_eq.mp hfx)
  have L5 : PySem.W.Looks (model prog w) hh (aMethodOfAnotherBuiltinTypeStops (.ref fe) cd.mro) () := PySem.W.Looks.of_pure rfl
  have L6 : PySem.W.Looks (model prog w) hh (aMethodOfAnotherBuiltinTypeStops (.ref fx) cd.mro) () := PySem.W.Looks.of_pure rfl
  unfold withItem
  refine wpAny_bind (wpAny_pure ?_)
  refine wpAny_bind (wpAny_standAt ?_)
  simp only [Bool.false_eq_true, if_false]
  open PySem.W in kw_lk
  refine wpAny_mono h (fun v s₂ h₂ => ?_) fun _ _ z => z
  open PySem.W in kw_lk
  refine wpAny_attempt (PySem.W.kw_held ?_)
  show wpAny _ _ (b v >>= fun _ => bdy) _ _ _
  refine wpAny_mono h₂ (fun f s₄ h₄ => ?_) (fun e s₄ h₄ => ?_)
  · open PySem.W in kw_lk
    refine wpAny_mono h₄ (fun _ s₅ h₅ => ?_) fun _ _ z => z
    open PySem.W in kw_lk
    exact h₅
  · refine wpAny_bind (wpAny_mono h₄ (fun _ s₅ h₅ => ?_) fun _ _ z => z)
    refine wpAny_bind (wpAny_mono h₅ (fun _ s₆ h₆ => ?_) fun _ _ z => z)
    unfold WithRaised at h₆
    exact h₆
end

theorem tracebackOf_any {A : Around} {E : Value → Shared → Prop} {s : Shared} {M : Model} {a T : Addr} {oe oT : Obj} {vs ts : Array Value} {Q : Value → Shared → Prop} (he : s.heap.get? a = some oe) (hd : oe.data = .fields vs) (h1 : vs[1]? = some (.ref T))
    (hT : s.heap.get? T = some oT) (hdT : oT.data = .fields ts) (h3 : 3 < ts.size) (q1 : Q .none s) (q2 : Q (.ref T) s) : wpAny M A (tracebackOf (.ref a)) Q E s := by
  unfold tracebackOf
  refine wpAny_bind (wpAny_field he hd h1 ?_)
  have e1 : ts[1]? = some ts[1] := Array.getElem?_eq_getElem (by omega)
  dsimp only
  refine wpAny_bind (wpAny_field hT hdT e1 ?_)
  by_cases hz : (ts[1] == Value.none) = true
  · rw [if_pos hz]
    exact wpAny_pure q1
  · rw [if_neg hz]
    exact wpAny_pure q2
section
variable {X : Cx} {CX : CXT} {C fe fx : Addr} {fdE fdX : FuncData} {psX : List Str} {spE spX : Sp} {kE kX i : Nat} {y : Str} {ctx : Expr} {py pos : Pos} {body : List Stmt} {tm : TE} {tb : WX → TS} {Wout : WX}
theorem ps_with (hs : X.stack = X.env :: X.outer) (hf : X.env.frame = some X.env.locals) (hex : X.ex = []) (tk : Takes X Wout) (hm : PE X ctx tm)
    (he : PySem.W.findIn X.K (.ref C) "__enter__" = some (some (.ref fe))) (hfe : PySem.W.isFn X.K (.ref fe) = true) (hx : PySem.W.findIn X.K (.ref C) "__exit__" = some (some (.ref fx))) (hfx : PySem.W.isFn X.K (.ref fx) = true)
    (FE : FnOk X.prog X.w X.K X.mg X.base CX kE fe fdE ["self"] spE) (hrE : Room kE X.A) (bE : Binds X.K fdE ["self"] []) (pE : Passes CX X E0)
    (FX : FnA X.prog X.w X.K X.mg X.base CX0 kX fx fdX psX spX) (hrX : Room kX X.A) (bX : Binds X.K fdX psX [])
    (hN : X.N.Nodup) (hi : X.N[i]? = some y) (hloc : Loc X.env.scope y) (hfn : X.fn y = true ∨ X.env.scope.names.lookup y = some .local)
    (hb : ∀ (W : WX) (pn : List (Addr × Obj)) (xe : Value → Shared → Prop), Takes (X.tr pn xe) W → PassesOwn (model X.prog X.w) X.A X.env xe → PSs (X.tr pn xe) body (tb W)) :
    PS X (.With [⟨ctx, some (.Name y py)⟩] body pos) (tWith C i spE spX tm tb Wout) := by
  refine ⟨fun pins s σ H D I h => ?_⟩
  have ok := I.ok
  have hfr : X.A.frames = some (X.env :: X.outer) := by rw [ok.frames, hs]
  refine PySem.W.kw_execN (thn (hm.run pins s σ H _ I h) fun u s1 hh => ?_)
  obtain ⟨x, H1, I1, rx, a, dx, fs, ex, ea, q1⟩ := hh
  subst ex
  obtain rfl : u = Value.ref a := rx
  obtain ⟨mA, O, _⟩ := ins_get I1.hok ea
  obtain ⟨od, J, _⟩ := O.look
  refine with_core (b := assign (.Name y py) X.env) I1.kIn J he hfe hx hfx ?_
  refine thn (run_fn (us := [.ref a]) (vs := [.ref a]) FE hrE bE .nil pE I1 (.cons rfl .nil) q1) fun v s2 hh => ?_
  obtain ⟨v2, H2, I2, r2, q2⟩ := hh
  refine wpAny_bind (wpAny_assign_Name ?_)
  refine store_ok I2 hN hi hloc r2 (fun s3 I3 => ?_) hfn
  -- the body
  have exitN : ∀ {s4 : Shared} {σ4 : L2.St} {H4 : Hp} {Q : Hp → Prop} {R : Shared → Prop}, Inv X pins σ4 H4 s4 → spX [.ref a, .non, .non, .non] H4 (fun _ H5 => Q H5) E0 → (∀ s5 H5, Inv X pins σ4 H5 s5 → Q H5 → R s5) →
      wpAny (model X.prog X.w) X.A (call (.ref fx) [.ref a, .none, .none, .none]) (fun _ s5 => R s5) X.xe s4 := fun {s4 σ4 H4 Q R} I4 hq hR => by
    have r4 : Vals [V.ref a, .non, .non, .non] [Value.ref a, .none, .none, .none] := .cons rfl (.cons rfl (.cons rfl (.cons rfl .nil)))
    have hl := FX.len _ _ _ _ hq
    refine wpAny_call (codeAny_mono (FX.run X.A X.stack s4 H4 ⟨[.ref a, .none, .none, .none], []⟩ [.ref a, .none, .none, .none] [.ref a, .non, .non, .non] _ E0 (roomA_of hrX) I4.env0 (by
      have b := bX s4 [.ref a, .none, .none, .none] I4.kIn (by rw [List.append_nil]; exact hl)
      rw [List.append_nil] at b
      exact b) r4 hq) fun r s' hq' => ?_)
    cases r with
    | error e => exact hq'.elim
    | ok fl =>
      cases fl with
      | ret w2 =>
        obtain ⟨z, H', I', rz, ez⟩ := I4.after hq'
        exact hR s' H' I' ez
      | next => exact False.elim hq'
      | brk => exact False.elim hq'
      | cont => exact False.elim hq'
  refine wpAny_mono ((hb (wWith spX a Wout) (X.pn ++ pins) (fun e s₁ => wpAny (model X.prog X.w) X.A (noteFrame e X.env) (fun _ s₂ => wpAny (model X.prog X.w) X.A (setFlight e none) (fun _ s₃ =>
    wpAny (model X.prog X.w) X.A (WithRaised X.env ctx.pos a fx e) (SP X pins D) X.xe s₃) X.xe s₂) X.xe s₁) (fun u s' xx => ?_) PassesOwn.looking).run [] s3 _ H2 (dWith spX a D) (I3.toTry _) q2) (fun f s4 hsp => ?_) (fun e s4 he => he)
  · -- the catch
    obtain ⟨e, B, sI, pins', σ', H', cls, d, rfl, J', nb, up, sky, na, os, ag, c, hcls, hw⟩ := xx
    subst hcls
    have J : Inv X pins σ' H' sI := J'.ofTry ok
    have sky' : Sky B (X.env :: X.outer) e (Zc (.ref c) d) X.env.locals s'.heap := by rw [← hs]; exact sky
    show wpAny (model X.prog X.w) X.A (noteFrame (.ref e) X.env) _ _ _
    refine Sky.land Zc.steady hfr hf sky' fun h3 fl3 up3 => ?_
    have J3 : Inv X pins σ' H' { s' with heap := h3 } := J.landed nb fl3.1 (up.trans up3) os ag
    obtain ⟨k1, k2, k3, oe, vs, T, oT, ts, he3, hz, hd, hv1, hnT, hTe, hT, hdT, ht3⟩ := id fl3
    have nT : H' T = none := (J.inGround nb).gone hnT
    have notFr : ∀ (b : Addr) (o : Obj) (fv : Array Value), h3.get? b = some o → o.data = .fields fv → b ∉ frs (X.env :: X.outer) := fun b o fv e dd hm => by
      obtain ⟨_, o', e', hnf⟩ := k3.mem hm
      have eo : o = o' := Option.some.inj (e.symm.trans e')
      rw [← eo] at hnf
      exact hnf _ dd
    have locF : X.env.locals ∈ frs (X.env :: X.outer) := List.mem_filterMap.mpr ⟨X.env, List.mem_cons_self, hf⟩
    have fsF : ∀ b, b ∈ X.fs → b ∈ frs (X.env :: X.outer) := fun b hm => by
      obtain ⟨e, he, q⟩ := List.mem_filterMap.mp hm
      exact List.mem_filterMap.mpr ⟨e, List.mem_cons_of_mem _ he, q⟩
    have fa := notFr e oe vs he3 hd
    have fT := notFr T oT ts hT hdT
    have S3 : Inv (X.suite e ((e, oe) :: (T, oT) :: (X.pn ++ pins))) [] σ' H' { s' with heap := h3 } :=
      ⟨J3.ok.suite _ _, J3.os, J3.bare, J3.base, J3.loc, J3.cell, J3.free, J3.freeC, fun p hp => by
        rw [List.append_nil] at hp
        rcases List.mem_cons.mp hp with z | hp
        · rw [z]
          exact ⟨he3, na, fun z2 => fa (by rw [show e = X.env.locals from z2]; exact locF), fun z2 => fa (fsF _ z2), fun v z2 => by
            have z3 : oe.data = .cell v := z2
            rw [hd] at z3
            cases z3⟩
        · rcases List.mem_cons.mp hp with z | hp
          · rw [z]
            exact ⟨hT, nT, fun z2 => fT (by rw [show T = X.env.locals from z2]; exact locF), fun z2 => fT (fsF _ z2), fun v z2 => by
              have z3 : oT.data = .cell v := z2
              rw [hdT] at z3
              cases z3⟩
          · exact J3.pin p hp, J3.hok, J3.len⟩
    unfold WithRaised
    refine wpAny_bind (wpAny_standAt (wpAny_holding ?_))
    have LT : PySem.W.Looks (model X.prog X.w) h3 (typeOf (.ref e)) (.ref c) := fun A Q E s k q => wpAny_typeOf_ref (k _ _ he3) (by rw [hz.1]; exact q)
    refine wpAny_bind (LT.here ?_)
    have fin : ∀ tv : Value, ∀ t : V, RelV t tv → wpAny (model X.prog X.w) X.A (do
        let r ← withItem.marked (.ref e) (.call (.ref fx) ⟨[.ref a] ++ [.ref c, .ref e, tv], []⟩)
        let swallow ← match r with
          | .none => pure false
          | .bool b => pure b
          | _ => do pure ((← withItem.marked (.ref e) (.call (.type "bool") ⟨[r], []⟩)) == .bool true)
        if swallow then rule "with.exit-swallows"; setFlight (.ref e) none; pure .next else PySem.passOn "with" (.ref e) X.env) (SP X pins D) X.xe { s' with heap := h3 } := fun tv t rt => by
      have hq := hw e t na
      have r4 : Vals [V.ref a, .ref c, .ref e, t] [Value.ref a, .ref c, .ref e, tv] := .cons rfl (.cons rfl (.cons rfl (.cons rt .nil)))
      have hl := FX.len _ _ _ _ hq
      have run := FX.run (X.A.mark (some (.ref e))) X.stack { s' with heap := h3 } H' ⟨[.ref a, .ref c, .ref e, tv], []⟩ [.ref a, .ref c, .ref e, tv] [.ref a, .ref c, .ref e, t] _ E0 (roomA_mark hrX _) S3.env0 (by
        have b := bX { s' with heap := h3 } [.ref a, .ref c, .ref e, tv] S3.kIn (by rw [List.append_nil]; exact hl)
        rw [List.append_nil] at b
        exact b) r4 hq
      refine wpAny_bind ?_
      unfold withItem.marked
      refine wpAny_bind (wpAny_run (codeAny_mono run fun r s6 hq' => ?_) (fun z => ref_ne_byPass e (Option.some.inj z)))
      cases r with
      | error er => exact hq'.elim
      | ok fl =>
        cases fl with
        | next => exact False.elim hq'
        | brk => exact False.elim hq'
        | cont => exact False.elim hq'
        | ret w2 =>
          obtain ⟨z, H6, S6, rz, ez, q6⟩ := S3.after hq'
          subst ez
          obtain rfl : w2 = Value.bool false := rz
          refine wpAny_pure ?_
          dsimp only
          refine wpAny_bind (wpAny_pure ?_)
          have J6 : Inv X pins σ' H6 s6 := ⟨ok, S6.os, S6.bare, S6.base, S6.loc, S6.cell, S6.free, S6.freeC, fun p hp => S6.pin p (List.mem_append_left _ (List.mem_cons_of_mem _ (List.mem_cons_of_mem _ hp))), S6.hok, S6.len⟩
          have pa := S6.pin (e, oe) (List.mem_append_left _ List.mem_cons_self)
          have pT := S6.pin (T, oT) (List.mem_append_left _ (List.mem_cons_of_mem _ List.mem_cons_self))
          have ga : s6.heap.get? e = some oe := pa.1
          have gT : s6.heap.get? T = some oT := pT.1
          have na6 : H6 e = none := pa.2.1
          have nT6 : H6 T = none := pT.2.1
          have far : ∀ b o, sI.heap.get? b = some o → b ≠ e ∧ b ≠ T := fun b o e1 => by
            by_cases hb : b ∈ frs X.stack
            · rw [hs] at hb
              exact ⟨fun z => fa (by rw [← z]; exact hb), fun z => fT (by rw [← z]; exact hb)⟩
            · have q := nb b o e1 hb
              exact ⟨fun z => by
                rw [z, k2] at q
                exact (nomatch q), fun z => by
                rw [z, hnT] at q
                cases q⟩
          have far0 : ∀ b o, X.s_0.heap.get? b = some o → b ≠ e ∧ b ≠ T := fun b o e1 => by
            obtain ⟨o', q⟩ := J.base.there b o e1 (by rw [hex]; simp)
            exact far b o' q
          have farP : ∀ p ∈ X.pn ++ pins, p.1 ≠ e ∧ p.1 ≠ T := fun p hp => far p.1 p.2 (J.pin p hp).1
          obtain ⟨G, g1, g2⟩ := restrict s6.heap fun b => !(decide (b = e) || decide (b = T))
          have gIn : ∀ b o, G.get? b = some o → s6.heap.get? b = some o ∧ b ≠ e ∧ b ≠ T := fun b o e1 => by
            cases q : (!(decide (b = e) || decide (b = T))) with
            | false =>
              rw [g2 b q] at e1
              cases e1
            | true =>
              rw [g1 b q] at e1
              simp only [Bool.not_eq_true', Bool.or_eq_false_iff, decide_eq_false_iff_not] at q
              exact ⟨e1, q.1, q.2⟩
          have gOf : ∀ b o, b ≠ e → b ≠ T → s6.heap.get? b = some o → G.get? b = some o := fun b o h1 h2 e1 => by
            rw [g1 b (by simp [h1, h2])]
            exact e1
          have I6 : Inv X pins σ' H6 { s6 with heap := G } := J6.less (fun b o e1 => (gIn b o e1).1) gOf ⟨oe, vs, ga, hd⟩ ⟨oT, ts, gT, hdT⟩ na6 nT6 far0 farP
          have B6in : ∀ b o, (PySem.W.hideAll G (frs X.stack)).get? b = some o → s6.heap.get? b = some o := fun b o e1 => (gIn b o (PySem.W.of_hideAll _ e1)).1
          have Bno : ∀ b, (b = e ∨ b = T) → (PySem.W.hideAll G (frs X.stack)).get? b = none := fun b hb => by
            cases q : (PySem.W.hideAll G (frs X.stack)).get? b with
            | none => rfl
            | some o =>
              obtain ⟨_, n1, n2⟩ := gIn b o (PySem.W.of_hideAll _ q)
              rcases hb with z | z
              · exact absurd z n1
              · exact absurd z n2
          have fl6 : HandSPX.FlyingZ (PySem.W.hideAll G (frs X.stack)) (X.env :: X.outer) e (Zc (.ref c) d) s6.heap := by
            refine ⟨B6in, Bno e (.inl rfl), ?_, oe, vs, T, oT, ts, ga, hz, hd, hv1, Bno T (.inr rfl), hTe, gT, hdT, ht3⟩
            have ff := funFrames_none (B := PySem.W.hideAll G (frs X.stack)) J6.stack fun b hb => PySem.W.hideAll_none _ hb
            rw [← hs]
            exact ff
          rw [if_neg (by decide)]
          unfold PySem.passOn
          refine wpAny_bind (wpAny_field ga hd hv1 ?_)
          rw [if_neg (show ¬ ((Value.ref T == Value.none) = true) from by simp)]
          have goOn : wpAny (model X.prog X.w) X.A (setFlight (.ref e) X.env.frame) (fun _ s7 => wpAny (model X.prog X.w) X.A (throw (.ref e) : Sem Flow) (SP X pins D) X.xe s7) X.xe s6 := by
            rw [hf]
            refine HandSPX.setFlight_upZ fl6 fun h7 hh7 up7 => wpAny_throw (tk _ _ ?_)
            refine ⟨e, PySem.W.hideAll G (frs X.stack), { s6 with heap := G }, pins, σ', H6, .ref c, d, rfl, I6, fun b o e1 hb => PySem.W.hideAll_get _ e1 hb, ?_, .inr (.inr (by rw [← hs] at hh7; exact hh7)), na6, rfl, J6.bare, q6⟩
            exact Heap.UpToSlots.trans (Heap.UpToSlots.of_keeps fun b o e1 => (gIn b o e1).1) up7
          first
            | exact wpAny_bind (wpAny_pure (wpAny_bind goOn))
            | exact wpAny_bind goOn
    have hsz3 : 3 < ts.size := (Array.getElem?_eq_some_iff.mp ht3).1
    exact wpAny_bind (tracebackOf_any he3 hd hv1 hT hdT hsz3 (fin .none .non rfl) (fin (.ref T) (.ref T) rfl))
  · cases f with
    | next =>
      obtain ⟨σ', H', J', q⟩ := hsp
      exact exitN (J'.ofTry ok) q fun s5 H5 I5 q5 => ⟨σ', H5, I5, q5⟩
    | brk =>
      obtain ⟨σ', H', J', q⟩ := hsp
      exact exitN (J'.ofTry ok) q fun s5 H5 I5 q5 => ⟨σ', H5, I5, q5⟩
    | cont =>
      obtain ⟨σ', H', J', q⟩ := hsp
      exact exitN (J'.ofTry ok) q fun s5 H5 I5 q5 => ⟨σ', H5, I5, q5⟩
    | ret u =>
      obtain ⟨v, σ', H', J', r, q⟩ := hsp
      exact exitN (J'.ofTry ok) q fun s5 H5 I5 q5 => ⟨v, σ', H5, I5, r, q5⟩
end
end KW
set_option Elab.async false
set_option linter.all false
set_option maxRecDepth 100000
set_option maxHeartbeats 4000000
/-! KLamF: a lambda with parameters and captured cells, handed through defs; defs whose promise is told of the very state (FnS). -/
namespace KL
open PySem PySem.Spec PyProof.Rows L2 LamX NdefX

/-! ### the made lambda -/
structure LF where
  qual : Str
  params : Arguments
  body : Expr
  scope : Scope
  cl : List (Str × Addr)
  c : Addr
abbrev LF.nf (F : LF) : NF := ⟨"<lambda>", F.qual, F.params, [], F.scope, F.cl, F.c⟩
/-- it stands at f in the state; ws: what its captured cells hold -/
structure VisAt (F : LF) (f : Addr) (fr : List Str) (ws : List (Option V)) (outer : List Env) (s : Shared) (H : Hp) : Prop where
  obj : ∃ pm ctv, s.heap.get? f = some (PySem.W.kla_obj "<lambda>" F.qual F.params F.body F.scope F.cl pm F.c ctv)
  free : H f = none
  code : H F.c = some (CodeO F.c F.qual)
  cells : CellsAt F.cl fr ws s.heap H
  nof : f ∉ frs outer
  noc : ∀ y c, F.cl.lookup y = some c → c ∉ frs outer
section
variable {X : Cx} {pins : List (Addr × Obj)} {σ : L2.St} {H : Hp} {s : Shared} {F : LF} {f : Addr} {fr : List Str} {ws : List (Option V)}
theorem VisAt.later (V0 : VisAt F f fr ws X.outer X.s_0 X.H_0) (hs : X.stack = X.env :: X.outer) (hf : X.env.frame = some X.env.locals) (hex : X.ex = []) (I : Inv X pins σ H s) (hc : H F.c = some (CodeO F.c F.qual)) : VisAt F f fr ws X.stack s H := by
  have noex : ∀ b : Addr, b ∉ X.ex := fun b hb => by rw [hex] at hb; cases hb
  have up : ∀ b o, X.s_0.heap.get? b = some o → b ∉ frs X.outer → b ∉ frs X.stack := fun b o e nb hm => by
    rcases List.mem_cons.mp (I.stkSub b hm) with z | z
    · have h1 := Heap.lt_size e
      have h2 := I.ok.above
      rw [z] at h1
      exact absurd (Nat.lt_of_lt_of_le h1 h2) (Nat.lt_irrefl _)
    · exact nb z
  obtain ⟨pm, ctv, ho⟩ := V0.obj
  refine ⟨⟨pm, ctv, I.base.keep f _ ho V0.free V0.nof (noex f)⟩, I.base.free f _ ho V0.free (noex f), hc, V0.cells.later (fun y c e => V0.noc y c e) (fun y c _ => noex c) I, up f _ ho V0.nof, fun y c e => ?_⟩
  obtain ⟨_, v, o, hco, _⟩ := V0.cells.all y c e
  exact up c o hco (V0.noc y c e)
end
/-! ### what it promises -/
abbrev TL := XK → List V → Hp → VK → Prop
structure LamOk (P : Program) (w : World) (K : PySem.W.Frag) (mg : Str → Option Value) (base : Heap) (k : Nat) (F : LF) (f : Addr) (N ps fr : List Str) (ws : List (Option V)) (tl : TL) : Prop where
  S : NScope N ps fr F.scope
  hb : ∀ (pm cv ctv : Value) (us : List Value), us.length = ps.length → bindArgs (PySem.W.kla_fn "<lambda>" F.qual F.params F.body F.scope F.cl pm cv ctv) ⟨us, []⟩ = pure (ps.zip us)
  len : ∀ E vs H Q, tl E vs H Q → vs.length = ps.length
  body : ∀ (A : Around) (outer : List Env) (s : Shared) (H : Hp) (vs : List V) (Q : VK) (E : XK), Room k (A.deeper (envF F.nf f s.heap.objs.size)) → Env0 P w K mg base A outer s H → VisAt F f fr ws outer s H → tl E vs H Q →
    ∃ t, PE (ncx (L2.CX P w) P w K mg base N F.nf f A outer s H E) F.body t ∧ t (startF N vs ws) H Q
theorem LamOk.run {P : Program} {w : World} {K : PySem.W.Frag} {mg : Str → Option Value} {base : Heap} {k : Nat} {F : LF} {f : Addr} {N ps fr : List Str} {ws : List (Option V)} {tl : TL} (L : LamOk P w K mg base k F f N ps fr ws tl)
    {A : Around} {outer : List Env} {s : Shared} {H : Hp} {us : List Value} {vs : List V} {Q : VK} {E : XK} (hr : Room (k + 1) A) (e0 : Env0 P w K mg base A outer s H) (V0 : VisAt F f fr ws outer s H) (r : Vals vs us) (h : tl E vs H Q) :
    codeAny (model P w) A (.call (.ref f) ⟨us, []⟩) (CR (L2.CX P w) outer P w H s Q E) s := by
  have hl := L.len _ _ _ _ h
  have S := L.S
  have lim : s.heap.NoLimit := e0.mod.nolimit.keeps fun b o e => (e0.bs b o e).1
  obtain ⟨pm, ctv, ho⟩ := V0.obj
  refine PySem.W.kla_callFunE hr.depth ho rfl S.co S.gen rfl (codeO_at e0.hok V0.code) ?_
  rw [L.hb pm _ ctv us (by rw [← r.length]; exact hl)]
  refine wpAny_pure (wpAny_newFunctionEnv S.nocell (fun ⟨n, _⟩ hy => S.par n (List.of_mem_zip hy).1) (fun h₁ hns hsb => ⟨lim.fresh _ hsb, ?_⟩) S.kind)
  show codeAny _ _ (.expr F.body (envF F.nf f s.heap.objs.size)) _ _
  have kp : ∀ b o, s.heap.get? b = some o → h₁.get? b = some o := fun b o e => hsb.extBut b o (Nat.ne_of_lt (Heap.lt_size e)) (Heap.get?_push_of_some _ e)
  obtain ⟨t, ht, hq⟩ := L.body A outer s H vs Q E (hr.deeper _) e0 V0 h
  have I : Inv (ncx (L2.CX P w) P w K mg base N F.nf f A outer s H E) [] (startF N vs ws) H { s with heap := h₁, toks := s.toks + (ps.zip us).length } := inv_startN S hr.hd e0 hl r V0.cells hns kp
  refine PySem.W.kla_codeExpr (wpAny_mono (ht.run [] _ _ H Q I hq) (fun v s' hh => ?_) fun e s' hh => hh)
  obtain ⟨w', H', J', rv, q⟩ := hh
  exact ⟨w', H', J'.os, J'.bare, J'.base, J'.hok, rv, q⟩
/-! ### a local name that holds the lambda, called -/
def tVis (i : Nat) (f : Addr) (F : LF) (tl : TL) (E : XK) (t : TA) : TE := fun σ H Q => σ[i]? = some (some (.ref f)) ∧ t σ H fun vs H1 => H1 F.c = some (CodeO F.c F.qual) ∧ tl E vs H1 Q
section
variable {X : Cx} {k i : Nat} {F : LF} {f : Addr} {N ps fr : List Str} {ws : List (Option V)} {tl : TL} {E : XK} {x : Str} {p pos : Pos} {e : Expr} {es : List Expr} {t : TA}
theorem pe_vis (L : LamOk X.prog X.w X.K X.mg X.base k F f N ps fr ws tl) (V0 : VisAt F f fr ws X.outer X.s_0 X.H_0) (hs : X.stack = X.env :: X.outer) (hf : X.env.frame = some X.env.locals) (hex : X.ex = []) (hr : Room (k + 1) X.A) (hx : Passes (L2.CX X.prog X.w) X E)
    (hN : X.N[i]? = some x) (hv : Vis X.env.scope x) (ha : PA X (e :: es) t)
    (hd : (x == ("__debug__" : Str)) = false := by decide) (hcd : (x == ("__classdict__" : Str)) = false := by decide)
    (he : starEach (e :: es) X.env = (false, eval e X.env) :: starEach es X.env := by rfl) (hpl : (backTo pos (starEach es X.env)).any (·.1) = false := by rfl) :
    PE X (.Call (.Name x p) (e :: es) [] pos) (tVis i f F tl E t) := by
  refine ⟨fun pins s σ H Q I h => ?_⟩
  obtain ⟨hsl, ht⟩ := h
  have noex : ∀ b : Addr, b ∉ X.ex := fun b hb => by rw [hex] at hb; cases hb
  obtain ⟨pm, ctv, ho⟩ := V0.obj
  have at_ : ∀ {σ' : L2.St} {H' : Hp} {s' : Shared}, Inv X pins σ' H' s' → PySem.W.FnAt f s'.heap := fun {σ' H' s'} J => ⟨_, _, _, _, J.base.keep f _ ho V0.free V0.nof (noex f)⟩
  refine wpAny_Call_Name_kw (thn ((pe_var (pos := p) hN hv hd hcd).run pins s σ H (fun v H1 => v = .ref f ∧ H1 = H) I ⟨.ref f, hsl, rfl, rfl⟩) fun u s1 ⟨v, H1, I1, r1, q1⟩ => ?_)
  obtain ⟨ev, eH⟩ := q1
  subst ev
  rw [eH] at I1
  obtain rfl : u = Value.ref f := r1
  refine PySem.W.callWith_F (first := []) (at_ I1) (thn (ha.run pos pins s1 σ H _ I1 ht) fun us s2 ⟨vs, H2, I2, r, h1, q⟩ => ⟨at_ I2, ?_⟩) he hpl
  show wpAny _ _ (call (.ref f) us) _ _ _
  refine wpAny_call (codeAny_mono (L.run hr I2.env0 (V0.later hs hf hex I2 h1) r q) fun r s' hq => ?_)
  cases r with
  | error er => exact hx pins σ _ s2 er s' I2 hq
  | ok fl =>
    cases fl with
    | ret u => exact I2.after hq
    | next => exact False.elim hq
    | brk => exact False.elim hq
    | cont => exact False.elim hq
end
/-! ### defs whose promise is told of the very state -/
abbrev SpS := List Env → Shared → List V → Hp → VK → XK → Prop
structure FnS (P : Program) (w : World) (K : PySem.W.Frag) (mg : Str → Option Value) (base : Heap) (k : Nat) (f : Addr) (fd : FuncData) (ps : List Str) (sp : SpS) : Prop where
  len : ∀ outer s vs H Q E, sp outer s vs H Q E → vs.length = ps.length
  run : ∀ (A : Around) (outer : List Env) (s : Shared) (H : Hp) (args : Args) (us : List Value) (vs : List V) (Q : VK) (E : XK), Room k A → Env0 P w K mg base A outer s H → BindsTo s fd args (ps.zip us) → Vals vs us → sp outer s vs H Q E →
    codeAny (model P w) A (.call (.ref f) args) (CR (L2.CX P w) outer P w H s Q E) s
theorem FnS.mono {P : Program} {w : World} {K : PySem.W.Frag} {mg : Str → Option Value} {base : Heap} {j k : Nat} {f : Addr} {fd : FuncData} {ps : List Str} {sp : SpS} (F : FnS P w K mg base j f fd ps sp) (h : j ≤ k) : FnS P w K mg base k f fd ps sp :=
  ⟨F.len, fun A outer s H args us vs Q E hr => F.run A outer s H args us vs Q E (hr.mono h)⟩
theorem okS {P : Program} {w : World} {K : PySem.W.Frag} {mg : Str → Option Value} {base : Heap} {x qual : Str} {st : Stmt} {f : Addr} {fd : FuncData} {N ps : List Str} {k : Nat} {sp : SpS} (F : Fun K x qual st f fd) (S : FnScope N ps (defScope st))
    (len : ∀ outer s vs H Q E, sp outer s vs H Q E → vs.length = ps.length)
    (hbody : ∀ (cdv : Value) (A : Around) (outer : List Env) (s : Shared) (H : Hp) (vs : List V) (Q : VK) (E : XK), Room k (A.deeper (envOfC qual (defScope st) s.heap.objs.size f cdv)) → Env0 P w K mg base A outer s H → sp outer s vs H Q E →
      ∃ t, PSs (cxOf (L2.CX P w) P w K mg base N qual (defScope st) f cdv A outer s H E) (defBody st) t ∧ t { nx := fun _ H' => Q .non H', rt := Q } (L2.start N vs) H) : FnS P w K mg base (k + 1) f fd ps sp := by
  obtain ⟨oc, od, kV, doc, pm, an, cdv, ct, osl, rfl, lk, hcd⟩ := F.ex
  refine ⟨len, fun A outer s H args us vs Q E hr e0 hb r hsp => ?_⟩
  have hl := len _ _ _ _ _ _ hsp
  have KX : K.In s.heap := e0.mod.kin.keeps fun b o e => (e0.bs b o e).1
  have lim : s.heap.NoLimit := e0.mod.nolimit.keeps fun b o e => (e0.bs b o e).1
  have hkind : ∀ y ∈ ps.zip us, (defScope st).names.lookup y.1 = some .local ∨ ((defScope st).names.lookup y.1 = some .cell ∧ ((cellsFrom (s.heap.objs.size + 1) (defScope st).names []).lookup y.1).isSome = true) := fun ⟨n, v⟩ hy => by
    rcases S.par n (List.of_mem_zip hy).1 with q | q
    · exact .inl q
    · exact .inr ⟨q, PySem.W.cellsFrom_some _ _ _ (.inl q)⟩
  refine codeAny_call_function hr.depth (KX _ _ lk) rfl S.co S.gen rfl (PySem.W.codeRec_of KX hcd) (hb _ _ _ _ ?_)
  refine wpAny_newFunctionEnv_cells S.kind hkind fun env he s1 x => ?_
  subst he
  refine ⟨lim.keeps x.toInCall.keep, codeAny_func ?_⟩
  obtain ⟨t, ht, hq⟩ := hbody cdv A outer s H vs Q E (hr.deeper _) e0 hsp
  have I : Inv (cxOf (L2.CX P w) P w K mg base N qual (defScope st) f cdv A outer s H E) [] (L2.start N vs) H s1 := inv_start S hr.hd e0 hl r x
  refine wpAny_mono (ht.run [] s1 (L2.start N vs) H _ I hq) (fun fl s' hs => ?_) fun e s' hs => hs
  have fin : ∀ {σ' : L2.St} {H' : Hp} {v : V} {u : Value}, Inv (cxOf (L2.CX P w) P w K mg base N qual (defScope st) f cdv A outer s H E) [] σ' H' s' → L2.RelV v u → Q v H' → CE outer P w H s Q u s' :=
    fun {σ' H' v u} J rv q => ⟨v, H', J.os, J.bare, J.base, J.hok, rv, q⟩
  cases fl with
  | ret u =>
    obtain ⟨v, σ', H', J, rv, q⟩ := hs
    exact fin J rv q
  | next =>
    obtain ⟨σ', H', J, q⟩ := hs
    exact fin (v := V.non) (u := Value.none) J rfl q
  | brk =>
    obtain ⟨_, _, _, q⟩ := hs
    exact False.elim q
  | cont =>
    obtain ⟨_, _, _, q⟩ := hs
    exact False.elim q
/-! ### arguments, the state told -/
abbrev TAS := L2.St → Hp → (List V → Hp → Shared → Prop) → Prop
structure PAS (X : Cx) (es : List Expr) (t : TAS) : Prop where
  run : ∀ (pos : Pos) (pins : List (Addr × Obj)) (s : Shared) (σ : L2.St) (H : Hp) (Q : List V → Hp → Shared → Prop), Inv X pins σ H s → t σ H Q →
    wpAny (model X.prog X.w) X.A (spliced (backTo pos (starEach es X.env))) (fun us s' => ∃ vs H', Inv X pins σ H' s' ∧ Vals vs us ∧ Q vs H' s') X.xe s
section
variable {X : Cx} {e : Expr} {es : List Expr} {te : TE} {t : TAS} {pos : Pos}
theorem pas_cons (ha : PE X e te) (hr : PAS X es t) (hs : starEach (e :: es) X.env = (false, eval e X.env) :: starEach es X.env := by rfl) : PAS X (e :: es) (fun σ H Q => te σ H fun x H1 => t σ H1 fun xs H2 s2 => Q (x :: xs) H2 s2) := by
  refine ⟨fun pos pins s σ H Q I h => ?_⟩
  rw [hs]
  show wpAny _ _ (spliced ((false, eval e X.env) :: backTo pos (starEach es X.env))) _ _ s
  refine Calls.spliced_cons (thn (ha.run pins s σ H _ I h) fun u s1 ⟨x, H1, I1, r1, q1⟩ => ?_)
  exact thn (hr.run pos pins s1 σ H1 _ I1 q1) fun us s2 ⟨vs, H2, I2, r2, q2⟩ => ⟨x :: vs, H2, I2, .cons r1 r2, q2⟩
end
end KL
set_option Elab.async false
set_option linter.all false
set_option maxRecDepth 100000
set_option maxHeartbeats 4000000
/-! KLamG: the making of a lambda as the last argument of a call; calls of FnS defs by name and as methods. -/
namespace KL
open PySem PySem.Spec PyProof.Rows L2 LamX NdefX
section
variable {X : Cx} {pins : List (Addr × Obj)} {σ : L2.St} {H : Hp} {s : Shared}
/-- as lam_make2; told too: nothing that was tracked is gone -/
theorem lam_make3 {T : List (Addr × Str)} {c P : Addr} {params : Arguments} {body : Expr} {scope : Scope} {pos : Pos} {E : Value → Shared → Prop} {Q : Value → Shared → Prop} (I : Inv X pins σ H s) (TB : TabB X.base X.mg c P) (hcode : X.env.code = .ref c)
    (hm : (P, X.env.qual ++ "<lambda>") ∈ T) (hu : ∀ p ∈ T, p.1 = P → p.2 = X.env.qual ++ "<lambda>") (hT : Tabs T H) (hdef : defaultsOf params X.env = ([], [])) (hfree : ∀ y ∈ scope.names, y.2 = .free → ∃ c, X.env.cells.lookup y.1 = some c)
    (h : ∀ (f c' : Addr) (pm ctv : Value) (H1 : Hp) (s' : Shared), Inv X pins σ H1 s' → ExtN H H1 → (∀ b, H1 b = Option.none → H b = Option.none) → Tabs T H1 →
      s'.heap.get? f = some (PySem.W.kla_obj "<lambda>" (X.env.qual ++ "<lambda>") params body scope (cloFrom X.env.cells scope.names []) pm c' ctv) → H1 f = none → f ∉ frs X.stack → H1 c' = some (CodeO c' (X.env.qual ++ "<lambda>")) → Q (.ref f) s') :
    wpAny (model X.prog X.w) X.A (eval (.Lambda params body scope pos) X.env) Q E s := by
  obtain ⟨ps, hP, ht, ha⟩ := hT _ hm
  refine PySem.W.kla_eval hdef ?_
  have bP : s.heap.BuiltinsAt X.mg P := TB.bm.keeps I.bk
  have hP' : s.heap.get? P = some { cls := .none, data := .fields ps } := I.hok P _ hP
  have nofr : ∀ f, s.heap.objs.size ≤ f → f ∉ frs X.stack := fun f hf z => by
    rcases List.mem_cons.mp (I.stkSub _ z) with e | e
    · have h1 := I.lt
      rw [← e] at h1
      exact Nat.lt_irrefl _ (Nat.lt_of_lt_of_le h1 hf)
    · exact I.nofs hf e
  cases hc : codeAmong pos ps.toList with
  | none =>
    refine PySem.W.kla_makeFunction (mg := X.mg) (c := c) (P := P) (ps := ps) (closure_ok hfree) I.ok.glob (I.mod.glob.keeps I.bk) hcode (TB.code.keeps I.bk) hP' ht hc TB.gP bP fun c' ctv h' tk hx hge hlt hrec htb => ?_
    obtain ⟨c2, oc, vs, t, e2, hoc, hd, hv⟩ := hrec
    cases e2
    have hsz : s.heap.objs.size ≤ h'.objs.size := Nat.le_trans hge (Nat.le_of_lt hlt)
    have nC : H c' = none := I.hok.fresh hge
    have I1 := inv_table (t' := tk) (more := #[rawInt pos.line, rawInt pos.col, .ref c']) (h' := h'.push (PySem.W.kla_obj "<lambda>" (X.env.qual ++ "<lambda>") params body scope (cloFrom X.env.cells scope.names []) ((X.mg "__name__").getD .none) c' ctv)) I hP
      (fun b o hb e => Heap.get?_push_of_some _ (hx b o hb e)) (Heap.get?_push_of_some _ htb) hge ⟨oc, vs, t, Heap.get?_push_of_some _ hoc, hd, hv⟩
    have hE : ExtN H (upd (upd H P (.tbl (ps ++ #[rawInt pos.line, rawInt pos.col, .ref c']))) c' (CodeO c' (X.env.qual ++ "<lambda>"))) := fun b o e n => by
      rw [upd_ne (ne_of_none e nC), upd_ne (fun z => n ps (Option.some.inj (e.symm.trans (by rw [z]; exact hP))))]
      exact e
    have eL : (ps ++ #[rawInt pos.line, rawInt pos.col, .ref c']).toList = ps.toList ++ [rawInt pos.line, rawInt pos.col, .ref c'] := by simp
    refine h h'.objs.size c' ((X.mg "__name__").getD .none) ctv _ _ I1 hE (fun b e => upd_none (upd_none e)) (fun p hp => ?_) (Heap.get?_push_size _ rfl) ?_ (nofr _ hsz) upd_same
    · by_cases hb : p.1 = P
      · rw [hu p hp hb, hb]
        refine ⟨_, by rw [upd_ne (ne_of_none hP nC), upd_same], by rw [eL]; exact PySem.TriplesOk_snoc _ _ _ _ ht, fun p' cv hcv => ?_⟩
        rw [eL] at hcv
        rcases among_app _ ht hcv with z | z
        · obtain ⟨c0, e1, e2⟩ := ha p' cv z
          exact ⟨c0, e1, hE _ _ e2 codeO_ne⟩
        · exact ⟨c', z, upd_same⟩
      · obtain ⟨ps', a1, a2, a3⟩ := hT p hp
        refine ⟨ps', by rw [upd_ne (ne_of_none a1 nC), upd_ne hb]; exact a1, a2, fun p' cv hcv => ?_⟩
        obtain ⟨c0, e1, e2⟩ := a3 p' cv hcv
        exact ⟨c0, e1, hE _ _ e2 codeO_ne⟩
    · have n1 : h'.objs.size ≠ c' := Nat.ne_of_gt hlt
      have n2 : h'.objs.size ≠ P := Nat.ne_of_gt (Nat.lt_of_lt_of_le (Heap.lt_size hP') hsz)
      rw [upd_ne n1, upd_ne n2]
      exact I.hok.fresh hsz
  | some cv =>
    obtain ⟨c', e, hco⟩ := ha pos cv hc
    subst e
    refine PySem.W.kla_makeFunctionHit (mg := X.mg) (c := c) (P := P) (ps := ps) (closure_ok hfree) I.ok.glob (I.mod.glob.keeps I.bk) hcode (TB.code.keeps I.bk) hP' ht hc bP fun ctv h' tk hx hsz => ?_
    have I1 : Inv X pins σ H { s with heap := h'.push (PySem.W.kla_obj "<lambda>" (X.env.qual ++ "<lambda>") params body scope (cloFrom X.env.cells scope.names []) ((X.mg "__name__").getD .none) c' ctv), toks := tk } := I.kept fun b o e => Heap.get?_push_of_some _ (hx b o e)
    exact h h'.objs.size c' ((X.mg "__name__").getD .none) ctv H _ I1 (ExtN.refl H) (fun _ z => z) hT (Heap.get?_push_size _ rfl) (I.hok.fresh hsz) (nofr _ hsz) hco
end
/-- the lambda as an argument: mk: the lambda's words but for its code object; js: where the captured names stand -/
def tLam (T : List (Addr × Str)) (mk : Addr → LF) (fr : List Str) (js : List Nat) (outer : List Env) : TAS := fun σ H Q => Tabs T H ∧ ∀ (f c' : Addr) (H1 : Hp) (s1 : Shared), ExtN H H1 → (∀ b, H1 b = Option.none → H b = Option.none) → Tabs T H1 →
  VisAt (mk c') f fr (js.map (slotAt σ)) outer s1 H1 → Q [.ref f] H1 s1
section
variable {X : Cx}
theorem pas_lam {T : List (Addr × Str)} {c P : Addr} {params : Arguments} {body : Expr} {scope : Scope} {lpos : Pos} {fr : List Str} {js : List Nat} (TB : TabB X.base X.mg c P) (hcode : X.env.code = .ref c)
    (hm : (P, X.env.qual ++ "<lambda>") ∈ T) (hu : ∀ p ∈ T, p.1 = P → p.2 = X.env.qual ++ "<lambda>") (hdef : defaultsOf params X.env = ([], []))
    (hfree : ∀ y ∈ scope.names, y.2 = .free → X.env.scope.names.lookup y.1 = some .cell ∨ X.env.scope.names.lookup y.1 = some .free) (hfr : ∀ y ∈ fr, (y, NameKind.free) ∈ scope.names) (hjs : js.map (fun j => X.N[j]?) = fr.map some)
    (hfn : ∀ y, X.fn y = true) :
    PAS X [.Lambda params body scope lpos] (tLam T (fun c' => ⟨X.env.qual ++ "<lambda>", params, body, scope, cloFrom X.env.cells scope.names [], c'⟩) fr js X.stack) := by
  refine ⟨fun pos pins s σ H Q I h => ?_⟩
  obtain ⟨hT, h⟩ := h
  have hfree' : ∀ y ∈ scope.names, y.2 = .free → ∃ c, X.env.cells.lookup y.1 = some c := fun y hy e => (hfree y hy e).elim (fun z => I.ok.has _ (.inl z)) fun z => I.ok.has _ (.inr z)
  show wpAny _ _ (spliced ((false, eval (.Lambda params body scope lpos) X.env) :: backTo pos (starEach [] X.env))) _ _ s
  refine Calls.spliced_cons (lam_make3 I TB hcode hm hu hT hdef hfree' fun f c' pm ctv H1 s' I1 eN nn T1 hf hfn0 hfr0 hco => ?_)
  refine Calls.spliced_nil ⟨[.ref f], H1, I1, .cons rfl .nil, ?_⟩
  refine h f c' H1 s' eN nn T1 ⟨⟨pm, ctv, hf⟩, hfn0, hco, cells_of I1 (Caps.made I1.ok hfree hfr hjs), hfr0, fun y c1 e hm => ?_⟩
  have ec : X.env.cells.lookup y = some c1 := clo_cm hfree' e
  rcases List.mem_cons.mp (I1.stkSub c1 hm) with z | z
  · exact I1.cne y c1 ec z
  · obtain ⟨_, o, ho, _⟩ := I1.ok.funs.mem z
    have h1 := Heap.lt_size ho
    have h2 := I1.ok.cab y c1 (hfn y) ec
    exact Nat.lt_irrefl _ (Nat.lt_of_lt_of_le h1 h2)
/-! ### calls -/
variable {k : Nat} {f C : Addr} {fd : FuncData} {ps : List Str} {sp : SpS} {E : XK} {x m : Str} {p pos apos : Pos} {e o : Expr} {es : List Expr} {ta : TE} {t : TAS}
theorem run_S {pins : List (Addr × Obj)} {σ : L2.St} {H : Hp} {s : Shared} {Q : VK} {us : List Value} {vs : List V} (F : FnS X.prog X.w X.K X.mg X.base k f fd ps sp) (hr : Room k X.A) (hb : Binds X.K fd ps []) (hx : Passes (L2.CX X.prog X.w) X E)
    (I : Inv X pins σ H s) (r : Vals vs us) (h : sp X.stack s vs H Q E) : wpAny (model X.prog X.w) X.A (call (.ref f) us) (EP X pins σ Q) X.xe s := by
  have hl : us.length = ps.length := by rw [← r.length]; exact F.len _ _ _ _ _ _ h
  have b := hb s us I.kIn (by rw [List.append_nil]; exact hl)
  rw [List.append_nil] at b
  refine wpAny_call (codeAny_mono (F.run X.A X.stack s H ⟨us, []⟩ us vs Q E hr I.env0 b r h) fun r s' hq => ?_)
  cases r with
  | error er => exact hx pins σ H s er s' I hq
  | ok fl =>
    cases fl with
    | ret u => exact I.after hq
    | next => exact False.elim hq
    | brk => exact False.elim hq
    | cont => exact False.elim hq
def tCallSt (sp : SpS) (E : XK) (outer : List Env) (t : TAS) : TE := fun σ H Q => t σ H fun vs H1 s1 => sp outer s1 vs H1 Q E
theorem pe_callSt (F : FnS X.prog X.w X.K X.mg X.base k f fd ps sp) (hr : Room k X.A) (hg : Gl X x) (hm : X.mg x = some (.ref f)) (hk : PySem.W.keepIn X.K (.ref f) = true) (hb : Binds X.K fd ps []) (hx : Passes (L2.CX X.prog X.w) X E)
    (ha : PAS X (e :: es) t) (hdb : (x == ("__debug__" : Str)) = false := by decide) (he : starEach (e :: es) X.env = (false, eval e X.env) :: starEach es X.env := by rfl) (hpl : (backTo pos (starEach es X.env)).any (·.1) = false := by rfl) :
    PE X (.Call (.Name x p) (e :: es) [] pos) (tCallSt sp E X.stack t) := by
  refine ⟨fun pins s σ H Q I h => ?_⟩
  refine wpAny_Call_Name_kw (ld_glob I hg hm ?_ hdb)
  refine PySem.W.callWith_K (h₀ := X.base) I.ok.mod.kin hk (wpAny_mono (ha.run pos pins s σ H _ I h) (fun us s1 ⟨vs, H1, I1, r, q⟩ => ⟨I1.kIn, ?_⟩) fun _ _ z => z) he hpl
  exact run_S F hr hb hx I1 r q
def tMethSt (C : Addr) (m : Str) (sp : SpS) (E : XK) (outer : List Env) (ta : TE) (t : TAS) : TE := fun σ H Q => ta σ H fun x H1 => ∃ a dx fs, x = .ref a ∧ H1 a = some (.ins C dx fs) ∧ fs.lookup m = none ∧ t σ H1 fun vs H2 s2 => sp outer s2 (x :: vs) H2 Q E
theorem pe_methSt {pl : Sem Bool} (he : PE X o ta) (c : Cls X.K C) (hm : Meth X.K C m f) (F : FnS X.prog X.w X.K X.mg X.base k f fd ps sp) (hr : Room k X.A) (hb : Binds X.K fd ps []) (hx : Passes (L2.CX X.prog X.w) X E) (ha : PAS X (e :: es) t)
    (hst : starEach (e :: es) X.env = (false, eval e X.env) :: starEach es X.env := by rfl) (hpl : (backTo pos (starEach es X.env)).any (·.1) = false := by rfl)
    (ht : eval (.Call (.Attribute o m apos) (e :: es) [] pos) X.env = (do
      let ov ← eval o X.env
      standAt apos.atName
      let (f, first) ← holding [ov] (getMethod ov m pl)
      callWith pos f first (backTo pos (starEach (e :: es) X.env)) (backToKw pos (keywordEach [] X.env))) := by rfl) :
    PE X (.Call (.Attribute o m apos) (e :: es) [] pos) (tMethSt C m sp E X.stack ta t) := by
  refine ⟨fun pins s σ H Q I h => ?_⟩
  refine PySem.W.methodCall_KW (pl := pl) (thn (he.run pins s σ H _ I h) fun u s1 ⟨x, H1, I1, rx, a, dx, fs, ex, ea, l, q⟩ => ?_) ht
  subst ex
  obtain rfl : u = Value.ref a := rx
  refine getmeth_ok I1 ea c hm l ?_
  refine PySem.W.callWith_K (first := [.ref a]) (h₀ := X.base) I.ok.mod.kin hm.kp (wpAny_mono (ha.run pos pins s1 σ H1 _ I1 q) (fun us s2 ⟨vs, H2, I2, r, q2⟩ => ⟨I2.kIn, ?_⟩) fun _ _ z => z) hst hpl
  exact run_S (us := .ref a :: us) (vs := .ref a :: vs) F hr hb hx I2 (.cons rfl r) q2
/-- arguments without a state -/
theorem pas_of {t : TA} (h : PA X es t) : PAS X es (fun σ H Q => t σ H fun vs H1 => ∀ s1 : Shared, Q vs H1 s1) :=
  ⟨fun pos pins s σ H Q I hq => wpAny_mono (h.run pos pins s σ H _ I hq) (fun us s1 ⟨vs, H1, I1, r, q⟩ => ⟨vs, H1, I1, r, q s1⟩) fun _ _ z => z⟩
end
end KL
set_option Elab.async false
set_option linter.all false
set_option maxRecDepth 100000
set_option maxHeartbeats 4000000
/-! KExc: own exception classes over a built-in one (any of those with StoreFacts), their __init__ walked as a def; Base.__init__(self, text) read off a class. -/
namespace KX
open PySem PySem.Spec PyProof.Rows L2
open PySem.W (excTail)
/-- the class at C: its builtin base B, its __setattr__, its line in K -/
structure OexG (K : PySem.W.Frag) (C : Addr) (B newId initId : String) (bmB : List Value) : Prop where
  FB : ExcBaseFacts B newId initId bmB
  SF : StoreFacts B bmB "object.__setattr__" "object"
  cls : ∃ nm q N bs bm sn sub ab col dd k0 k1 k2 k3 k5, K.lookup C = some (excClassObj nm q C N bs bm true sn sub ab col dd k0 k1 k2 k3 k5 newId) ∧ excTail bmB bm = true
  sa : PySem.W.findIn K (.ref C) "__setattr__" = some (some (.builtin "object.__setattr__"))
  exC : PySem.W.subIn K (.ref C) (.type "BaseException") = some true
  tyC : PySem.W.typeIn K (.ref C) = some (.type "type")
  kC : PySem.W.keepIn K (.ref C) = true
section
variable {X : Cx} {pins : List (Addr × Obj)} {σ : L2.St} {H : Hp} {s : Shared} {a C : Addr} {B newId initId : String} {bmB : List Value} {f : Str} {y : V} {u : Value} {E : Value → Shared → Prop} {A : Around}
theorem OexG.over {K : PySem.W.Frag} (T : OexG K C B newId initId bmB) : PySem.W.excOver K C bmB = true ∧ ∃ cd, PySem.W.clsIn K C = some cd ∧ cd.hasDict = true := by
  obtain ⟨nm, q, N, bs, bm, sn, sub, ab, col, dd, k0, k1, k2, k3, k5, hC, hbm⟩ := T.cls
  have hcl : PySem.W.clsIn K C = some { name := nm, bases := bs, mro := .ref C :: bm, ns := N, qualname := q, hasDict := true, slotNames := sn, subclasses := sub, abstract := ab, collection := col, hasDel := false } := by unfold PySem.W.clsIn; rw [hC] <;> rfl
  refine ⟨?_, _, hcl, rfl⟩
  unfold PySem.W.excOver
  rw [hcl]
  show (C == C && excTail bmB bm) = true
  rw [hbm, Bool.and_true]
  exact beq_self_eq_true C
/-- the first field laid on a new error -/
theorem ost_g {Q : Unit → Shared → Prop} (T : OexG X.K C B newId initId bmB) (I : Inv X pins σ H s) (e : H a = some (exo a C none)) (ht : PySem.W.takerIn X.K C f = some none) (ry : RelV y u)
    (h : ∀ dx s', H dx = none → dx ≠ a → Inv X pins σ (upd (upd H dx (exd dx [(f, y)])) a (exo a C (some dx))) s' → Q () s') : wpAny (model X.prog X.w) A (setAttr (.ref a) f u) Q E s := by
  obtain ⟨hov, cd, hcd, hdc⟩ := T.over
  obtain ⟨t1, ho⟩ := exo_at I.hok e
  obtain ⟨hp, g, d, t, os⟩ := s
  have J : PySem.W.InstAt hp a { cls := .ref C, dict := none, data := .fields #[.ref t1, .none, .none, .none, .bool false, .none] } C none := ⟨ho, rfl, rfl, trivial⟩
  have ho' : hp.get? a = some { cls := .ref C, dict := none, data := .fields #[.ref t1, .none, .none, .none, .bool false, .none] } := ho
  have hxs : a ≠ hp.objs.size := Nat.ne_of_lt (Heap.lt_size ho)
  have Lc : PySem.W.Looks (model X.prog X.w) hp (classData C) cd := PySem.W.looks_clsIn I.kIn hcd
  refine PySem.W.set_plain I.kIn J T.sa (PySem.W.osa_openX T.SF I.kIn J hov ht fun b => ?_)
  show wpAny _ _ (Builtin.ObjectAttr.storeInOwnDict (.ref a) (.ref C) (.str f t) f u b) _ _ _
  obtain ⟨nm, bs, mro, ns, qn, hd, sn, sb, ab, col, del⟩ := cd
  dsimp only at hdc
  subst hdc
  unfold Builtin.ObjectAttr.storeInOwnDict Builtin.ObjectAttr.ownDictForStores
  repeat (first | with_reducible refine PySem.HandSPX.store_in_new ?_ ?_ | with_reducible refine wpAny_loadPart_at ho' ?_ | with_reducible refine Lc.at ?_ | wp_step)
  · exact ⟨_, #[], _, (Heap.get?_update_ne _ _ _ _ hxs.symm).trans (Heap.get?_push_at rfl rfl), rfl, fun e he => absurd he (by simp), fun _ => rfl⟩
  · intro h' tk' hn hs
    have hx1 : (hp.push { cls := .type "dict", data := .dict #[] }).get? a = some { cls := .ref C, dict := none, data := .fields #[.ref t1, .none, .none, .none, .bool false, .none] } := Heap.get?_push_of_some _ ho
    have k : ∀ b o, b ≠ a → hp.get? b = some o → h'.get? b = some o := fun b o hb q => (hs.2 b (Nat.ne_of_lt (Heap.lt_size q))).trans ((Heap.get?_update_ne _ _ _ _ hb).trans (Heap.get?_push_of_some _ q))
    have hx : h'.get? a = some { cls := .ref C, dict := some hp.objs.size, data := .fields #[.ref t1, .none, .none, .none, .bool false, .none] } := (hs.2 a hxs).trans (Heap.get?_update_self _ hx1 rfl)
    have hnd : H hp.objs.size = none := I.hok.fresh (Nat.le_refl _)
    have nd : ∀ {b : Addr} {o : Obj}, hp.get? b = some o → b ≠ hp.objs.size := fun {b o} q => Nat.ne_of_lt (Heap.lt_size q)
    have na : ∀ {b : Addr}, H b = none → b ≠ a := fun {b} n z => by
      rw [z, e] at n
      cases n
    have Un1 : Un X.fs [] H (upd (upd H hp.objs.size (exd hp.objs.size [(f, y)])) a (exo a C (some hp.objs.size))) hp h' := {
      keep := fun b o q n _ _ => k b o (na n) q
      slot := fun b o q n _ _ => ⟨o.slots, k b o (na n) q⟩
      free := fun b o q n _ => by rw [upd_ne (na n), upd_ne (nd q)]; exact n
      there := fun b o q _ => by
        by_cases hb : b = a
        · exact ⟨_, by rw [hb]; exact hx⟩
        · exact ⟨o, k b o hb q⟩
      tups := fun b xs q => by rw [upd_ne (at_ne e q exo_tup), upd_ne (ne_of_none q hnd)]; exact q
      frzs := fun b o v q => by rw [upd_ne (at_ne e q exo_frz), upd_ne (ne_of_none q hnd)]; exact q
      tbls := fun b ps q => ⟨#[], by rw [upd_ne (at_ne e q exo_tbl), upd_ne (ne_of_none q hnd), q]; simp⟩ }
    refine h hp.objs.size _ hnd hxs.symm (I.un (t' := tk') Un1 fun b o q => ?_)
    by_cases hb : b = a
    · rw [hb, upd_same] at q
      cases q
      rw [hb]
      exact exo_ok hx
    · rw [upd_ne hb] at q
      by_cases hd : b = hp.objs.size
      · rw [hd, upd_same] at q
        cases q
        rw [hd]
        exact exd_ok hn (relO_put (fs := []) ry fun g => True.intro)
      · rw [upd_ne hd] at q
        exact (I.hok b o q).stay (fun c v hc z => k c v (by
            rcases hc with hc | hc
            · rw [hc]
              exact hb
            · exact at_ne e hc exo_own) z)
          (fun c hc => by rw [upd_ne (at_ne e hc exo_own), upd_ne (ne_of_none hc hnd)]; exact hc) (fun c xs hc => by rw [upd_ne (at_ne e hc exo_tup), upd_ne (ne_of_none hc hnd)]; exact hc)
/-- B.__init__(self, ..): nothing of it is told -/
theorem oinit_g {us : List Value} {Q : Value → Shared → Prop} (T : OexG X.K C B newId initId bmB) (I : Inv X pins σ H s) (e : H a = some (exo a C none)) (hl : us.length ≤ sizeLine) (h : ∀ s', Inv X pins σ H s' → Q .none s') :
    wpAny (model X.prog X.w) A (call (.builtin initId) (.ref a :: us)) Q E s := by
  obtain ⟨nm, q, N, bs, bm, sn, sub, ab, col, dd, k0, k1, k2, k3, k5, hC, hbm⟩ := T.cls
  obtain ⟨t1, ho⟩ := exo_at I.hok e
  obtain ⟨hp, g, d, t, os⟩ := s
  refine wpAny_call (PySem.HandSPX.init_base T.FB (fun Y => PySem.W.excTail_contains Y bm hbm) (I.kIn _ _ hC) ho hl fun h' t2 k hx => ?_)
  have J := I.write (t' := t) (x := a) (e := a) (o := exo a C none) (by rw [e]; exact True.intro) (.inl rfl) k ⟨_, hx⟩ (exo_ok hx)
  have eu : upd H a (exo a C none) = H := by
    funext b
    by_cases hb : b = a
    · rw [hb, upd_same, e]
    · rw [upd_ne hb]
  rw [eu] at J
  exact h _ J
end
/-! ### readings and rules -/
/-- Base.__init__(self, ..), Base an own class or a built-in one whose __init__ is the built-in's -/
def tBaseI (K : PySem.W.Frag) (initId : String) (ta : TA) : TE := fun σ H Q => ta σ H fun vs H1 => ∃ (a C : Addr) (B newId : String) (bmB : List Value) (ws : List V), vs = .ref a :: ws ∧ ws.length ≤ 1000 ∧ OexG K C B newId initId bmB ∧ H1 a = some (exo a C none) ∧ Q .non H1
/-- self.f = e -/
def tOstG (K : PySem.W.Frag) (f : Str) (to te : TE) : TS := fun D σ H => te σ H fun y H1 => to σ H1 fun x H2 => ∃ (a C : Addr) (B newId initId : String) (bmB : List Value), x = .ref a ∧ OexG K C B newId initId bmB ∧ PySem.W.takerIn K C f = some none ∧
  H2 a = some (exo a C none) ∧ ∀ dx, H2 dx = none → dx ≠ a → D.nx σ (upd (upd H2 dx (exd dx [(f, y)])) a (exo a C (some dx)))
section
variable {X : Cx} {o e : Expr} {es : List Expr} {to te : TE} {ta : TA} {f : Str} {p p' p1 p2 pos : Pos} {initId : String}
theorem run_baseI {pins : List (Addr × Obj)} {σ : L2.St} {H : Hp} {s : Shared} {Q : VK} (ha : PA X (e :: es) ta) (I : Inv X pins σ H s) (h : tBaseI X.K initId ta σ H Q)
    (he : starEach (e :: es) X.env = (false, eval e X.env) :: starEach es X.env) (hpl : (backTo pos (starEach es X.env)).any (·.1) = false) :
    wpAny (model X.prog X.w) X.A (callWith pos (Value.builtin initId) [] (backTo pos (starEach (e :: es) X.env)) []) (EP X pins σ Q) X.xe s := by
  refine PyProof.Rows.callWith_method1 (thn (ha.run pos pins _ σ H _ I h) fun us s1 ⟨vs, H1, I1, r1, a, C, B, newId, bmB, ws, ev, hl, T, ea, q⟩ => ?_) he hpl
  subst ev
  cases r1 with
  | @cons _ u0 _ ur ra rw' =>
    obtain rfl : u0 = Value.ref a := ra
    have hlen : ur.length ≤ sizeLine := by
      rw [← Paired.length rw', sizeLine_eq]
      omega
    exact oinit_g T I1 ea hlen fun s' J => ⟨.non, H1, J, rfl, q⟩
/-- .. of a built-in class -/
theorem pe_baseB {pl : Sem Bool} {B : String} {x : Str} (hg : Gl X x) (hm : X.mg x = none) (hv : bootBuiltins x = some (.type B)) (hx : x ≠ "__name__") (hdb : (x == ("__debug__" : Str)) = false) (ht : typeOf (.type B) = pure (.type "type")) (hst : Manifest.isStub B = false)
    (vV : PySem.W.findCls X.K (.type B) (.type "type") "__init__" = some (.val (.builtin initId))) (hh : PySem.W.handedIn (.builtin initId) = true) (ha : PA X (e :: es) ta)
    (hc : eval (.Call (.Attribute (.Name x p1) "__init__" p2) (e :: es) [] pos) X.env = (do
      let ov ← eval (.Name x p1) X.env
      standAt p2.atName
      let (f, first) ← holding [ov] (getMethod ov "__init__" pl)
      callWith pos f first (backTo pos (starEach (e :: es) X.env)) (backToKw pos (keywordEach [] X.env))) := by rfl)
    (he : starEach (e :: es) X.env = (false, eval e X.env) :: starEach es X.env := by rfl) (hpl : (backTo pos (starEach es X.env)).any (·.1) = false := by rfl) :
    PE X (.Call (.Attribute (.Name x p1) "__init__" p2) (e :: es) [] pos) (tBaseI X.K initId ta) := by
  refine ⟨fun pins s σ H Q I h => ?_⟩
  refine PySem.W.methodCall_KW (ld_blt I hg hm hv ?_ hx hdb) hc
  obtain ⟨m, fr⟩ := I.fr
  refine PySem.W.method_type fr I.ok.mod.kin ht hst vV hh ?_
  exact run_baseI ha (I.tok _) h he hpl
/-- .. of an own class without an own __init__ -/
theorem pe_baseO {pl : Sem Bool} {C0 : Addr} {mc : Value} {x : Str} (hg : Gl X x) (hm : X.mg x = some (.ref C0)) (hdb : (x == ("__debug__" : Str)) = false) (hrd : PySem.W.readsIn X.K C0 mc = true) (hga : PySem.W.specialIn X.K (.ref C0) "__getattribute__" = some (some (.builtin "type.__getattribute__")))
    (vV : PySem.W.findCls X.K (.ref C0) mc "__init__" = some (.val (.builtin initId))) (hh : PySem.W.handedIn (.builtin initId) = true) (ha : PA X (e :: es) ta)
    (hc : eval (.Call (.Attribute (.Name x p1) "__init__" p2) (e :: es) [] pos) X.env = (do
      let ov ← eval (.Name x p1) X.env
      standAt p2.atName
      let (f, first) ← holding [ov] (getMethod ov "__init__" pl)
      callWith pos f first (backTo pos (starEach (e :: es) X.env)) (backToKw pos (keywordEach [] X.env))) := by rfl)
    (he : starEach (e :: es) X.env = (false, eval e X.env) :: starEach es X.env := by rfl) (hpl : (backTo pos (starEach es X.env)).any (·.1) = false := by rfl) :
    PE X (.Call (.Attribute (.Name x p1) "__init__" p2) (e :: es) [] pos) (tBaseI X.K initId ta) := by
  refine ⟨fun pins s σ H Q I h => ?_⟩
  refine PySem.W.methodCall_KW (ld_glob I hg hm ?_ hdb) hc
  refine PySem.W.method_cls I.kIn hga (PySem.W.cls_value I.kIn hrd vV hh ?_)
  exact run_baseI ha (I.tok _) h he hpl
theorem ps_ostG (ho : PE X o to) (he : PE X e te) (hs : swapsWith e (some (.Attribute o f p')) pos.line X.env = pure false := by rfl) : PS X (.Assign [.Attribute o f p'] e pos) (tOstG X.K f to te) := by
  refine ⟨fun pins s σ H D I h => ?_⟩
  refine plainObj_wpAny_Assign_Attribute (thn (he.run pins s σ H _ I h) fun v s1 ⟨y, H1, I1, r1, q1⟩ => thn (ho.run pins s1 σ H1 _ I1 q1) fun u s2 ⟨x, H2, I2, r2, a, C, B, newId, initId, bmB, ex, T, hno, ea, q⟩ => ?_) hs
  subst ex
  obtain rfl : u = Value.ref a := r2
  exact ost_g T I2 ea hno r1 fun dx s' n ne J => ⟨σ, _, J, q dx n ne⟩
end
/-! ### C(e, ..) in a raise -/
section
variable {X : Cx} {e : Expr} {es : List Expr} {ta : TA} {p pos : Pos}
theorem pmk_g {CX : CXT} {x : Str} {C fI : Addr} {k : Nat} {fd : FuncData} {ps : List Str} {sp : Sp} {B newId initId : String} {bmB : List Value} (T : OexG X.K C B newId initId bmB) (iC : PySem.W.findIn X.K (.ref C) "__init__" = some (some (.ref fI))) (tI : PySem.W.typeIn X.K (.ref fI) = some (.type "function"))
    (F1 : FnOk X.prog X.w X.K X.mg X.base CX k fI fd ps sp) (hr : Room (k + 1) X.A) (hb : Binds X.K fd ps []) (hx : Passes CX X (fun _ _ _ => False)) (hg : Gl X x) (hm : X.mg x = some (.ref C)) (ha : PA X (e :: es) ta)
    (hdb : (x == ("__debug__" : Str)) = false := by decide) (he : starEach (e :: es) X.env = (false, eval e X.env) :: starEach es X.env := by rfl) (hpl : (backTo pos (starEach es X.env)).any (·.1) = false := by rfl) :
    PMk X (.Call (.Name x p) (e :: es) [] pos) (tMkO C sp [] ta) := by
  intro pins s σ H Q I h
  obtain ⟨nm, q, N, bs, bm, sn, sub, ab, col, dd, k0, k1, k2, k3, k5, hC, hbm⟩ := T.cls
  refine wpAny_Call_Name_kw (ld_glob I hg hm ?_ hdb)
  refine PySem.W.callWith_K (h₀ := X.base) I.ok.mod.kin T.kC (thn (ha.run pos pins s σ H _ I h) fun us s1 ⟨vs, H1, I1, r1, hz, q1⟩ => ⟨I1.kIn, ?_⟩) he hpl
  show wpAny _ _ (call (.ref C) us) _ _ _
  obtain ⟨hp, g, dr, tk, os⟩ := s1
  have hsz : hp.objs.size ≤ hp.objs.size + 1 := Nat.le_succ _
  have hn : H1 (hp.objs.size + 1) = none := I1.hok.fresh hsz
  have hq := q1 (hp.objs.size + 1) hn
  rw [List.append_nil] at hq
  have kk : ∀ b o, hp.get? b = some o → ((hp.push (PySem.W.kdv_tup us)).push (PySem.HandSPX.excO C hp.objs.size)).get? b = some o := fun b o e => Heap.get?_push_of_some _ (Heap.get?_push_of_some _ e)
  have hget : ((hp.push (PySem.W.kdv_tup us)).push (PySem.HandSPX.excO C hp.objs.size)).get? (hp.objs.size + 1) = some (PySem.HandSPX.excO C hp.objs.size) := by heap_get
  have I2 : Inv X pins σ (upd H1 (hp.objs.size + 1) (exo (hp.objs.size + 1) C none)) ⟨(hp.push (PySem.W.kdv_tup us)).push (PySem.HandSPX.excO C hp.objs.size), g, dr, tk, os⟩ :=
    I1.laid (t' := tk) (a := hp.objs.size + 1) (o := exo (hp.objs.size + 1) C none) (h' := (hp.push (PySem.W.kdv_tup us)).push (PySem.HandSPX.excO C hp.objs.size)) kk hsz (exo_ok hget)
  have r2 : Vals (V.ref (hp.objs.size + 1) :: vs) (Value.ref (hp.objs.size + 1) :: us) := .cons rfl r1
  have hl : (Value.ref (hp.objs.size + 1) :: us).length = ps.length := by
    have e := r2.length
    rw [F1.len _ _ _ _ hq] at e
    exact e.symm
  have hus : us.length ≤ sizeLine := by
    rw [← Paired.length r1, sizeLine_eq]
    omega
  have bnd := hb ⟨(hp.push (PySem.W.kdv_tup us)).push (PySem.HandSPX.excO C hp.objs.size), g, dr, tk, os⟩ (Value.ref (hp.objs.size + 1) :: us) I2.kIn (by rw [List.append_nil]; exact hl)
  rw [List.append_nil] at bnd
  refine wpAny_call (PySem.HandSPX.call_own T.FB (fun Y => PySem.W.excTail_contains Y bm hbm) (I1.kIn _ _ hC) (PySem.W.looks_findIn I1.kIn iC) (fun self => PySem.W.bind_fn I1.kIn self tI) hus
    (codeAny_mono (F1.run _ X.stack _ _ ⟨Value.ref (hp.objs.size + 1) :: us, []⟩ (Value.ref (hp.objs.size + 1) :: us) _ _ (fun _ _ _ => False) (hr.make C us []) (I2.env0.make C us []) bnd r2 hq) fun r s' hq' => ?_))
  cases r with
  | error er => exact hx pins σ _ _ er s' I2 hq'
  | ok fl =>
    cases fl with
    | ret u =>
      obtain ⟨v, H2, os2, bare2, un2, hok2, rv, ev, d, fs, ea, ed, hd1, q2⟩ := hq'
      subst ev
      obtain ⟨h2, g2, d2, t2, os'⟩ := s'
      exact ⟨rv, mk_end (raises_own T.exC T.tyC) I1 hsz kk un2 hok2 os2 bare2 ea ed hd1 q2⟩
    | next => exact False.elim hq'
    | brk => exact False.elim hq'
    | cont => exact False.elim hq'
end
end KX
set_option Elab.async false
set_option linter.all false
set_option maxRecDepth 100000
set_option maxHeartbeats 4000000
/-! KNe: != of lists, tuples and instances that are equal (the answer is False), by an own __eq__. -/
namespace KN
open PySem PySem.SeqAt
open AutoSeq1 (wpAny_loadPart')
open MeetsSeq MeetsSeq2 MeetsSeq3 SeqRoads2
section
variable {prog : Program} {w : World} {A : Around} {R : Result → Shared → Prop}
/-- the walk of list.__ne__ over equal items: it comes to the end -/
theorem ne_turns (l b : Addr) (N : Nat) (I : Nat → Shared → Prop) (hl : GQ.ListI prog w A (fun e s' => R (.error e) s') l b N I)
    (fin : ∀ s, I N s → R (.ok (.ret (.bool false))) s) (k : Nat) :
    ∀ i : Nat, N - i = k → i ≤ N → ∀ s, I i s →
      wpAny (model prog w) A.in1 (Builtin.«list.__eq__.loop» ⟨[.ref l, .ref b, rawInt i, rawInt 3], []⟩) (GQ.FinOf prog w A R) (fun e s' => R (.error e) s') s := by
  induction k with
  | zero =>
    intro i hk hi s h
    obtain ⟨items, items2, n, n2, hl1, hb1, hs1, hs2, _⟩ := hl _ _ h
    have hi' : i = N := by omega
    have hR : R (.ok (.ret (.bool false))) s := fin s (hi' ▸ h)
    obtain ⟨hp, g, d, tk, os⟩ := s
    wp_walk using wpAny_loadPart' hl1, wpAny_loadPart' hb1
    have hi1 : items[((i : Nat) : Int).toNat]? = none := by simp; omega
    have hi2 : items2[((i : Nat) : Int).toNat]? = none := by simp; omega
    rw [hi1, hi2]
    wp_walk using wpAny_loadPart' hl1, wpAny_loadPart' hb1
    show R (.ok (.ret (.bool (items.size != items2.size)))) _
    rw [hs1, hs2]
    simpa using hR
  | succ k ih =>
    intro i hk hi s h
    obtain ⟨items, items2, n, n2, hl1, hb1, hs1, hs2, turn⟩ := hl _ _ h
    have hlt : i < items.size := by omega
    have hlt2 : i < items2.size := by omega
    have ht := turn hlt hlt2
    obtain ⟨hp, g, d, tk, os⟩ := s
    wp_walk using wpAny_loadPart' hl1, wpAny_loadPart' hb1
    have hi1 : items[((i : Nat) : Int).toNat]? = some items[i] := by simp [hlt]
    have hi2 : items2[((i : Nat) : Int).toNat]? = some items2[i] := by simp [hlt2]
    have hc : ((i : Int) + 1) = ((i + 1 : Nat) : Int) := by omega
    rw [hi1, hi2]
    refine wpAny_bind (wpAny_mono ht (fun r s2 h2 => ?_) fun _ _ x => x)
    obtain ⟨hr, h2⟩ := h2
    subst hr
    have hrec := ih (i + 1) (by omega) (by omega) s2 h2
    obtain ⟨hp2, g2, d2, tk2, os2⟩ := s2
    wp_walk
    rw [hc]
    exact ⟨plainId_quiet plain_eq_loop _, codeAny_builtin entry_eq_loop (by
      rw [Around.under_plainId plain_eq_loop _]
      exact hrec)⟩
theorem list_ne_run (l b : Addr) (N : Nat) (I : Nat → Shared → Prop) (hl : GQ.ListI prog w A (fun e s' => R (.error e) s') l b N I)
    (fin : ∀ s, I N s → R (.ok (.ret (.bool false))) s) {s : Shared} (h : I 0 s) :
    wpAny (model prog w) A.in1 (Builtin.«list.__ne__» ⟨[.ref l, .ref b], []⟩) (GQ.FinOf prog w A R) (fun e s' => R (.error e) s') s := by
  obtain ⟨items, items2, n, n2, hl1, hb1, hs1, hs2, _⟩ := hl _ _ h
  have hrec := ne_turns (A := A) (R := R) l b N I hl fin _ 0 rfl (Nat.zero_le _) s h
  obtain ⟨hp, g, d, tk, os⟩ := s
  have f3 := AutoSeq1.sub_list_list
  have hne : ¬ (items.size != items2.size) = true := by simp [hs1, hs2]
  wp_walk using wpAny_loadPart' hl1, wpAny_loadPart' hb1
  exact ⟨plainId_quiet plain_eq_loop _, codeAny_builtin entry_eq_loop (by
    rw [Around.under_plainId plain_eq_loop _]
    exact hrec)⟩
theorem tuple_ne_run (l b : Addr) (items items2 : Array Value) (n n2 : Nat) (dd dd2 : Option Addr) (sl sl2 : Array (Option Value)) (hsz : items.size = items2.size) (I : Nat → Shared → Prop)
    (turn : ∀ i (h1 : i < items.size) (h2 : i < items2.size) s, I i s → wpAny (model prog w) A.in1 (eqBool items[i] items2[i]) (fun r s' => r = true ∧ I (i + 1) s') (fun e s' => R (.error e) s') s)
    (fin : ∀ s, I items.size s → R (.ok (.ret (.bool false))) s) {s : Shared} (hl1 : s.heap.get? l = some { cls := .type "tuple", dict := dd, data := .seq items n, slots := sl }) (hb1 : s.heap.get? b = some { cls := .type "tuple", dict := dd2, data := .seq items2 n2, slots := sl2 }) (h : I 0 s) :
    wpAny (model prog w) A.in1 (Builtin.«tuple.__ne__» ⟨[.ref l, .ref b], []⟩) (GQ.FinOf prog w A R) (fun e s' => R (.error e) s') s := by
  have f2 := AutoSeq1.sub_tuple_tuple
  have hZ : (items.toList.zip items2.toList).length = items.size := by simp [hsz]
  have h0 := h
  obtain ⟨hp, g, d, tk, os⟩ := s
  wp_walk using wpAny_loadPart' hl1, wpAny_loadPart' hb1, wpAny_forIn_list _ (fun rest b s' => b.1 = none ∧ ∃ i, rest = (items.toList.zip items2.toList).drop i ∧ i ≤ items.size ∧ I i s') _
  case turn =>
    rintro ⟨y, x⟩ rest b s' ⟨hb', i, hz, hi, hI⟩
    have hlt : i < (items.toList.zip items2.toList).length := by
      rcases Nat.lt_or_ge i (items.toList.zip items2.toList).length with h' | h'
      · exact h'
      · rw [List.drop_of_length_le h'] at hz; cases hz
    have h1 : i < items.size := hZ ▸ hlt
    have h2 : i < items2.size := hsz ▸ h1
    rw [List.drop_eq_getElem_cons hlt] at hz
    injection hz with hyx hrest
    have hy : y = items[i] := by have := congrArg Prod.fst hyx; simpa using this
    have hx : x = items2[i] := by have := congrArg Prod.snd hyx; simpa using this
    subst hy hx
    refine wpAny_bind (wpAny_mono (turn i h1 h2 s' hI) (fun r s2 q2 => ?_) fun _ _ x => x)
    obtain ⟨hr, q2⟩ := q2
    subst hr
    wp_walk
    exact ⟨rfl, i + 1, hrest, h1, q2⟩
  case fin =>
    rintro ⟨b1, b2⟩ s' ⟨hb', i, hz, hi, hI⟩
    simp only at hb'
    subst hb'
    have hge : items.size ≤ i := by
      rcases Nat.lt_or_ge i (items.toList.zip items2.toList).length with h' | h'
      · rw [List.drop_eq_getElem_cons h'] at hz; cases hz
      · exact hZ ▸ h'
    have hi' : i = items.size := by omega
    have hR : R (.ok (.ret (.bool false))) s' := fin s' (hi' ▸ hI)
    wp_walk
    simpa [Builtin.Tuple.tupleCompareSizes, hsz] using hR
  case h =>
    exact ⟨rfl, 0, rfl, Nat.zero_le _, h0⟩
end
section
variable {prog : Program} {w : World} {A : Around} {E : Value → Shared → Prop} {s : Shared}
theorem rn_listG {l b : Addr} {N : Nat} {Q : Value → Shared → Prop} (hu : A.units < cLine) (I : Nat → Shared → Prop) (hl : GQ.ListI prog w A E l b N I)
    (fin : ∀ s, I N s → Q (.bool false) s) (h : I 0 s) : wpAny (model prog w) A (richCompare .NotEq (.ref l) (.ref b)) Q E s := by
  obtain ⟨items, items2, n, n2, hl1, hb1, _, _, _⟩ := hl _ _ h
  refine wpAny_richCompare_same_room (op := .NotEq) ⟨_, hl1, rfl⟩ ⟨_, hb1, rfl⟩ F.slot_list_ne (GQ.call_here F.slot_list_ne ⟨_, hl1, rfl⟩ F.entry_list_ne (F.args_list_ne_2 _ _) ?_) hu
  exact list_ne_run (R := wants (fun v s' => v ≠ .notImplemented ∧ Q v s') E) l b N I hl (fun s' q => ⟨(fun x => nomatch x), fin s' q⟩) h
theorem rn_tupG {l b : Addr} {items items2 : Array Value} {Q : Value → Shared → Prop} (hsz : items.size = items2.size) (hu : A.units < cLine) (I : Nat → Shared → Prop)
    (hl : s.heap.IsTuple l items) (hb : s.heap.IsTuple b items2)
    (turn : ∀ i (h1 : i < items.size) (h2 : i < items2.size) s, I i s → wpAny (model prog w) A.in1 (eqBool items[i] items2[i]) (fun r s' => r = true ∧ I (i + 1) s') E s)
    (fin : ∀ s, I items.size s → Q (.bool false) s) (h : I 0 s) : wpAny (model prog w) A (richCompare .NotEq (.ref l) (.ref b)) Q E s := by
  obtain ⟨⟨cls, dd, data, sl⟩, ho, hc, n, hd⟩ := id hl
  obtain ⟨⟨cls2, dd2, data2, sl2⟩, ho2, hc2, n2, hd2⟩ := id hb
  simp only at hc hd hc2 hd2
  subst hc hd hc2 hd2
  refine wpAny_richCompare_same_room (op := .NotEq) ⟨_, ho, rfl⟩ ⟨_, ho2, rfl⟩ F.slot_tuple_ne (GQ.call_here F.slot_tuple_ne ⟨_, ho, rfl⟩ F.entry_tuple_ne (F.args_tuple_ne_2 _ _) ?_) hu
  exact tuple_ne_run (R := wants (fun v s' => v ≠ .notImplemented ∧ Q v s') E) l b items items2 n n2 dd dd2 sl sl2 hsz I turn (fun s' q => ⟨(fun x => nomatch x), fin s' q⟩) ho ho2 h
end
end KN
namespace KN
open PySem PySem.Spec PyProof.Rows L2
/-! ### x != y, no object's own __ne__ -/
theorem slot_one : Slot "object" "__ne__" "object.__ne__" :=
  .of (owner := "object") (n := "__ne__") (by rw [typeLookup_type, builtinLookup_eq_fast]; kernel_rfl) (by decide +kernel) (by decide +kernel) (by decide +kernel)
    (by first | exact .inl (by decide +kernel) | exact .inr (by decide +kernel)) (by rw [isSubtype_type]; kernel_rfl)
theorem entry_one : entryFor table "object.__ne__" = some Builtin.«object.__ne__» := entryFor_of_tree (by kernel_rfl)
theorem args_one (a b : Value) : argsOk "object.__ne__" ⟨[a, b], []⟩ := by unfold argsOk; kernel_rfl
section
variable {prog : Program} {w : World} {A : Around} {E : Value → Shared → Prop} {s : Shared} {K : PySem.W.Frag} {x y C f : Addr} {ox : Obj} {od : Option Obj}
theorem ne_own {Q : Value → Shared → Prop} (hu : A.units + 1 < cLine) (X : K.In s.heap) (I : PySem.W.InstAt s.heap x ox C od) (hb : PySem.W.Looks (model prog w) s.heap (typeOf (.ref y)) (.ref C))
    (hn : PySem.W.findIn K (.ref C) "__ne__" = some (some (.builtin "object.__ne__"))) (hs : PySem.W.findIn K (.ref C) "__eq__" = some (some (.ref f))) (hf : PySem.W.isFn K (.ref f) = true) (ho : PySem.W.mroIn K C (.type "object") = some true)
    (h : wpAny (model prog w) A.in1 (call (.ref f) [.ref x, .ref y]) (fun v s' => v = .bool true ∧ Q (.bool false) s') E s) : wpAny (model prog w) A (richCompare .NotEq (.ref x) (.ref y)) Q E s := by
  have sub : PySem.W.Looks (model prog w) s.heap (isInstance (.ref x) (.type "object")) true := I.type.andThen (PySem.W.looks_mroIn X ho)
  have one : wpAny (model prog w) A (tryCompare (.ref x) "__ne__" (.ref y)) (fun r s' => ∃ v, r = some v ∧ Q v s') E s := by
    unfold tryCompare
    refine wpAny_bind ?_
    have inner : wpAny (model prog w) A (call (.builtin "object.__ne__") ([.ref x] ++ [.ref y])) (fun v s' => v = .bool false ∧ Q (.bool false) s') E s := by
      refine wpAny_call (codeAny_call_builtin slot_one.plain entry_one ?_)
      refine @PySem.W.check_slot (model prog w) _ _ s "object.__ne__" "object" "__ne__" (.ref x) [.ref y] [] _ (by decide +kernel) (by decide +kernel) sub (args_one (.ref x) (.ref y)) ?_
      unfold Builtin.«object.__ne__»
      refine wpAny_bind (wpAny_of_eq (a := ((Value.ref x : Value), [Value.ref y])) (by first | rfl | (simp only [slotArgs]; rfl)) ?_)
      refine wpAny_bind (wpAny_cRoomFor (by show A.units + 1 < cLine; exact hu) ?_)
      refine wpAny_bind (PySem.W.ifBound_K X I hs hf (wpAny_mono h (fun v s' hv => ?_) fun _ _ e => e))
      obtain ⟨ev, q⟩ := hv
      subst ev
      dsimp only
      refine wpAny_bind (wpAny_truthy_bool ?_)
      exact wpAny_pure ⟨rfl, q⟩
    have b1 : wpAny (model prog w) A (callSpecialIfBound? (.ref x) "__ne__" [.ref y]) (fun r s' => r = some (.bool false) ∧ Q (.bool false) s') E s := by
      simp only [callSpecialIfBound?, bindSpecialIfBound?]
      refine wpAny_holding (wpAny_bind (wpAny_bind (wpAny_bind (I.type.here ((PySem.W.looks_findIn X hn).here ?_)))))
      have fin : wpAny (model prog w) A (call (.builtin "object.__ne__") ([.ref x] ++ [.ref y]) >>= fun v => pure (some v)) (fun r s' => r = some (.bool false) ∧ Q (.bool false) s') E s := wpAny_bind (wpAny_mono inner (fun v s' h' => wpAny_pure ⟨by rw [h'.1], h'.2⟩) fun _ _ h' => h')
      refine wpAny_bind (wpAny_askSetting (wpAny_ite ?_))
      split
      · rw [slot_one.bind (.ref x)]
        exact wpAny_bind (wpAny_pure (wpAny_pure (by exact fin)))
      · refine wpAny_tryCatch ?_
        rw [slot_one.bind (.ref x)]
        exact wpAny_bind (wpAny_pure (wpAny_pure (by exact fin)))
    refine wpAny_mono b1 (fun r s' hr => ?_) fun _ _ e => e
    obtain ⟨er, q⟩ := hr
    subst er
    exact wpAny_pure ⟨_, rfl, q⟩
  unfold richCompare
  simp only [oneThing_ref]
  refine wpAny_holding (wpAny_bind (wpAny_cRoomFor (by omega) ?_))
  refine wpAny_bind (I.type.here (wpAny_bind (hb.here ?_)))
  have e0 : ((Value.ref C : Value) != .ref C) = false := by simp
  rw [e0]
  simp only [Bool.false_eq_true, if_false]
  refine wpAny_bind (wpAny_pure ?_)
  simp only [Bool.false_eq_true, if_false]
  refine wpAny_bind (wpAny_mono one (fun r s' z => ?_) fun _ _ e => e)
  obtain ⟨v, rfl, hq⟩ := z
  exact wpAny_pure hq
end
end KN
set_option Elab.async false
set_option linter.all false
set_option maxRecDepth 100000
set_option maxHeartbeats 4000000
/-! KNeB: != over the layer, where the two are equal; the same object. -/
namespace KN
open PySem PySem.Spec PyProof.Rows L2
/-- x != y gives False for what D says, and only makes objects -/
def RnG (X : Cx) (n : Nat) (D : Eqv) : Prop :=
  ∀ (A : Around) (pins : List (Addr × Obj)) (s : Shared) (σ : L2.St) (H : Hp) (x y : V) (u v : Value), L2.Sub X n A → Inv X pins σ H s → RelV x u → RelV y v → D x y H →
    wpAny (model X.prog X.w) A (richCompare .NotEq u v) (fun r s' => r = .bool false ∧ ∃ H', Inv X pins σ H' s' ∧ Ext H H') X.xe s
/-- the same object -/
def DSame : Eqv := fun x y _ => ∃ a, x = .ref a ∧ y = .ref a
theorem mon_same : Mon DSame := fun _ _ _ _ _ d => d
section
variable {X : Cx} {n : Nat} {D : Eqv}
theorem eqG_same : EqG X 0 DSame := by
  intro A pins s σ H x y u v sb I rx ry d
  obtain ⟨a, ex, ey⟩ := d
  subst ex
  subst ey
  cases rx
  cases ry
  exact SeqAt.EqAt.same (A := A) (s := s) (.ref a) X.prog X.w X.xe _ ⟨rfl, H, I, Ext.rfl'⟩
theorem rnG_list (hD : Mon D) (h : EqG X n D) : RnG X (n + 1) (DList D) := by
  intro A pins s σ H x y u v sb I rx ry d
  obtain ⟨a, b, xs, ys, rfl, rfl, ha, hb, p⟩ := d
  cases rx
  cases ry
  refine rn_listG (N := xs.length) sb.room.units0 (fun _ s' => LoopI X pins σ H s') (fun i s' q => ?_) (fun s' q => ⟨rfl, q⟩) ⟨H, I, Ext.rfl'⟩
  obtain ⟨H1, I1, e1⟩ := id q
  obtain ⟨z, its, k, r, e⟩ := I1.hok a _ (e1 _ _ ha)
  obtain ⟨z2, its2, k2, r2, e2⟩ := I1.hok b _ (e1 _ _ hb)
  refine ⟨its.toArray, its2.toArray, k, k2, e, e2, by rw [List.size_toArray, ← r.length], by rw [List.size_toArray, ← r2.length, ← p.1], fun h1 h2 => ?_⟩
  exact turnG hD h sb p r r2 i h1 h2 s' q
theorem rnG_tup (hD : Mon D) (h : EqG X n D) : RnG X (n + 1) (DTup X.K D) := by
  intro A pins s σ H x y u v sb I rx ry d
  obtain ⟨a, b, xs, ys, rfl, rfl, ha, hb, p⟩ := d
  cases rx
  cases ry
  obtain ⟨its, r, e, z⟩ := I.tuple ha
  obtain ⟨its2, r2, e2, z2⟩ := I.tuple hb
  have hsz : its.toArray.size = its2.toArray.size := by rw [List.size_toArray, List.size_toArray, ← r.length, ← r2.length]; exact p.1
  exact rn_tupG hsz sb.room.units0 (fun _ s' => LoopI X pins σ H s') e e2 (fun i h1 h2 s' q => turnG hD h sb p r r2 i h1 h2 s' q) (fun s' q => ⟨rfl, q⟩) ⟨H, I, Ext.rfl'⟩
/-- an own __eq__ called at A.in1 -/
theorem rnG_ins {CX : CXT} {C f : Addr} {fd : FuncData} {ps : List Str} {R : Addr → Addr → Hp → Prop} {E : XK} (F : FnOk X.prog X.w X.K X.mg X.base CX n f fd ps (spEq R))
    (hn : PySem.W.findIn X.K (.ref C) "__ne__" = some (some (.builtin "object.__ne__"))) (hs : PySem.W.findIn X.K (.ref C) "__eq__" = some (some (.ref f))) (hf : PySem.W.isFn X.K (.ref f) = true) (ho : PySem.W.mroIn X.K C (.type "object") = some true) (hb : Binds X.K fd ps []) (hx : Passes CX X E) : RnG X (n + 1) (DIns C R) := by
  intro A pins s σ H x y u v sb I rx ry d
  obtain ⟨a, b, dx, dy, fs, gs, rfl, rfl, ha, hb', hr⟩ := d
  cases rx
  cases ry
  obtain ⟨mA, J, _⟩ := ins_get I.hok ha
  obtain ⟨mB, J', _⟩ := ins_get I.hok hb'
  obtain ⟨od, J, _⟩ := J.look
  obtain ⟨od', J', _⟩ := J'.look
  refine ne_own (by have := sb.room.un; omega) I.kIn J J'.type hn hs hf ho ?_
  have sb1 := sb.in1
  have hsp : spEq R [.ref a, .ref b] H (fun v H' => v = .bl true ∧ Ext H H') E := ⟨a, b, rfl, hr, fun H' e => ⟨rfl, e⟩⟩
  have e0 : Env0 X.prog X.w X.K X.mg X.base A.in1 X.stack s H := by
    have e := I.env0
    exact ⟨by rw [sb1.fr]; exact e.frames, e.mod, e.bs, e.bsz, e.funs, e.frf, e.hok, e.bare⟩
  have hl := F.len _ _ _ _ hsp
  have r2 : Vals [V.ref a, V.ref b] [Value.ref a, Value.ref b] := .cons rfl (.cons rfl .nil)
  refine wpAny_call (codeAny_mono (F.run A.in1 X.stack s H ⟨[.ref a, .ref b], []⟩ [.ref a, .ref b] [.ref a, .ref b] _ E sb1.room e0 (by
    have := hb s [.ref a, .ref b] I.kIn (by simpa using hl)
    simpa using this) r2 hsp) fun r s' hq => ?_)
  cases r with
  | error e => exact hx pins σ H s e s' I hq
  | ok fl =>
    cases fl with
    | ret w =>
      obtain ⟨z, H', I', rz, ez, ex⟩ := I.after hq
      subst ez
      cases rz
      exact ⟨rfl, rfl, H', I', ex⟩
    | next => exact False.elim hq
    | brk => exact False.elim hq
    | cont => exact False.elim hq
/-- x != y as an expression -/
def rNeG (D : Eqv) : R2 := fun x y H Q => D x y H ∧ ∀ H', Ext H H' → Q (.bl false) H'
theorem op_neG (h : RnG X n D) (hr : Room n X.A) : OpR X (compareOp .NotEq) (rNeG D) := by
  intro pins s σ H x y v u Q I rx ry hq
  obtain ⟨d, q⟩ := hq
  show wpAny (model X.prog X.w) X.A (richCompare .NotEq v u) (EP X pins σ Q) X.xe s
  refine wpAny_mono (h X.A pins s σ H x y v u ⟨hr, rfl⟩ I rx ry d) (fun r s' z => ?_) fun _ _ x => x
  obtain ⟨hr', H', I', e⟩ := z
  subst hr'
  exact ⟨.bl false, H', I', rfl, q H' e⟩
end
end KN
set_option Elab.async false
set_option linter.all false
set_option maxRecDepth 100000
set_option maxHeartbeats 1000000
/-! KDZ: dict(zip(a, b)) of two tuples. -/
namespace KDz
open PySem
open PySem.Sem (wp)
section
variable {prog : Program} {w : World} {A : Around} {E : Value → Shared → Prop} {s : Shared}
theorem zipT_next_item_held {z TI TO T i1 i2 l1 l2 : Addr} {f : Bool} {oT : Obj} {k1 k2 : Nat} {xs ys : Array Value} {x y : Value} {Q : Value → Shared → Prop} (D : ZipApart z TI TO i1 i2 l1 l2)
    (hz : IsZipHeld s.heap z TI TO T f) (hT : s.heap.get? T = some oT) (hTI : IsPair s.heap TI (.ref i1) (.ref i2))
    (h1 : s.heap.IsTupleIter i1 l1 k1) (h2 : s.heap.IsTupleIter i2 l2 k2) (hl1 : s.heap.IsTuple l1 xs) (hl2 : s.heap.IsTuple l2 ys) (hx : xs[k1]? = some x) (hy : ys[k2]? = some y)
    (hQ : ∀ h', IsZipHeld h' z TI TO T true → h'.IsTupleIter i1 l1 (k1 + 1) → h'.IsTupleIter i2 l2 (k2 + 1) → IsPair h' s.heap.objs.size x y → h'.objs.size = s.heap.objs.size + 1 →
      (∀ c o, c ≠ z → c ≠ i1 → c ≠ i2 → s.heap.get? c = some o → h'.get? c = some o) → Q (.ref s.heap.objs.size) { s with heap := h' }) :
    wpAny (model prog w) A (Builtin.«zip.__next__» ⟨[.ref z], []⟩) (fun fin s' => ∃ v, fin = .done (.ret v) ∧ Q v s') E s := by
  show wpAny _ _ (field (.ref z) 2 >>= _) _ _ _
  refine wpAny_bind (wpAny_field hz rfl (x := .bool false) rfl ?_)
  show wpAny _ _ (field (.ref z) 3 >>= _) _ _ _
  refine wpAny_bind (wpAny_field hz rfl (x := .ref TI) rfl ?_)
  refine wpAny_bind (wpAny_seqItems hTI rfl ?_)
  show wpAny _ _ (Builtin.SmallTypes.ownedTupleIsFree (.ref z) >>= _) _ _ _
  refine wpAny_bind (wpAny_tupleHeld_zip hz hT fun h₁ hz₁ hs₁ => ?_)
  simp only [Bool.false_eq_true, if_false]
  refine wpAny_bind ?_
  rw [← Array.forIn_toList]
  simp only [List.forIn_cons, List.forIn_nil]
  refine wpAny_bind (wpAny_bind (wpAny_holding ?_))
  show wpAny _ _ (Builtin.SmallTypes.nextOf (.ref i1) >>= _) _ _ _
  refine wpAny_bind (RZ.nextOf_tuple_item (s := { s with heap := h₁ }) (h1.extBut hs₁.extBut D.i1z) (hl1.extBut hs₁.extBut D.l1z) hx fun h₂ h1₂ hs₂ => wpAny_pure ?_)
  refine wpAny_pure ?_
  refine wpAny_bind (wpAny_bind (wpAny_holding ?_))
  show wpAny _ _ (Builtin.SmallTypes.nextOf (.ref i2) >>= _) _ _ _
  refine wpAny_bind (RZ.nextOf_tuple_item (s := { s with heap := h₂ }) ((h2.extBut hs₁.extBut D.i2z).extBut hs₂.extBut D.i12.symm) ((hl2.extBut hs₁.extBut D.l2z).extBut hs₂.extBut D.l2i1) hy fun h₃ h2₃ hs₃ => wpAny_pure ?_)
  refine wpAny_pure (wpAny_pure ?_)
  show wpAny _ _ (newTuple [x, y] >>= _) _ _ _
  refine wpAny_bind (wpAny_newTuple ?_)
  have hsz : h₃.objs.size = s.heap.objs.size := by rw [hs₃.1, hs₂.1, hs₁.1]
  have hz₃ : IsZipHeld h₃ z TI TO T true := hs₃.extBut _ _ D.i2z.symm (hs₂.extBut _ _ D.i1z.symm hz₁)
  have hk : ∀ c o, c ≠ z → c ≠ i1 → c ≠ i2 → s.heap.get? c = some o → h₃.get? c = some o := fun c o c1 c2 c3 e => hs₃.extBut _ _ c3 (hs₂.extBut _ _ c2 (hs₁.extBut _ _ c1 e))
  have h1₃ : h₃.IsTupleIter i1 l1 (k1 + 1) := h1₂.extBut hs₃.extBut D.i12
  refine wpAny_pure ⟨_, rfl, ?_⟩
  show Q (.ref h₃.objs.size) _
  have hp : IsPair (h₃.push { cls := .type "tuple", data := .seq #[x, y] }) h₃.objs.size x y := Heap.get?_push_size _ rfl
  have hz4 : (h₃.push { cls := .type "tuple", data := .seq #[x, y] }).objs.size = h₃.objs.size + 1 := Heap.size_push ..
  rw [hsz] at hp hz4 ⊢
  exact hQ _ (Heap.get?_push_of_some _ hz₃) (h1₃.at fun o e => Heap.get?_push_of_some _ e) (h2₃.at fun o e => Heap.get?_push_of_some _ e) hp hz4 fun c o c1 c2 c3 e => Heap.get?_push_of_some _ (hk c o c1 c2 c3 e)

theorem zipT_next_end_held {z TI TO T i1 i2 l1 l2 : Addr} {f : Bool} {oT : Obj} {k1 k2 : Nat} {xs ys : Array Value} {Q : Fin → Shared → Prop} (hh : A.handled = none) (D : ZipApart z TI TO i1 i2 l1 l2)
    (hz : IsZipHeld s.heap z TI TO T f) (hT : s.heap.get? T = some oT) (hTI : IsPair s.heap TI (.ref i1) (.ref i2))
    (h1 : s.heap.IsTupleIter i1 l1 k1) (h2 : s.heap.IsTupleIter i2 l2 k2) (hl1 : s.heap.IsTuple l1 xs) (hl2 : s.heap.IsTuple l2 ys) (hend : xs[k1]? = none ∨ ys[k2]? = none)
    (hE : ∀ h' e, (∀ c o, c ≠ z → c ≠ i1 → c ≠ i2 → s.heap.get? c = some o → h'.get? c = some o) → (∃ o, h'.get? e = some o ∧ o.cls = .type "StopIteration") → E (.ref e) { s with heap := h' }) :
    wpAny (model prog w) A (Builtin.«zip.__next__» ⟨[.ref z], []⟩) Q E s := by
  show wpAny _ _ (field (.ref z) 2 >>= _) _ _ _
  refine wpAny_bind (wpAny_field hz rfl (x := .bool false) rfl ?_)
  show wpAny _ _ (field (.ref z) 3 >>= _) _ _ _
  refine wpAny_bind (wpAny_field hz rfl (x := .ref TI) rfl ?_)
  refine wpAny_bind (wpAny_seqItems hTI rfl ?_)
  show wpAny _ _ (Builtin.SmallTypes.ownedTupleIsFree (.ref z) >>= _) _ _ _
  refine wpAny_bind (wpAny_tupleHeld_zip hz hT fun h₁ hz₁ hs₁ => ?_)
  simp only [Bool.false_eq_true, if_false]
  refine wpAny_bind ?_
  rw [← Array.forIn_toList]
  simp only [List.forIn_cons, List.forIn_nil]
  refine wpAny_bind (wpAny_bind (wpAny_holding ?_))
  show wpAny _ _ (Builtin.SmallTypes.nextOf (.ref i1) >>= _) _ _ _
  cases hx : xs[k1]? with
  | none =>
    refine wpAny_bind (RZ.nextOf_tuple_end (s := { s with heap := h₁ }) hh (h1.extBut hs₁.extBut D.i1z) (hl1.extBut hs₁.extBut D.l1z) hx fun h₂ e hs₂ he => ?_)
    exact hE h₂ e (fun c o c1 c2 _ x => hs₂ _ _ c2 (hs₁.extBut _ _ c1 x)) he
  | some x =>
    have hy : ys[k2]? = none := by rcases hend with h | h; rw [hx] at h; cases h; exact h
    refine wpAny_bind (RZ.nextOf_tuple_item (s := { s with heap := h₁ }) (h1.extBut hs₁.extBut D.i1z) (hl1.extBut hs₁.extBut D.l1z) hx fun h₂ h1₂ hs₂ => wpAny_pure ?_)
    refine wpAny_pure ?_
    refine wpAny_bind (wpAny_bind (wpAny_holding ?_))
    show wpAny _ _ (Builtin.SmallTypes.nextOf (.ref i2) >>= _) _ _ _
    refine wpAny_bind (RZ.nextOf_tuple_end (s := { s with heap := h₂ }) hh ((h2.extBut hs₁.extBut D.i2z).extBut hs₂.extBut D.i12.symm) ((hl2.extBut hs₁.extBut D.l2z).extBut hs₂.extBut D.l2i1) hy fun h₃ e hs₃ he => ?_)
    exact hE h₃ e (fun c o c1 c2 c3 x => hs₃ _ _ c3 (hs₂.extBut _ _ c2 (hs₁.extBut _ _ c1 x))) he

theorem pyNext_zipT_item_held {z TI TO T i1 i2 l1 l2 : Addr} {f : Bool} {oT : Obj} {k1 k2 : Nat} {xs ys : Array Value} {x y : Value} {Q : Option Value → Shared → Prop} (D : ZipApart z TI TO i1 i2 l1 l2)
    (hz : IsZipHeld s.heap z TI TO T f) (hT : s.heap.get? T = some oT) (hTI : IsPair s.heap TI (.ref i1) (.ref i2))
    (h1 : s.heap.IsTupleIter i1 l1 k1) (h2 : s.heap.IsTupleIter i2 l2 k2) (hl1 : s.heap.IsTuple l1 xs) (hl2 : s.heap.IsTuple l2 ys) (hx : xs[k1]? = some x) (hy : ys[k2]? = some y)
    (hQ : ∀ h', IsZipHeld h' z TI TO T true → h'.IsTupleIter i1 l1 (k1 + 1) → h'.IsTupleIter i2 l2 (k2 + 1) → IsPair h' s.heap.objs.size x y → h'.objs.size = s.heap.objs.size + 1 →
      (∀ c o, c ≠ z → c ≠ i1 → c ≠ i2 → s.heap.get? c = some o → h'.get? c = some o) → Q (some (.ref s.heap.objs.size)) { s with heap := h' }) :
    wpAny (model prog w) A (pyNext (.ref z)) Q E s := by
  have hTy : s.TypeIs (.ref z) "zip" := ⟨_, hz, rfl⟩
  unfold pyNext
  exact wpAny_bind (wpAny_attempt (wpAny_callSpecial?_slot (name := Str.ofString "__next__") hTy F.slot_zip_next
    (wpAny_call_entry F.slot_zip_next hTy F.entry_zip_next
      (zipT_next_item_held D hz hT hTI h1 h2 hl1 hl2 hx hy fun h' a1 a3 a4 a5 a6 a7 => wpAny_pure (hQ h' a1 a3 a4 a5 a6 a7)) (F.args_zip_next_1 _))))
theorem pyNext_zipT_end_held {z TI TO T i1 i2 l1 l2 : Addr} {f : Bool} {oT : Obj} {k1 k2 : Nat} {xs ys : Array Value} {Q : Option Value → Shared → Prop} (hh : A.handled = none) (D : ZipApart z TI TO i1 i2 l1 l2)
    (hz : IsZipHeld s.heap z TI TO T f) (hT : s.heap.get? T = some oT) (hTI : IsPair s.heap TI (.ref i1) (.ref i2))
    (h1 : s.heap.IsTupleIter i1 l1 k1) (h2 : s.heap.IsTupleIter i2 l2 k2) (hl1 : s.heap.IsTuple l1 xs) (hl2 : s.heap.IsTuple l2 ys) (hend : xs[k1]? = none ∨ ys[k2]? = none)
    (hQ : ∀ h', (∀ c o, c ≠ z → c ≠ i1 → c ≠ i2 → s.heap.get? c = some o → h'.get? c = some o) → Q none { s with heap := h' }) : wpAny (model prog w) A (pyNext (.ref z)) Q E s := by
  have hTy : s.TypeIs (.ref z) "zip" := ⟨_, hz, rfl⟩
  unfold pyNext
  refine wpAny_bind (wpAny_attempt (wpAny_callSpecial?_slot (name := Str.ofString "__next__") hTy F.slot_zip_next
    (wpAny_call_entry F.slot_zip_next hTy F.entry_zip_next (zipT_next_end_held hh D hz hT hTI h1 h2 hl1 hl2 hend fun h' e hk he => ?_) (F.args_zip_next_1 _))))
  obtain ⟨o, ho, hc⟩ := he
  refine wpAny_bind (wpAny_isInstance (T := "StopIteration") (b := true) ⟨o, ho, hc⟩ isSubtype_stop ?_)
  exact wpAny_pure (hQ _ hk)
end
section
variable {prog : Program} {w : World}
theorem pairArg_zipT (z TI TO i1 i2 l1 l2 : Addr) (D : ZipApart z TI TO i1 i2 l1 l2) (xs ys : Array Value) :
    PairArg prog w "zip" z [z, TI, TO, i1, i2, l1, l2] [z, TO, i1, i2] (min xs.size ys.size) (fun i k v => xs[i]? = some k ∧ ys[i]? = some v)
      (fun h => IsZip h z TI TO .none ∧ IsPair h TI (.ref i1) (.ref i2) ∧ (∃ a b, IsPair h TO a b) ∧ h.IsTupleIter i1 l1 0 ∧ h.IsTupleIter i2 l2 0 ∧ h.IsTuple l1 xs ∧ h.IsTuple l2 ys) where
  type := fun s ok => ⟨_, ok.1, rfl⟩
  notDict := by decide
  keep := fun h h' ok hk => by
    obtain ⟨hz, hTI, ⟨a, b, hTO⟩, h1, h2, hl1, hl2⟩ := ok
    exact ⟨hk _ _ hz, hk _ _ hTI, ⟨a, b, hk _ _ hTO⟩, h1.at fun o e => hk _ o e, h2.at fun o e => hk _ o e, hl1.at fun o e => hk _ o e, hl2.at fun o e => hk _ o e⟩
  there := fun h ok b hb => by
    obtain ⟨hz, hTI, ⟨a, c, hTO⟩, ⟨o1, h1, _⟩, ⟨o2, h2, _⟩, ⟨o3, hl1, _⟩, ⟨o4, hl2, _⟩⟩ := ok
    simp only [List.mem_cons, List.not_mem_nil, or_false] at hb
    rcases hb with rfl | rfl | rfl | rfl | rfl | rfl | rfl
    all_goals first | exact ⟨_, hz⟩ | exact ⟨_, hTI⟩ | exact ⟨_, hTO⟩ | exact ⟨_, h1⟩ | exact ⟨_, h2⟩ | exact ⟨_, hl1⟩ | exact ⟨_, hl2⟩
  sub := fun b hb => by simp at hb ⊢; rcases hb with rfl | rfl | rfl | rfl <;> simp
  noKeys := fun A s Q E hA ok h => getAttrOr_miss_zip ok.1 rfl rfl rfl zip_no_keys (by decide +kernel) hA h
  iter := fun A s d Q E hA ok hd hdf h => by
    obtain ⟨hz, hTI, ⟨a, b, hTO⟩, h1, h2, hl1, hl2⟩ := ok
    simp only [List.mem_cons, List.not_mem_nil, or_false, not_or] at hdf
    obtain ⟨dz, dTI, dTO, di1, di2, dl1, dl2⟩ := hdf
    refine wpAny_pyIter_zip hz (h z [z, TO, i1, i2] (fun i h => IsPair h TI (.ref i1) (.ref i2) ∧ h.IsTupleIter i1 l1 i ∧ h.IsTupleIter i2 l2 i ∧ h.IsTuple l1 xs ∧ h.IsTuple l2 ys ∧
      ((IsZip h z TI TO .none ∧ ∃ a b, IsPair h TO a b) ∨ ∃ T f oT, IsZipHeld h z TI TO T f ∧ h.get? T = some oT ∧ T ≠ z ∧ T ≠ i1 ∧ T ≠ i2 ∧ T ≠ d)) s.heap s.toks ?_
      ⟨hTI, h1, h2, hl1, hl2, .inl ⟨hz, a, b, hTO⟩⟩ (fun _ _ e => e) fun b hb => .inl hb)
    exact {
      off := fun hm => by
        simp only [List.mem_cons, List.not_mem_nil, or_false] at hm
        rcases hm with e | e | e | e
        · exact dz e
        · exact dTO e
        · exact di1 e
        · exact di2 e
      frame := fun i h₁ h₂ st hk => by
        obtain ⟨hTI, h1, h2, hl1, hl2, hz⟩ := st
        refine ⟨hk _ _ (Ne.symm dTI) hTI, h1.at fun o e => hk _ o (Ne.symm di1) e, h2.at fun o e => hk _ o (Ne.symm di2) e, hl1.at fun o e => hk _ o (Ne.symm dl1) e, hl2.at fun o e => hk _ o (Ne.symm dl2) e, ?_⟩
        rcases hz with ⟨hz, a, b, hTO⟩ | ⟨T, f, oT, hz, hT, r1, r2, r3, r4⟩
        · exact .inl ⟨hk _ _ (Ne.symm dz) hz, a, b, hk _ _ (Ne.symm dTO) hTO⟩
        · exact .inr ⟨T, f, oT, hk _ _ (Ne.symm dz) hz, hk _ _ r4 hT, r1, r2, r3, r4⟩
      item := fun i s₁ Q₁ E₁ hi st hds hQ => by
        obtain ⟨hTI, h1, h2, hl1, hl2, hz⟩ := st
        have hix : i < xs.size := Nat.lt_of_lt_of_le hi (Nat.min_le_left ..)
        have hiy : i < ys.size := Nat.lt_of_lt_of_le hi (Nat.min_le_right ..)
        have ex := Array.getElem?_eq_getElem hix
        have ey := Array.getElem?_eq_getElem hiy
        have lt : ∀ {c o}, s₁.heap.get? c = some o → s₁.heap.objs.size ≠ c := fun e => Nat.ne_of_gt (Heap.lt_size e)
        have n1 : s₁.heap.objs.size ≠ i1 := let ⟨_, e, _⟩ := h1; lt e
        have n2 : s₁.heap.objs.size ≠ i2 := let ⟨_, e, _⟩ := h2; lt e
        rcases hz with ⟨hz, a, b, hTO⟩ | ⟨T, f, oT, hz, hT, r1, r2, r3, r4⟩
        · refine RZ.pyNext_zipT_item D hz hTI hTO h1 h2 hl1 hl2 ex ey fun h' a1 a2 a3 a4 a5 a6 hk => ?_
          exact hQ s₁.heap.objs.size _ _ h' s₁.toks ⟨ex, ey⟩ (.inl ⟨_, a5, rfl, _, rfl⟩)
            ⟨hk _ _ D.TIz D.TITO D.TIi1 D.TIi2 hTI, a3, a4, hl1.at fun o e => hk _ o D.l1z D.l1TO D.l1i1 D.l1i2 e, hl2.at fun o e => hk _ o D.l2z D.l2TO D.l2i1 D.l2i2 e,
              .inr ⟨s₁.heap.objs.size, false, _, a1, a5, lt hz, n1, n2, Nat.ne_of_gt hds⟩⟩
            fun c o hc e => hk c o (fun x => hc (by simp [x])) (fun x => hc (by simp [x])) (fun x => hc (by simp [x])) (fun x => hc (by simp [x])) e
        · refine pyNext_zipT_item_held D hz hT hTI h1 h2 hl1 hl2 ex ey fun h' a1 a3 a4 a5 a6 hk => ?_
          exact hQ s₁.heap.objs.size _ _ h' s₁.toks ⟨ex, ey⟩ (.inl ⟨_, a5, rfl, _, rfl⟩)
            ⟨hk _ _ D.TIz D.TIi1 D.TIi2 hTI, a3, a4, hl1.at fun o e => hk _ o D.l1z D.l1i1 D.l1i2 e, hl2.at fun o e => hk _ o D.l2z D.l2i1 D.l2i2 e,
              .inr ⟨T, true, oT, a1, hk _ _ r1 r2 r3 hT, r1, r2, r3, r4⟩⟩
            fun c o hc e => hk c o (fun x => hc (by simp [x])) (fun x => hc (by simp [x])) (fun x => hc (by simp [x])) e
      done := fun s₁ Q₁ E₁ st hQ => by
        obtain ⟨hTI, h1, h2, hl1, hl2, hz⟩ := st
        have hend : xs[min xs.size ys.size]? = none ∨ ys[min xs.size ys.size]? = none := by
          rcases Nat.le_total xs.size ys.size with h | h
          · exact .inl (Array.getElem?_eq_none (by rw [Nat.min_eq_left h]; exact Nat.le_refl _))
          · exact .inr (Array.getElem?_eq_none (by rw [Nat.min_eq_right h]; exact Nat.le_refl _))
        rcases hz with ⟨hz, a, b, hTO⟩ | ⟨T, f, oT, hz, hT, r1, r2, r3, r4⟩
        · exact RZ.pyNext_zipT_end hA D hz hTI hTO h1 h2 hl1 hl2 hend fun h' hk => hQ h' s₁.toks fun c o hc e => hk c o (fun x => hc (by simp [x])) (fun x => hc (by simp [x])) (fun x => hc (by simp [x])) (fun x => hc (by simp [x])) e
        · exact pyNext_zipT_end_held hA D hz hT hTI h1 h2 hl1 hl2 hend fun h' hk => hQ h' s₁.toks fun c o hc e => hk c o (fun x => hc (by simp [x])) (fun x => hc (by simp [x])) (fun x => hc (by simp [x])) e }
end
open PySem.Spec PyProof.Rows L2 RZ
/-- dict(zip(a, b)), a a tuple of texts or numbers, b a tuple as long -/
def tDictZip (K : PySem.W.Frag) (ta : TA) : TE := fun σ H Q => ta σ H fun vs H1 => ∃ (a b : Addr) (ks : List Key) (ys : List V), vs = [.ref a, .ref b] ∧ SqT K H1 a (ks.map kV) ∧ SqT K H1 b ys ∧ ks.length = ys.length ∧
  ∀ p, H1 p = none → Q (.ref p) (upd H1 p (.dK (mergeK [] (ks.zip ys))))
theorem kv_zip : ∀ {ks : List Key} {ys : List V} {us vs : List Value}, Vals (ks.map kV) us → Vals ys vs → KV (ks.zip ys) (ks.zip vs)
  | [], _, _, _, _, _ => by rw [List.zip_nil_left, List.zip_nil_left]; exact .nil
  | k :: ks, [], us, vs, _, r2 => by cases r2; rw [List.zip_nil_right, List.zip_nil_right]; exact .nil
  | k :: ks, y :: ys, us, vs, r1, r2 => by
    cases r2 with
    | cons h2 t2 =>
      rw [List.map_cons] at r1
      cases r1 with
      | cons h1 t1 => exact .cons ⟨rfl, h2⟩ (kv_zip t1 t2)
theorem pe_dictZip {X : Cx} {e e2 : Expr} {ta : TA} {pd posd p pos : Pos} (hcalm : X.calm = true) (hgd : Gl X "dict") (hmd : X.mg "dict" = none) (hg : Gl X "zip") (hm : X.mg "zip" = none) (ha : PA X [e, e2] ta)
    (hs : starEach [e, e2] X.env = (false, eval e X.env) :: starEach [e2] X.env := by rfl) (hpl : (backTo pos (starEach [e2] X.env)).any (·.1) = false := by rfl) :
    PE X (.Call (.Name "dict" pd) [.Call (.Name "zip" p) [e, e2] [] pos] [] posd) (tDictZip X.K ta) := by
  refine ⟨fun pins s σ H Q I h => ?_⟩
  refine wpAny_Call_Name_kw (ld_blt (u := .type "dict") I hgd hmd (by decide +kernel) ?_ (by decide) (by decide))
  refine PyProof.Rows.callWith_type1 ?_ (by rfl) (by rfl)
  show wpAny _ _ (spliced ((false, eval (.Call (.Name "zip" p) [e, e2] [] pos) X.env) :: backTo posd (starEach [] X.env))) _ _ s
  refine Calls.spliced_cons (wpAny_Call_Name_kw (ld_blt I hg hm PyProof.Rows.boot_zip (PyProof.Rows.callWith_type1 (thn (ha.run pos pins s σ H _ I h) fun us s1 ⟨vs, H1, I1, r1, q1⟩ => ?_) hs hpl)))
  obtain ⟨a, b, ks, ys, ex, hqx, hqy, hlen, q⟩ := q1
  subst ex
  cases r1 with
  | cons r rr =>
    cases rr with
    | cons r' rr =>
      cases rr
      cases r
      cases r'
      obtain ⟨its, rv, p1, z1⟩ := I1.tuple hqx
      obtain ⟨its2, rv2, p2, z2⟩ := I1.tuple hqy
      obtain ⟨o1, ho1, _⟩ := id p1
      obtain ⟨o2, ho2, _⟩ := id p2
      have l1 : ks.length = its.length := by have := rv.length; simpa using this
      have l2 : ys.length = its2.length := rv2.length
      refine call_zipT (show s1.heap.IsTuple a its.toArray from p1) (show s1.heap.IsTuple b its2.toArray from p2) fun h' hz hTI hTO h1 h2 hsz hk => ?_
      refine Calls.spliced_nil ?_
      have D := PySem.W.ktu_apart s1.heap.objs.size a b (Heap.lt_size ho1) (Heap.lt_size ho2)
      have P := pairArg_zipT (prog := X.prog) (w := X.w) (s1.heap.objs.size + 4) (s1.heap.objs.size + 2) (s1.heap.objs.size + 3) s1.heap.objs.size (s1.heap.objs.size + 1) a b D its.toArray its2.toArray
      have hn : min its.toArray.size its2.toArray.size = ks.length := by simp; omega
      have kv := kv_zip rv rv2
      have klen : (ks.zip its2).length = ks.length := by rw [List.length_zip]; omega
      refine PySem.call_dict_pairs (knd := mixKind X.prog X.w) (kvs := ks.zip its2) P (I1.ok.hd hcalm) ⟨hz, hTI, ⟨_, _, hTO⟩, h1, h2, (show s1.heap.IsTuple a its.toArray from p1).at fun o e => hk _ o e, (show s1.heap.IsTuple b its2.toArray from p2).at fun o e => hk _ o e⟩
        ⟨by rw [klen, hn], fun i key v hkv => ?_⟩ (by rw [hn]; simpa using z1) fun h2' tk hd hk2 => ?_
      · obtain ⟨e1, e2⟩ := hkv
        have e1' : its[i]? = some key := by simpa using e1
        have e2' : its2[i]? = some v := by simpa using e2
        have hi : i < ks.length := by rw [l1]; exact (List.getElem?_eq_some_iff.mp e1').1
        have ek : ks[i]? = some ks[i] := List.getElem?_eq_getElem hi
        refine ⟨ks[i], by rw [List.getElem?_zip_eq_some]; exact ⟨ek, e2'⟩, ?_⟩
        obtain ⟨u, hu, ru⟩ := rv.get (by rw [List.getElem?_map, ek]; rfl)
        rw [e1'] at hu
        cases hu
        exact kV_is ru
      · have ge : s1.heap.objs.size ≤ h'.objs.size := by omega
        have hmod : (h'.objs.size == sysModules) = false := beq_eq_false_iff_ne.mpr (Nat.ne_of_gt (Nat.lt_of_lt_of_le I1.big ge))
        have hl2 : (mergeK [] (ks.zip ys)).length ≤ sizeLine := by
          refine Nat.le_trans (length_mergeK (ks.zip ys) []) ?_
          rw [List.length_nil, Nat.zero_add, List.length_zip]
          have z1' : ks.length ≤ sizeLine := by simpa using z1
          omega
        have keep : ∀ c u, s1.heap.get? c = some u → h2'.get? c = some u := fun c u e => hk2 c u (fun hm => by
          have lt := Heap.lt_size e
          simp only [List.mem_cons, List.not_mem_nil, or_false] at hm
          rcases hm with z | z | z | z
          all_goals (rw [z] at lt; first | exact Nat.lt_irrefl _ lt | exact absurd lt (Nat.not_lt.mpr (Nat.le_add_right _ _)))) (hk c u e)
        exact ⟨.ref h'.objs.size, upd H1 h'.objs.size (.dK (mergeK [] (ks.zip ys))), I1.laid (t' := tk) keep ge (show ObjOk X.prog X.w _ _ _ (.dK (mergeK [] (ks.zip ys))) from ⟨hl2, hmod, merged [] (ks.zip its2), KV.merge kv .nil, hd⟩), rfl, q _ (I1.hok.fresh ge)⟩
end KDz
set_option Elab.async false
set_option linter.all false
set_option maxRecDepth 100000
set_option maxHeartbeats 1000000
/-! KTry: several except clauses, each with a name. -/
namespace KX
open PySem PySem.Spec PyProof.Rows L2
/-- one clause: the class, the slot of its name, what its suite tells -/
structure HdA where
  c : Value
  i : Nat
  ts : Addr → Value → Option Addr → TS
/-- each clause in turn: what it asks of the error that came out of the suite -/
def wAsM (K : PySem.W.Frag) (Wout : WX) (D : Ends) : List HdA → WX
  | [] => Wout
  | h :: r => fun cls d σ H => ∃ b, PySem.W.exmOne K cls h.c = some b ∧ (b = true → ∀ a, H a = none → h.ts a cls d { nx := fun σ' H' => D.nx (σ'.set h.i none) H', rt := D.rt, bk := fun σ' H' => D.bk (σ'.set h.i none) H', ct := fun σ' H' => D.ct (σ'.set h.i none) H' } (σ.set h.i (some (.ref a))) H) ∧
      (b = false → wAsM K Wout D r cls d σ H)
inductive HdsAs (X : Cx) : List ExceptHandler → List HdA → Prop
  | nil : HdsAs X [] []
  | cons {x n : Str} {c : Value} {i : Nat} {ts : Addr → Value → Option Addr → TS} {b₀ : Stmt} {suite : List Stmt} {np pos' : Pos} {hds : List ExceptHandler} {l : List HdA} (hi : X.N[i]? = some n) (hln : X.env.kindOf n = some .local) (hc : Names X x c)
      (hsu : ∀ (a : Addr) (oe : Obj) (cls : Value) (d : Option Addr) (pn : List (Addr × Obj)), Zc cls d oe → (∃ vs, oe.data = .fields vs) → PSs (X.suite a ((a, oe) :: pn)) (b₀ :: suite) (ts a cls d)) (r : HdsAs X hds l) :
      HdsAs X (.ExceptHandler (some (.Name x np)) (some n) (b₀ :: suite) pos' :: hds) (⟨c, i, ts⟩ :: l)
section
variable {X : Cx} {body : List Stmt} {h₀ : ExceptHandler} {hds : List ExceptHandler} {l : List HdA} {pos : Pos} {tb : WX → TS} {Wout : WX}
theorem ps_try_asM (hs : X.stack = X.env :: X.outer) (hf : X.env.frame = some X.env.locals) (hN : X.N.Nodup) (tk : Takes X Wout)
    (hb : ∀ (W : WX) (pn : List (Addr × Obj)) (xe : Value → Shared → Prop), Takes (X.tr pn xe) W → PassesOwn (model X.prog X.w) X.A X.env xe → PSs (X.tr pn xe) body (tb W))
    (hh : HdsAs X (h₀ :: hds) l) : PS X (.Try body (h₀ :: hds) [] [] pos) (fun D σ H => tb (wAsM X.K Wout D l) D σ H) := by
  refine ⟨fun pins s σ H D I h => ?_⟩
  have ok := I.ok
  have hfr : X.A.frames = some (X.env :: X.outer) := by rw [ok.frames, hs]
  refine wpAny_Try_except ?_
  refine wpAny_mono ((hb (wAsM X.K Wout D l) (X.pn ++ pins) (fun e s₁ => wpAny (model X.prog X.w) X.A (noteFrame e X.env) (fun _ s₂ => wpAny (model X.prog X.w) X.A (setFlight e none) (fun _ s₃ =>
    wpAny (model X.prog X.w) X.A (handleBy e X.env (h₀ :: hds)) (SP X pins D) X.xe s₃) X.xe s₂) X.xe s₁) (fun u s' xx => ?_) PassesOwn.looking).run [] s σ H D (I.toTry _) h) (fun f s1 hsp => ?_) (fun e s1 he => he)
  · obtain ⟨a, B, sI, pins', σ', H', cls, d, rfl, J', nb, up, sky, na, os, ag, w⟩ := xx
    have J : Inv X pins σ' H' sI := J'.ofTry ok
    have sky' : Sky B (X.env :: X.outer) a (Zc cls d) X.env.locals s'.heap := by rw [← hs]; exact sky
    show wpAny (model X.prog X.w) X.A (noteFrame (.ref a) X.env) _ _ _
    refine Sky.land Zc.steady hfr hf sky' fun h3 fl3 up3 => ?_
    have J3 : Inv X pins σ' H' { s' with heap := h3 } := J.landed nb fl3.1 (up.trans up3) os ag
    obtain ⟨oe3, vs3, he3, hz3, hd3⟩ := fl3.there
    have notFr : ∀ {h : Heap} {o : Obj} {vs : Array Value}, h.FunFrames B (X.env :: X.outer) → h.get? a = some o → o.data = .fields vs → a ∉ frs (X.env :: X.outer) := fun {h o vs} ff e dd hm => by
      obtain ⟨_, o', e', hnf⟩ := ff.mem hm
      rw [e] at e'; cases e'
      exact hnf _ dd
    have nfr := notFr fl3.2.2.1 he3 hd3
    have nL : a ≠ X.env.locals := fun z => nfr (List.mem_filterMap.mpr ⟨X.env, List.mem_cons_self, by rw [hf, z]⟩)
    have nF : a ∉ X.fs := fun hm => by
      obtain ⟨e, he, q⟩ := List.mem_filterMap.mp hm
      exact nfr (List.mem_filterMap.mpr ⟨e, List.mem_cons_of_mem _ he, q⟩)
    have S3 := J3.suite he3 hd3 na nL nF
    have go : ∀ {hds' : List ExceptHandler} {l' : List HdA}, HdsAs X hds' l' → wAsM X.K Wout D l' cls d σ' H' →
        wpAny (model X.prog X.w) X.A (handleBy (.ref a) X.env hds') (SP X pins D) X.xe { s' with heap := h3 } := by
      intro hds' l' hk
      induction hk with
      | nil =>
        intro w
        refine wpAny_handleBy_nil ?_
        obtain ⟨k1, k2, k3, oe, vs, T, oT, ts', he, hz, hd, h1, hr⟩ := id fl3
        unfold PySem.passOn
        refine wpAny_bind (wpAny_field he hd h1 ?_)
        rw [if_neg (show ¬ ((Value.ref T == Value.none) = true) from by simp)]
        have fin : wpAny (model X.prog X.w) X.A (setFlight (.ref a) X.env.frame) (fun _ s4 => wpAny (model X.prog X.w) X.A (throw (.ref a) : Sem Flow) (SP X pins D) X.xe s4) X.xe { s' with heap := h3 } := by
          rw [hf]
          refine HandSPX.setFlight_upZ fl3 fun h4 hh4 up4 => wpAny_throw (tk _ _ ?_)
          exact ⟨a, B, sI, pins, σ', H', cls, d, rfl, J, nb, (up.trans up3).trans up4, .inr (.inr (by rw [hs]; exact hh4)), na, os, ag, w⟩
        first
          | exact wpAny_bind (wpAny_pure (wpAny_bind fin))
          | exact wpAny_bind fin
      | @cons x n c i ts b₀ suite np pos' hds2 l2 hi hln hc hsu r ih =>
        intro w
        obtain ⟨b, hb1, hyes, hno⟩ := w
        have hloc : Loc X.env.scope n := .inl hln
        refine wpAny_handleBy_cons (codeAny_handlers_test ?_) (by intro q; cases q)
        have LT : PySem.W.Looks (model X.prog X.w) h3 (typeOf (.ref a)) cls := fun A Q E s k q => wpAny_typeOf_ref (k _ _ he3) (by rw [hz3.1]; exact q)
        have LM := PySem.W.exm_one (M := model X.prog X.w) (J3.kIn) LT hb1
        have test : ∀ {Q : Value → Shared → Prop} {E : Value → Shared → Prop}, Q c { s' with heap := h3 } → wpAny (model X.prog X.w) (X.A.mark (some (.ref a))) (eval (.Name x np) X.env) Q E { s' with heap := h3 } := fun {Q E} q => by
          obtain ⟨hg, hdbg, hm | ⟨hm, hv, hnn⟩⟩ := hc
          · exact ld_glob (X := X.suite a ((a, oe3) :: (X.pn ++ pins))) S3 hg hm q hdbg
          · exact ld_blt (X := X.suite a ((a, oe3) :: (X.pn ++ pins))) S3 hg hm hv q hnn hdbg
        refine test (LM.here ?_)
        cases b with
        | true =>
          refine codeAny_handlers_suite_as ?_
          refine HandSPX.lands_againZ fl3 fun h4 fl4 up4 => ?_
          have J4 : Inv X pins σ' H' { s' with heap := h4 } := J.landed nb fl4.1 ((up.trans up3).trans up4) os ag
          obtain ⟨oe4, vs4, he4, hz4, hd4⟩ := fl4.there
          have S4 := J4.suite he4 hd4 na nL nF
          refine store_ok (X := X.suite a ((a, oe4) :: (X.pn ++ pins))) (v := .ref a) S4 hN hi hloc rfl (fun s5 S5 => ?_) (.inr hln)
          refine wpAny_mono ((hsu a oe4 cls d (X.pn ++ pins) hz4 ⟨_, hd4⟩).run [] s5 _ H' _ S5 (hyes rfl a na)) (fun f s6 hsp => ?_) (fun _ _ z => False.elim z)
          have end_ : ∀ {σ6 : L2.St} {H6 : Hp} {Q : Shared → Prop}, Inv (X.suite a ((a, oe4) :: (X.pn ++ pins))) [] σ6 H6 s6 → (∀ s7, Inv X pins (σ6.set i none) H6 s7 → Q s7) →
              wpAny (model X.prog X.w) X.A (do bindName X.env n .none; unbindBehindTheSuite X.env n pos') (fun _ s7 => Q s7) X.xe s6 := fun {σ6 H6 Q} S6 hq => gone_ok (S6.unsuite ok) hN hi hln hq
          cases f with
          | next =>
            obtain ⟨σ6, H6, S6, q6⟩ := hsp
            exact end_ S6 fun s7 J7 => ⟨_, _, J7, q6⟩
          | brk =>
            obtain ⟨σ6, H6, S6, q6⟩ := hsp
            exact end_ S6 fun s7 J7 => ⟨_, _, J7, q6⟩
          | cont =>
            obtain ⟨σ6, H6, S6, q6⟩ := hsp
            exact end_ S6 fun s7 J7 => ⟨_, _, J7, q6⟩
          | ret u =>
            obtain ⟨v6, σ6, H6, S6, r6, q6⟩ := hsp
            exact end_ S6 fun s7 J7 => ⟨_, _, _, J7, r6, q6⟩
        | false =>
          show wpAny _ X.A (handleBy (.ref a) X.env hds2) _ _ _
          exact ih (hno rfl)
    exact go hh w
  · cases f with
    | next =>
      obtain ⟨σ', H', J', q⟩ := hsp
      exact wpAny_execs_nil ⟨σ', H', J'.ofTry ok, q⟩
    | brk =>
      obtain ⟨σ', H', J', q⟩ := hsp
      exact ⟨σ', H', J'.ofTry ok, q⟩
    | cont =>
      obtain ⟨σ', H', J', q⟩ := hsp
      exact ⟨σ', H', J'.ofTry ok, q⟩
    | ret u =>
      obtain ⟨v, σ', H', J', r, q⟩ := hsp
      exact ⟨v, σ', H', J'.ofTry ok, r, q⟩
end
end KX
set_option Elab.async false
set_option linter.all false
set_option maxRecDepth 100000
set_option maxHeartbeats 4000000
/-! KEnum: enumerate(t), x in t for a tuple t. -/
namespace KEn
open PySem
open PySem.Sem (wp)
open AutoSeq1 (wpAny_loadPart')
theorem meets_enumT (l : Addr) (items : Array Value) (n : Nat) (dct : Option Addr) (sl : Array (Option Value)) :
    Meets (Builtin.«enumerate.__new__» ⟨[.type "enumerate", .ref l], []⟩) (fun _ R s => s.heap.get? l = some { cls := .type "tuple", dict := dct, data := .seq items n, slots := sl } ∧
      R (.ok (.ret (.ref (s.heap.push { cls := .type "tuple_iterator", data := .fields #[.ref l, .int 0 0] }).objs.size)))
        { s with heap := (s.heap.push { cls := .type "tuple_iterator", data := .fields #[.ref l, .int 0 0] }).push { cls := .type "enumerate", data := .fields #[.none, .bool false, .ref s.heap.objs.size, rawInt 0, .none, .none] } }) :=
  .of_wp fun prog w A R s h => by
    obtain ⟨hp, g, d, tk, os⟩ := s; obtain ⟨hl, h⟩ := h
    have hsub := sub_enumerate
    have hL : Heap.IsTuple (Shared.heap ⟨hp, g, d, tk, os⟩) l items := ⟨_, hl, rfl, n, rfl⟩
    wp_walk using wpAny_loadPart' hl
    refine wpAny_stack_any fun st => wpAny_pure ?_
    split
    · rename_i c _ _ _ _ _
      cases (c == Value.type "enumerate")
      · wp_walk using wpAny_loadPart' hl, wpAny_pyIter_tuple hL
        exact ⟨_, rfl, h⟩
      · wp_walk using wpAny_loadPart' hl, wpAny_pyIter_tuple hL
        exact ⟨_, rfl, h⟩
    · wp_walk using wpAny_loadPart' hl, wpAny_pyIter_tuple hL
      exact ⟨_, rfl, h⟩
section
variable {prog : Program} {w : World} {A : Around} {E : Value → Shared → Prop} {s : Shared}
theorem call_enumT {l : Addr} {items : Array Value} {Q : Value → Shared → Prop} (hL : s.heap.IsTuple l items)
    (h : ∀ h', IsEnum h' (s.heap.objs.size + 1) s.heap.objs.size 0 .none → h'.IsTupleIter s.heap.objs.size l 0 → h'.objs.size = s.heap.objs.size + 2 →
      (∀ b o, s.heap.get? b = some o → h'.get? b = some o) → Q (.ref (s.heap.objs.size + 1)) { s with heap := h' }) :
    wpAny (model prog w) A (call (.type "enumerate") [.ref l]) Q E s := by
  obtain ⟨⟨c, dct, dt, sl⟩, hl, hc, n, hd⟩ := hL
  replace hc : c = .type "tuple" := hc
  replace hd : dt = .seq items n := hd
  subst hc hd
  refine callType_new F.called_enumerate (by decide) (F.typeCall_enumerate_1 _) (F.newCall_enumerate_1 _) (fun obj => F.args_object_init_2 obj _) F.entry_enumerate_new
    (meets_enumT l items n dct sl) ⟨hl, ?_⟩
  have hz : (s.heap.push { cls := .type "tuple_iterator", data := .fields #[.ref l, .int 0 0] }).objs.size = s.heap.objs.size + 1 := Heap.size_push ..
  show _ ∧ _
  rw [hz]
  have he : IsEnum ((s.heap.push { cls := .type "tuple_iterator", data := .fields #[.ref l, .int 0 0] }).push
      { cls := .type "enumerate", data := .fields #[.none, .bool false, .ref s.heap.objs.size, rawInt 0, .none, .none] }) (s.heap.objs.size + 1) s.heap.objs.size 0 .none := by
    have := Heap.get?_push_size (s.heap.push { cls := .type "tuple_iterator", data := .fields #[.ref l, .int 0 0] })
      (o := { cls := .type "enumerate", data := .fields #[.none, .bool false, .ref s.heap.objs.size, rawInt 0, .none, .none] }) rfl
    rw [hz] at this; exact this
  refine ⟨⟨_, he, rfl⟩, h _ he ⟨_, Heap.get?_push_of_some _ (Heap.get?_push_size _ rfl), rfl, rfl⟩ (by rw [Heap.size_push, hz]) fun b o x => Heap.get?_push_of_some _ (Heap.get?_push_of_some _ x)⟩
theorem draws_tup (hA : A.handled = none) (it l : Addr) (items : Array Value) (hne : l ≠ it) : Draws prog w A it [it, l] items.size (fun i x => items[i]? = some x) (fun i h => h.IsTupleIter it l i ∧ h.IsTuple l items) where
  live := fun i h st => let ⟨⟨o, ho, _⟩, _⟩ := st; ⟨o, ho⟩
  frame := fun i h h' st hk => ⟨st.1.at fun o e => hk it (by simp) o e, st.2.at fun o e => hk l (by simp) o e⟩
  item := fun i s Q E hi st hQ => by
    refine RZ.nextOf_tuple_item st.1 st.2 (Array.getElem?_eq_getElem hi) fun h' hit hs => ?_
    exact hQ _ h' s.toks (Array.getElem?_eq_getElem hi) ⟨hit, st.2.at fun o e => hs.extBut l o hne e⟩ hs
  done := fun s Q E st hE => RZ.nextOf_tuple_end hA st.1 st.2 (Array.getElem?_eq_none (Nat.le_refl _)) hE
end
open PySem.Spec PyProof.Rows L2
/-- the tuple at a as it stands at each turn, each item in a new pair -/
def IteT (K : PySem.W.Frag) (a : Addr) : It :=
  ⟨fun i H => ∃ (xs : List V) (x : V), SqT K H a xs ∧ xs[i]? = some x, fun i H v H' => ∃ T x, v = .ref T ∧ H T = none ∧ H' = upd H T (.tup [.int (i : Nat), x]) ∧ ∀ xs, SqT K H a xs → xs[i]? = some x, fun i H => ∃ xs : List V, SqT K H a xs ∧ xs.length = i⟩
theorem turn_enumT {P : Program} {w : World} {K : PySem.W.Frag} {elts : List Expr} {kk : Nat} {tpos : Pos} (a e it : Addr) (hat : a ≠ it) (hae : a ≠ e) :
    Turn P w K (.Tuple elts kk tpos) (IteT K a) [e, it] e (fun i h => (∃ old, IsEnum h e it ((i : Nat) : Int) old) ∧ h.IsTupleIter it a i ∧ e ≠ it) where
  mem := by simp
  obj := fun i h st b hb => by
    obtain ⟨⟨old, he⟩, ⟨o, ho, hc, hd⟩, _⟩ := st
    have e' : b = e ∨ b = it := by simpa using hb
    rcases e' with z | z
    · rw [z]; exact ⟨_, he, fun v q => nomatch q⟩
    · rw [z]; exact ⟨o, ho, fun v q => by rw [hd] at q; cases q⟩
  keep := fun i h h' st k => let ⟨⟨old, he⟩, hi, hne⟩ := st; ⟨⟨old, k e (by simp) _ he⟩, hi.at fun o q => k it (by simp) o q, hne⟩
  item := by
    intro X hP hw hK hc i pins s σ H E I hf st hg
    subst hP hw hK
    obtain ⟨⟨old, he⟩, hit, hne⟩ := st
    obtain ⟨xs, x, hq, hx⟩ := hg
    obtain ⟨its, rv, p, hz⟩ := I.tuple hq
    obtain ⟨u, hu, ru⟩ := rv.get hx
    have hel : e < s.heap.objs.size := Heap.lt_size he
    have hil : it < s.heap.objs.size := by obtain ⟨_, q, _⟩ := hit; exact Heap.lt_size q
    have pT : s.heap.IsTuple a its.toArray := p
    have hilt : i < its.toArray.size := by
      have := (List.getElem?_eq_some_iff.mp hu).1
      simpa using this
    refine wpAny_pyNext_enum_itemD (draws_tup (A := X.A.in1) (I.ok.hd hc) it a its.toArray hat) he ⟨hit, pT⟩ hilt hne (by simp [hne, Ne.symm hae]) fun x' h' tk hP ho hst hT hsz hk => ?_
    have ex : x' = u := by
      have h1 : its[i]? = some x' := by simpa using hP
      rw [hu] at h1
      exact (Option.some.inj h1).symm
    subst ex
    refine ⟨_, rfl, wpAny_letOwnedTupleGo_enum (s := { s with heap := h', toks := tk + 1 }) ho fun h'' he' sb => ?_⟩
    have hT2 : h''.get? s.heap.objs.size = some { cls := .type "tuple", data := .seq #[.int i tk, x'] } := (sb.2 _ (Nat.ne_of_gt hel)).trans hT
    have new : ObjOk X.prog X.w (upd H s.heap.objs.size (.tup [.int (i : Nat), x])) h'' s.heap.objs.size (.tup [.int (i : Nat), x]) :=
      ⟨by show 2 ≤ sizeLine; decide, [.int i tk, x'], .cons ⟨_, rfl⟩ (.cons ru .nil), ⟨_, hT2, rfl, _, rfl⟩⟩
    have I1 : Inv X pins σ (upd H s.heap.objs.size (.tup [.int (i : Nat), x])) { s with heap := h'', toks := tk + 1 } :=
      I.turnedNew (ch := [e, it]) (fun b ob hb q => (sb.2 b (fun z => hb (by simp [z]))).trans (hk b ob (fun z => hb (by simp [z])) (fun z => hb (by simp [z])) q)) hf (Nat.le_refl _) new
    refine ⟨.ref s.heap.objs.size, _, I1, rfl, ⟨_, x, rfl, I.hok.fresh (Nat.le_refl _), rfl, fun ys hy => by rw [I.tuple_inj hy hq]; exact hx⟩, ⟨⟨x', ?_⟩, hst.1.at fun o q => (sb.2 it (Ne.symm hne)).trans q, hne⟩, fun b hb => ?_⟩
    · have e1 : ((i + 1 : Nat) : Int) = (i : Int) + 1 := by omega
      rw [e1]; exact he'
    · have hb' : b < s.heap.objs.size := by
        have e' : b = e ∨ b = it := by simpa using hb
        rcases e' with z | z
        · rw [z]; exact hel
        · rw [z]; exact hil
      rw [upd_ne (Nat.ne_of_lt hb')]
      exact (hf b hb).1
  done := by
    intro X hP hw hK hc i pins s σ H E I hf st hg
    subst hP hw hK
    obtain ⟨⟨old, he⟩, hit, hne⟩ := st
    obtain ⟨xs, hq, hx⟩ := hg
    obtain ⟨its, rv, p, hz⟩ := I.tuple hq
    obtain ⟨f0, f1, f2, f3, f4, f5⟩ := hf it (by simp)
    have hl := rv.length
    have pT : s.heap.IsTuple a its.toArray := p
    have en : i = its.toArray.size := by simp; omega
    refine wpAny_pyNext_enum_endD (draws_tup (A := X.A.in1) (I.ok.hd hc) it a its.toArray hat) he ⟨by rw [← en]; exact hit, pT⟩ fun h' eb => ⟨rfl, I.turned (t' := s.toks) (fun b o hb q => eb b o hb q) f0 f1 f3 f4 f5⟩
  self := fun A i s Q E st h => let ⟨⟨_, he⟩, _⟩ := st; wpAny_pyIter_enum he h
def iEnumT (K : PySem.W.Frag) (ta : TA) : TI := fun σ H R => ta σ H fun vs H1 => ∃ a xs, vs = [.ref a] ∧ SqT K H1 a xs ∧ R (IteT K a) H1
theorem pi_enumT {X : Cx} {e : Expr} {ta : TA} {p pos tpos : Pos} {elts : List Expr} {kk : Nat} (hg : Gl X "enumerate") (hm : X.mg "enumerate" = none) (ha : PA X [e] ta) (hs : starEach [e] X.env = [(false, eval e X.env)] := by rfl) :
    PI X (.Tuple elts kk tpos) (.Call (.Name "enumerate" p) [e] [] pos) (iEnumT X.K ta) := by
  refine ⟨fun pins s σ H R I h => ?_⟩
  refine Call_ (ld_blt I hg hm boot_enumerate (PyProof.Rows.callWith_type1 (thn (ha.run pos pins s σ H _ I h) fun us s1 ⟨vs, H1, I1, r1, q1⟩ => ?_) hs rfl))
  obtain ⟨a, xs, ex, hq, q⟩ := q1
  subst ex
  cases r1 with
  | cons r rr =>
    cases rr
    cases r
    obtain ⟨its, rv, p', hz⟩ := I1.tuple hq
    obtain ⟨oa, hoa, _⟩ := id p'
    have hlt := Heap.lt_size hoa
    refine call_enumT (show s1.heap.IsTuple a its.toArray from p') fun h' he hit hsz hk => wpAny_pyIter_enum he ?_
    have I2 : Inv X pins σ H1 { s1 with heap := h' } := I1.kept (t' := s1.toks) hk
    refine ⟨s1.heap.objs.size + 1, [s1.heap.objs.size + 1, s1.heap.objs.size], _, _, H1, rfl, I2, turn_enumT a (s1.heap.objs.size + 1) s1.heap.objs.size (Nat.ne_of_lt hlt) (Nat.ne_of_lt (Nat.lt_succ_of_lt hlt)), ⟨⟨.none, he⟩, hit, Nat.succ_ne_self _⟩, fun b hb => ?_, q⟩
    have e' : b = s1.heap.objs.size + 1 ∨ b = s1.heap.objs.size := by simpa using hb
    have hle : s1.heap.objs.size ≤ b := by
      rcases e' with z | z
      · rw [z]; exact Nat.le_add_right _ _
      · rw [z]; exact Nat.le_refl _
    exact I1.fpOk hle (I1.hok.fresh hle)
/-- a loop over enumerate of a list, of a tuple -/
theorem for_enumL {K : PySem.W.Frag} {a : Addr} {xs : List V} {g : TG} {tb : TS} {D : Ends} {σ : L2.St} {H : Hp} (Pv : Nat → L2.St → Hp → Prop) (h0 : Pv 0 σ H) (hq : ∀ i σ H, Pv i σ H → SqL K H a xs)
    (hs : ∀ (i : Nat) (x : V) (T : Addr) (σ : L2.St) (H : Hp), xs[i]? = some x → Pv i σ H → H T = none → g (.ref T) σ (upd H T (.tup [.int (i : Nat), x])) fun σ2 H2 => tb { D with nx := Pv (i + 1), ct := Pv (i + 1), bk := D.nx } σ2 H2) (hd : ∀ σ H, Pv xs.length σ H → D.nx σ H) :
    ∃ W : Nat → Nat → L2.St → Hp → Prop, (∃ m, W 0 m σ H) ∧ ∀ i m σ H, W i m σ H →
      ((Ite K a).stop i H ∧ D.nx σ H) ∨ ((Ite K a).go i H ∧ ∃ N : L2.St → Hp → Prop, (∀ σ' H', N σ' H' → ∃ m', m' < m ∧ W (i + 1) m' σ' H') ∧ ∀ v H', (Ite K a).yld i H v H' → g v σ H' fun σ2 H2 => tb { D with nx := N, ct := N, bk := D.nx } σ2 H2) := by
  refine ⟨fun i m σ H => m = xs.length - i ∧ i ≤ xs.length ∧ Pv i σ H, ⟨xs.length, rfl, Nat.zero_le _, h0⟩, ?_⟩
  rintro i m σ H ⟨rfl, hi, p⟩
  have qx := hq i σ H p
  by_cases hlt : i < xs.length
  · have hx : xs[i]? = some xs[i] := List.getElem?_eq_getElem hlt
    refine .inr ⟨⟨xs, _, qx, hx⟩, Pv (i + 1), fun σ' H' p' => ⟨xs.length - (i + 1), by omega, rfl, hlt, p'⟩, fun v H' y => ?_⟩
    obtain ⟨T, x', rfl, hT, rfl, f1⟩ := y
    exact hs i x' T σ H (f1 xs qx) p hT
  · have e : i = xs.length := by omega
    subst e
    exact .inl ⟨⟨xs, qx, Nat.le_refl _⟩, hd σ H p⟩
theorem for_enumT {K : PySem.W.Frag} {a : Addr} {xs : List V} {g : TG} {tb : TS} {D : Ends} {σ : L2.St} {H : Hp} (Pv : Nat → L2.St → Hp → Prop) (h0 : Pv 0 σ H) (hq : ∀ i σ H, Pv i σ H → SqT K H a xs)
    (hs : ∀ (i : Nat) (x : V) (T : Addr) (σ : L2.St) (H : Hp), xs[i]? = some x → Pv i σ H → H T = none → g (.ref T) σ (upd H T (.tup [.int (i : Nat), x])) fun σ2 H2 => tb { D with nx := Pv (i + 1), ct := Pv (i + 1), bk := D.nx } σ2 H2) (hd : ∀ σ H, Pv xs.length σ H → D.nx σ H) :
    ∃ W : Nat → Nat → L2.St → Hp → Prop, (∃ m, W 0 m σ H) ∧ ∀ i m σ H, W i m σ H →
      ((IteT K a).stop i H ∧ D.nx σ H) ∨ ((IteT K a).go i H ∧ ∃ N : L2.St → Hp → Prop, (∀ σ' H', N σ' H' → ∃ m', m' < m ∧ W (i + 1) m' σ' H') ∧ ∀ v H', (IteT K a).yld i H v H' → g v σ H' fun σ2 H2 => tb { D with nx := N, ct := N, bk := D.nx } σ2 H2) := by
  refine ⟨fun i m σ H => m = xs.length - i ∧ i ≤ xs.length ∧ Pv i σ H, ⟨xs.length, rfl, Nat.zero_le _, h0⟩, ?_⟩
  rintro i m σ H ⟨rfl, hi, p⟩
  have qx := hq i σ H p
  by_cases hlt : i < xs.length
  · have hx : xs[i]? = some xs[i] := List.getElem?_eq_getElem hlt
    refine .inr ⟨⟨xs, _, qx, hx⟩, Pv (i + 1), fun σ' H' p' => ⟨xs.length - (i + 1), by omega, rfl, hlt, p'⟩, fun v H' y => ?_⟩
    obtain ⟨T, x', rfl, hT, rfl, f1⟩ := y
    exact hs i x' T σ H (f1 xs qx) p hT
  · have e : i = xs.length := by omega
    subst e
    exact .inl ⟨⟨xs, qx, rfl⟩, hd σ H p⟩
/-! x in t, t a tuple of data -/
section
variable {X : Cx}
def rInDT (K : PySem.W.Frag) : R2 := fun x y H Q => ∃ d ds, Dp K H x d ∧ Dp K H y (.tuple ds) ∧ SeqAt.shaped d = true ∧ SeqAt.shaped (.tuple ds) = true ∧ Q (.bl (ds.any fun z => PyData.eqv z d)) H
theorem op_inDT (hu : X.A.units + 65 < cLine) : OpR X (compareOp .In) (rInDT X.K) := by
  intro pins s σ H x y v u Q I rx ry h
  obtain ⟨d, ds, hd, he, sd, se, q⟩ := h
  obtain ⟨as, r1⟩ := Dp.reads I d x v hd rx
  obtain ⟨bs, r2⟩ := Dp.reads I (.tuple ds) y u he ry
  exact SeqAt.in_tuple_reads r2 r1 (SeqAt.canLay_of_shaped se) (SeqAt.canLay_of_shaped sd) (room_in_shaped sd hu) ⟨.bl _, H, I, rfl, q⟩
end
/-- a comprehension over a text -/
theorem lc_str {x : Str} {g : TG} {tt : TT} {te : TE} {vs : List Nat} {σ : L2.St} {H1 : Hp} {D : Addr} {Qd : Hp → Prop} (Pv : Nat → Hp → Prop) (h0 : Pv 0 (upd H1 D (.lst [])))
    (hs : ∀ i c H, x.cps[i]? = some c → Pv i H → g (.str ⟨#[c]⟩) (wipe σ vs) H fun σ2 H2 => wipe σ2 vs = wipe σ vs ∧ tt σ2 H2 fun b H3 =>
      if b = true then te σ2 H3 fun y H4 => ∃ acc, H4 D = some (.lst acc) ∧ acc.length < sizeLine ∧ Pv (i + 1) (upd H4 D (.lst (acc ++ [y]))) else Pv (i + 1) H3) (hd : ∀ H, Pv x.cps.size H → Qd H) :
    ∃ W : Nat → Nat → Hp → Prop, (∃ m, W 0 m (upd H1 D (.lst []))) ∧ ∀ i m H, W i m H →
      ((Its x).stop i H ∧ Qd H) ∨ ((Its x).go i H ∧ ∃ Nx : Hp → Prop, (∀ H', Nx H' → ∃ m', m' < m ∧ W (i + 1) m' H') ∧ ∀ v H', (Its x).yld i H v H' → g v (wipe σ vs) H' fun σ2 H2 => wipe σ2 vs = wipe σ vs ∧ tt σ2 H2 fun b H3 =>
        if b = true then te σ2 H3 fun y H4 => ∃ acc, H4 D = some (.lst acc) ∧ acc.length < sizeLine ∧ Nx (upd H4 D (.lst (acc ++ [y]))) else Nx H3) := by
  refine ⟨fun i m H => m = x.cps.size - i ∧ i ≤ x.cps.size ∧ Pv i H, ⟨x.cps.size, by simp, Nat.zero_le _, h0⟩, ?_⟩
  rintro i m H ⟨rfl, hi, p⟩
  by_cases hlt : i < x.cps.size
  · refine .inr ⟨hlt, Pv (i + 1), fun H' p' => ⟨x.cps.size - (i + 1), by omega, rfl, hlt, p'⟩, fun v H' y => ?_⟩
    obtain ⟨rfl, c, hc, rfl⟩ := y
    exact hs i c H' hc p
  · have e : i = x.cps.size := by omega
    subst e
    exact .inl ⟨Nat.le_refl _, hd H p⟩
end KEn
set_option Elab.async false
set_option linter.all false
set_option maxRecDepth 100000
set_option maxHeartbeats 1000000
/-! KOwn: len(o), x not in o, o[i] for an own class with __len__, __contains__, __getitem__. -/
namespace KO
open PySem PySem.Spec PyProof.Rows L2
section
variable {X : Cx} {pins : List (Addr × Obj)} {σ : L2.St} {H : Hp} {s : Shared} {CX : CXT} {k : Nat} {f C : Addr} {fd : FuncData} {ps : List Str} {sp : Sp} {E : XK}
theorem run_fn1 {Q : VK} {us : List Value} {vs : List V} (F : FnOk X.prog X.w X.K X.mg X.base CX k f fd ps sp) (hr : Room (k + 1) X.A) (hb : Binds X.K fd ps []) (hx : Passes CX X E)
    (I : Inv X pins σ H s) (r : Vals vs us) (h : sp vs H Q E) : wpAny (model X.prog X.w) X.A.in1 (call (.ref f) us) (EP X pins σ Q) X.xe s := by
  have hl : us.length = ps.length := by rw [← r.length]; exact F.len _ _ _ _ h
  have b := hb s us I.kIn (by rw [List.append_nil]; exact hl)
  rw [List.append_nil] at b
  refine wpAny_call (codeAny_mono (F.run X.A.in1 X.stack s H ⟨us, []⟩ us vs Q E hr.in1 I.env0.in1 b r h) fun r s' hq => ?_)
  cases r with
  | error e => exact hx pins σ H s e s' I hq
  | ok fl =>
    cases fl with
    | ret u => exact I.after hq
    | next => exact False.elim hq
    | brk => exact False.elim hq
    | cont => exact False.elim hq
theorem run_fn0 {Q : VK} {us : List Value} {vs : List V} (F : FnOk X.prog X.w X.K X.mg X.base CX k f fd ps sp) (hr : Room k X.A) (hb : Binds X.K fd ps []) (hx : Passes CX X E)
    (I : Inv X pins σ H s) (r : Vals vs us) (h : sp vs H Q E) : wpAny (model X.prog X.w) X.A (call (.ref f) us) (EP X pins σ Q) X.xe s := by
  have := run_fn (ds := []) (dvs := []) F hr hb .nil hx I r (by rw [List.append_nil]; exact h)
  exact this
theorem inst_at {a dx : Addr} {fs : List (Str × V)} (I : Inv X pins σ H s) (ha : H a = some (.ins C dx fs)) : ∃ ox od, PySem.W.InstAt s.heap a ox C od := by
  obtain ⟨mA, J, _⟩ := ins_get I.hok ha
  obtain ⟨od, J, _⟩ := J.look
  exact ⟨_, _, J⟩
def rLenO (C : Addr) (sp : Sp) (E : XK) : List V → Hp → VK → Prop := fun xs H Q => ∃ a dx fs, xs = [.ref a] ∧ H a = some (.ins C dx fs) ∧ sp [.ref a] H (fun v H' => ∃ n : Int, v = .int n ∧ (0 ≤ n ∧ n < 2 ^ 63) ∧ Q (.int n) H') E
theorem call_lenO (F : FnOk X.prog X.w X.K X.mg X.base CX k f fd ps sp) (m : Meth X.K C "__len__" f) (hr : Room (k + 1) X.A) (hb : Binds X.K fd ps []) (hx : Passes CX X E) : CallR X (.builtin "len") (rLenO C sp E) := by
  intro pins s σ H xs us Q I r h
  obtain ⟨a, dx, fs, rfl, ha, q⟩ := h
  obtain ⟨u, rfl, ru⟩ := vals1 r
  obtain rfl : u = Value.ref a := ru
  obtain ⟨ox, od, J⟩ := inst_at I ha
  obtain ⟨m', fr⟩ := I.fr
  refine PySem.W.len_K fr I.ok.mod.kin J m.at_ m.fn (wpAny_mono (run_fn1 F hr hb hx I (vs := [.ref a]) (.cons rfl .nil) q) (fun v s' hv => ?_) fun _ _ z => z)
  obtain ⟨x, H', I', rx, n, rfl, hn, q'⟩ := hv
  obtain ⟨t, rfl⟩ : ∃ t, v = Value.int n t := rx
  exact ⟨hn, .int n, H', I'.tok _, ⟨_, rfl⟩, q'⟩
def rNotInO (C : Addr) (sp : Sp) (E : XK) : R2 := fun x y H Q => ∃ a dx fs, y = .ref a ∧ H a = some (.ins C dx fs) ∧ sp [.ref a, x] H (fun v H' => ∃ b, v = .bl b ∧ Q (.bl (!b)) H') E
theorem op_notInO (F : FnOk X.prog X.w X.K X.mg X.base CX k f fd ps sp) (m : Meth X.K C "__contains__" f) (hr : Room k X.A) (hb : Binds X.K fd ps []) (hx : Passes CX X E) : OpR X (compareOp .NotIn) (rNotInO C sp E) := by
  intro pins s σ H x y v u Q I rx ry h
  obtain ⟨a, dx, fs, rfl, ha, q⟩ := h
  obtain rfl : u = Value.ref a := ry
  obtain ⟨ox, od, J⟩ := inst_at I ha
  obtain ⟨m', fr⟩ := I.fr
  refine PySem.W.notIn_K fr I.ok.mod.kin J m.at_ m.fn (wpAny_mono (run_fn0 F hr hb hx I (vs := [.ref a, x]) (.cons rfl (.cons rx .nil)) q) (fun v s' hv => ?_) fun _ _ z => z)
  obtain ⟨z, H', I', rz, b, rfl, q'⟩ := hv
  obtain rfl : v = Value.bool b := rz
  exact wpAny_truthy_bool ⟨.bl (!b), H', I', rfl, q'⟩
def tSubO (C : Addr) (sp : Sp) (E : XK) (ta tb : TE) : TE := fun σ H Q => ta σ H fun x H1 => tb σ H1 fun y H2 => ∃ a dx fs, x = .ref a ∧ H2 a = some (.ins C dx fs) ∧ sp [.ref a, y] H2 Q E
theorem pe_subO {o : Expr} {y : Str} {ta tb : TE} {pos p : Pos} (F : FnOk X.prog X.w X.K X.mg X.base CX k f fd ps sp) (m : Meth X.K C "__getitem__" f) (hfn : PySem.W.fnIn X.K f = true) (hr : Room (k + 1) X.A) (hb : Binds X.K fd ps []) (hx : Passes CX X E)
    (ha : PE X o ta) (hi : PE X (.Name y p) tb) : PE X (.Subscript o (.Name y p) pos) (tSubO C sp E ta tb) := by
  refine ⟨fun pins s σ H Q I h => ?_⟩
  refine Subscript_ (binT ha hi I (R := fun x y H2 => ∃ a dx fs, x = .ref a ∧ H2 a = some (.ins C dx fs) ∧ sp [.ref a, y] H2 Q E) h fun v u s2 x y H2 I2 rx ry q => ?_)
  obtain ⟨a, dx, fs, rfl, ha, q⟩ := q
  obtain rfl : v = Value.ref a := rx
  obtain ⟨ox, od, J⟩ := inst_at I2 ha
  obtain ⟨m', fr⟩ := I2.fr
  exact PySem.W.sub_K fr I2.ok.mod.kin J m.at_ hfn m.fn (run_fn1 F hr hb hx I2 (vs := [.ref a, y]) (.cons rfl (.cons ry .nil)) q)
end
end KO
set_option Elab.async false
set_option linter.all false
set_option maxRecDepth 100000
set_option maxHeartbeats 2000000
/-! KTup0: t == (), t a tuple of anything. -/
namespace KT
open PySem
open PySem.Sem (wp)
open AutoSeq1 (wpAny_loadPart')
section
variable {prog : Program} {w : World} {A : Around} {R : Result → Shared → Prop}
theorem tuple_eq0 (l b : Addr) (items : Array Value) (n n2 : Nat) (dd dd2 : Option Addr) (sl sl2 : Array (Option Value))
    {s : Shared} (hl1 : s.heap.get? l = some { cls := .type "tuple", dict := dd, data := .seq items n, slots := sl }) (hb1 : s.heap.get? b = some { cls := .type "tuple", dict := dd2, data := .seq #[] n2, slots := sl2 }) (fin : R (.ok (.ret (.bool (items.size == 0)))) s) :
    wpAny (model prog w) A.in1 (Builtin.«tuple.__eq__» ⟨[.ref l, .ref b], []⟩) (GQ.FinOf prog w A R) (fun e s' => R (.error e) s') s := by
  have f2 := AutoSeq1.sub_tuple_tuple
  have hZ : items.toList.zip (#[] : Array Value).toList = [] := by simp
  obtain ⟨hp, g, d, tk, os⟩ := s
  wp_walk using wpAny_loadPart' hl1, wpAny_loadPart' hb1, wpAny_forIn_list _ (fun rest b s' => b.1 = none ∧ rest = [] ∧ s' = ⟨hp, g, d, tk, os⟩) _
  case turn =>
    rintro ⟨y, x⟩ rest b s' ⟨hb', hz, hI⟩
    cases hz
  case fin =>
    rintro ⟨b1, b2⟩ s' ⟨hb', hz, hI⟩
    simp only at hb'
    subst hb' hI
    wp_walk
    simpa [Builtin.Tuple.tupleCompareSizes] using fin
  case h =>
    exact ⟨rfl, hZ, rfl⟩
end
section
variable {prog : Program} {w : World} {A : Around} {E : Value → Shared → Prop} {s : Shared}
theorem rc_tup0 {l b : Addr} {items : Array Value} {Q : Value → Shared → Prop} (hu : A.units < cLine) (hl : s.heap.IsTuple l items) (hb : s.heap.IsTuple b #[]) (fin : Q (.bool (items.size == 0)) s) : wpAny (model prog w) A (richCompare .Eq (.ref l) (.ref b)) Q E s := by
  obtain ⟨⟨cls, dd, data, sl⟩, ho, hc, n, hd⟩ := id hl
  obtain ⟨⟨cls2, dd2, data2, sl2⟩, ho2, hc2, n2, hd2⟩ := id hb
  simp only at hc hd hc2 hd2
  subst hc hd hc2 hd2
  refine wpAny_richCompare_same_room (op := .Eq) ⟨_, ho, rfl⟩ ⟨_, ho2, rfl⟩ F.slot_tuple_eq (GQ.call_here F.slot_tuple_eq ⟨_, ho, rfl⟩ F.entry_tuple_eq (F.args_tuple_eq_2 _ _) ?_) hu
  exact tuple_eq0 (R := wants (fun v s' => v ≠ .notImplemented ∧ Q v s') E) l b items n n2 dd dd2 sl sl2 ho ho2 ⟨(fun x => nomatch x), fin⟩
end
open PySem.Spec PyProof.Rows L2
section
variable {X : Cx}
def rEqT0 (K : PySem.W.Frag) : R2 := fun x y H Q => ∃ a b xs, x = .ref a ∧ y = .ref b ∧ SqT K H a xs ∧ SqT K H b [] ∧ Q (.bl (xs.length == 0)) H
theorem op_eqT0 (hu : X.A.units < cLine) : OpR X (compareOp .Eq) (rEqT0 X.K) := by
  intro pins s σ H x y v u Q I rx ry hq
  obtain ⟨a, b, xs, rfl, rfl, ha, hb, q⟩ := hq
  cases rx
  cases ry
  show wpAny (model X.prog X.w) X.A (richCompare .Eq (.ref a) (.ref b)) (EP X pins σ Q) X.xe s
  obtain ⟨its, r, e, z⟩ := I.tuple ha
  obtain ⟨its2, r2, e2, z2⟩ := I.tuple hb
  cases r2
  refine rc_tup0 hu (show s.heap.IsTuple a its.toArray from e) (show s.heap.IsTuple b #[] from e2) ⟨.bl (xs.length == 0), H, I, ?_, q⟩
  show Value.bool (its.toArray.size == 0) = Value.bool (xs.length == 0)
  rw [List.size_toArray, r.length]
end
end KT
set_option Elab.async false
set_option linter.all false
set_option maxRecDepth 100000
/-! K0: the text by places; the data. -/
namespace CT
open PySem L2
def top (i : Nat) : Stmt := PySem.Challenge.pw_cutofftills_k70_whole_attempts.main.body.getD i (.Pass ⟨0, 0, 0, 0⟩)
abbrev sIsInteger : Stmt := top 17
abbrev sIsBetween : Stmt := top 18
abbrev sIsName : Stmt := top 19
abbrev sHasKind : Stmt := top 20
abbrev sIsMemory : Stmt := top 21
abbrev sTillInit : Stmt := inClass (top 23) 0
abbrev sTillEq : Stmt := inClass (top 23) 1
abbrev sCheckedTills : Stmt := top 26
abbrev sIsLink : Stmt := top 27
abbrev sCheckedLinks : Stmt := top 28
abbrev sCheckParts : Stmt := top 29
abbrev sTownInit : Stmt := inClass (top 30) 0
abbrev sTownContains : Stmt := inClass (top 30) 3
abbrev sTownGet : Stmt := inClass (top 30) 4
abbrev sTownEq : Stmt := inClass (top 30) 5
abbrev sTownNames : Stmt := inClass (top 30) 6
abbrev sTownSeat : Stmt := inClass (top 30) 7
abbrev sTownMade : Stmt := inClass (top 30) 9
abbrev sTownParts : Stmt := inClass (top 30) 10
abbrev sTownWith : Stmt := inClass (top 30) 11
abbrev sTownChanged : Stmt := inClass (top 30) 13
abbrev sSessInit : Stmt := inClass (top 32) 0
abbrev sSessCurrent : Stmt := inClass (top 32) 1
abbrev sSessLen : Stmt := inClass (top 32) 2
abbrev sSessGoOn : Stmt := inClass (top 32) 3
abbrev sSessPut : Stmt := inClass (top 32) 4
abbrev sSessAssign : Stmt := inClass (top 32) 5
abbrev sSessUndo : Stmt := inClass (top 32) 9
abbrev sSessTrial : Stmt := inClass (top 32) 10
abbrev sSessAttempt : Stmt := inClass (top 32) 11
abbrev sTrialInit : Stmt := inClass (top 33) 0
abbrev sTrialEnter : Stmt := inClass (top 33) 1
abbrev sTrialExit : Stmt := inClass (top 33) 2
abbrev sBadPartInit : Stmt := inClass (top 5) 0
abbrev sNothingInit : Stmt := inClass (top 9) 0
abbrev sPool : Stmt := top 35
abbrev sDraw : Stmt := top 36
abbrev sPick : Stmt := top 37
abbrev sNames : Stmt := top 38
abbrev sPlan : Stmt := top 39
abbrev sMade : Stmt := top 40
abbrev sState : Stmt := top 41
abbrev sVisit : Stmt := top 42
abbrev sUndoing : Stmt := top 43
abbrev sRaising : Stmt := top 44
abbrev sInner : Stmt := top 45
abbrev sRefused : Stmt := top 46
abbrev sEmptied : Stmt := top 47
abbrev sLaw : Stmt := top 48
/-- built-in names that the program's modules do not shade -/
structure Bl (mg : Str → Option Value) : Prop where
  isinstance : mg "isinstance" = none
  int : mg "int" = none
  bool : mg "bool" = none
  str : mg "str" = none
  len : mg "len" = none
  all : mg "all" = none
  any : mg "any" = none
  tuple : mg "tuple" = none
  list : mg "list" = none
  sorted : mg "sorted" = none
  enumerate : mg "enumerate" = none
  dict : mg "dict" = none
  zip : mg "zip" = none
  range : mg "range" = none
  max : mg "max" = none
  min : mg "min" = none
  sum : mg "sum" = none
  abs : mg "abs" = none
/-- the constants of the module words -/
structure Cn (mg : Str → Option Value) : Prop where
  letters : ∃ t, mg "LETTERS" = some (.str "abcdefghijklmnopqrstuvwxyz" t)
  mostLetters : ∃ t, mg "MOST_LETTERS" = some (.int 8 t)
  mostLimit : ∃ t, mg "MOST_LIMIT" = some (.int 9 t)
  mostMoney : ∃ t, mg "MOST_MONEY" = some (.int 9 t)
  mostTops : ∃ t, mg "MOST_TOPS" = some (.int 5 t)
  mostTills : ∃ t, mg "MOST_TILLS" = some (.int 4 t)
/-- a def of the module that is called by its name -/
structure Dn (K : PySem.W.Frag) (mg : Str → Option Value) (x : Str) (f : Addr) (fd : FuncData) (ps : List Str) : Prop where
  m : mg x = some (.ref f)
  k : PySem.W.keepIn K (.ref f) = true
  b : Binds K fd ps []
/-- a method that is called -/
structure Mn (K : PySem.W.Frag) (C : Addr) (x : Str) (f : Addr) (fd : FuncData) (ps : List Str) : Prop where
  m : Meth K C x f
  b : Binds K fd ps []
/-- a turn of a comprehension without tests -/
theorem yesT {σ : L2.St} {H : Hp} {A B : Hp → Prop} (h : A H) : tYes σ H fun b H3 => if b = true then A H3 else B H3 := by
  show (if true = true then A H else B H)
  exact iteT h
abbrev letters : Str := "abcdefghijklmnopqrstuvwxyz"
def GoodN (z : Str) : Prop := 1 ≤ z.cps.size ∧ z.cps.size ≤ 8 ∧ ∀ c ∈ z.cps.toList, c ∈ letters.cps.toList
structure TillD where
  name : Str
  limit : Int
  heeds : Bool
def GoodT (t : TillD) : Prop := GoodN t.name ∧ 0 ≤ t.limit ∧ t.limit ≤ 9
def tf (t : TillD) : List (Str × V) := [("name", .str t.name), ("limit", .int t.limit), ("heeds", .bl t.heeds)]
def TillAt (C : Addr) (H : Hp) (p : Addr) (t : TillD) : Prop := ∃ dx, H p = some (.ins C dx (tf t))
def MemIs (xs : List V) : Prop := xs = [.str "nothing"] ∨ ∃ (k : Str) (n : Int), (k = "times" ∨ k = "sum") ∧ 0 ≤ n ∧ n ≤ 9 ∧ xs = [.str k, .int n]
end CT
set_option Elab.async false
set_option linter.all false
set_option maxRecDepth 100000
set_option maxHeartbeats 4000000
/-! W1: words.py -/
namespace CT
open PySem L2
section
variable {P : Program} {w : World} {K : PySem.W.Frag} {mg : Str → Option Value} {base : Heap}
def spIsInteger : Sp := fun vs H Q _ => ∃ i : Int, vs = [.int i] ∧ Q (.bl true) H
theorem scIsInteger : FnScope ["value"] ["value"] (defScope sIsInteger) := ⟨rfl, rfl, rfl, by decide +kernel, rfl, by decide +kernel, by decide +kernel⟩
theorem ok_isInteger {f : Addr} {fd : FuncData} (F : Fun K "is_integer" "is_integer" sIsInteger f fd) (B : Bl mg) : FnOk P w K mg base CX0 1 f fd ["value"] spIsInteger := by
  refine F.ok scIsInteger (fun vs H Q E h => ?_) (fun cdv A outer s H vs Q E hr h => ?_)
  · obtain ⟨i, rfl, _⟩ := h
    rfl
  · obtain ⟨i, rfl, q⟩ := h
    refine ⟨_, pss_one (ps_ret (pe_and (pe_callB call_isi (by rfl) B.isinstance (by decide +kernel) (pa_cons (pv 0) (pa_cons (pe_bltn (v := .ty "int") (by rfl) B.int (by decide +kernel) rfl) pa_nil)))
      (pe_one (pe_not (pe_callB call_isi (by rfl) B.isinstance (by decide +kernel) (pa_cons (pv 0) (pa_cons (pe_bltn (v := .ty "bool") (by rfl) B.bool (by decide +kernel) rfl) pa_nil))))))), ?_⟩
    refine ⟨_, rfl, _, _, _, _, true, rfl, .ty "int", .base (.int i), kit_ty (by decide +kernel), true, rfl, iteT ?_⟩
    exact ⟨_, rfl, _, _, _, _, false, rfl, .ty "bool", .base (.int i), kit_ty (by decide +kernel), false, rfl, q⟩
def spIsBetween : Sp := fun vs H Q _ => ∃ v a b : Int, vs = [.int v, .int a, .int b] ∧ Q (.bl (decide (a ≤ v ∧ v ≤ b))) H
theorem scIsBetween : FnScope ["value", "least", "most"] ["value", "least", "most"] (defScope sIsBetween) := ⟨rfl, rfl, rfl, by decide +kernel, rfl, by decide +kernel, by decide +kernel⟩
theorem ok_isBetween {f fI : Addr} {fd fdI : FuncData} (F : Fun K "is_between" "is_between" sIsBetween f fd) (GI : FnOk P w K mg base CX0 1 fI fdI ["value"] spIsInteger) (dI : Dn K mg "is_integer" fI fdI ["value"]) : FnOk P w K mg base CX0 2 f fd ["value", "least", "most"] spIsBetween := by
  refine F.ok scIsBetween (fun vs H Q E h => ?_) (fun cdv A outer s H vs Q E hr h => ?_)
  · obtain ⟨v, a, b, rfl, _⟩ := h
    rfl
  · obtain ⟨v, a, b, rfl, q⟩ := h
    refine ⟨_, pss_one (ps_ret (pe_and (pe_call GI hr (by rfl) dI.m dI.k dI.b .nil pass0 (pa_cons (pv 0) pa_nil)) (pe_one (pe_chain op_le op_le (pv 1) (pv 0) (pv 2))))), ?_⟩
    refine ⟨_, rfl, v, rfl, true, rfl, iteT ?_⟩
    refine ⟨_, rfl, _, rfl, _, _, rfl, rfl, _, rfl, ?_⟩
    refine ite2 (fun h => ?_) (fun h => ?_)
    · refine ⟨_, rfl, _, _, rfl, rfl, ?_⟩
      have e : decide (a ≤ v ∧ v ≤ b) = decide (v ≤ b) := by
        have h' : a ≤ v := of_decide_eq_true h
        simp [h']
      rw [e] at q
      exact q
    · have e : decide (a ≤ v ∧ v ≤ b) = false := decide_eq_false fun ⟨z, _⟩ => h (decide_eq_true z)
      rw [e] at q
      exact q
def spIsName : Sp := fun vs H Q _ => ∃ z : Str, vs = [.str z] ∧ GoodN z ∧ ∀ H', Same H H' → Q (.bl true) H'
theorem scIsName : FnScope ["value", "sign"] ["value"] (defScope sIsName) := ⟨rfl, rfl, rfl, by decide +kernel, rfl, by decide +kernel, by decide +kernel⟩
theorem ok_isName {f : Addr} {fd : FuncData} (F : Fun K "is_name" "is_name" sIsName f fd) (B : Bl mg) (C : Cn mg) : FnOk P w K mg base CX0 1 f fd ["value"] spIsName := by
  obtain ⟨t1, m1⟩ := C.letters
  obtain ⟨t2, m2⟩ := C.mostLetters
  refine F.ok scIsName (fun vs H Q E h => ?_) (fun cdv A outer s H vs Q E hr h => ?_)
  · obtain ⟨z, rfl, _⟩ := h
    rfl
  · obtain ⟨z, rfl, ⟨g1, g2, g3⟩, q⟩ := h
    refine ⟨_, pss_one (ps_ret (pe_and (pe_callB call_isi (by rfl) B.isinstance (by decide +kernel) (pa_cons (pv 0) (pa_cons (pe_bltn (v := .ty "str") (by rfl) B.str (by decide +kernel) rfl) pa_nil)))
      (pe_and (pe_chain op_le op_le pe_int (pe_callB call_len_str (by rfl) B.len PySem.boot_len (pa_cons (pv 0) pa_nil)) (pe_glob (v := .int 8) (by rfl) m2 ⟨_, rfl⟩))
      (pe_one (pe_callB (cr_all rfl) (by rfl) B.all (by decide +kernel) (pa_cons
        (pe_lc (own := [("sign", 1)]) (g := gName 1) (by rfl) scIsName.nd (pi_str (pv 0)) (blkOk_by (own := [("sign", 1)]) (N := ["value", "sign"]) (sc := defScope sIsName) (by decide +kernel))
          (fun _ _ _ _ _ => pg_name (i := 1) scIsName.nd rfl (Or.inl rfl)) (fun _ _ _ _ _ => pts_nil) (fun _ _ _ _ _ => pe_cmpR op_in_sign (pv 1) (pe_glob (v := .str letters) (by rfl) m1 ⟨_, rfl⟩) (by rfl))) pa_nil)))))), ?_⟩
    have hs : sizeLine = 16777216 := sizeLine_eq
    refine ⟨_, rfl, _, _, _, _, true, rfl, .ty "str", .base (.str z), kit_ty (by decide +kernel), true, rfl, iteT ?_⟩
    refine ⟨_, rfl, _, rfl, (by show z.cps.size ≤ _; omega), _, _, rfl, rfl, _, rfl, ?_⟩
    have e1 : decide ((1 : Int) ≤ ((z.length : Nat) : Int)) = true := decide_eq_true (by show (1 : Int) ≤ ((z.cps.size : Nat) : Int); omega)
    rw [e1]
    refine iteT ⟨_, _, rfl, rfl, _, rfl, ?_⟩
    have e2 : decide (((z.length : Nat) : Int) ≤ 8) = true := decide_eq_true (by show ((z.cps.size : Nat) : Int) ≤ 8; omega)
    rw [e2]
    refine iteT ?_
    refine ⟨_, rfl, z, rfl, fun D hD => KEn.lc_str (fun i H' => H' = upd H D (.lst ((List.replicate i (V.bl true))))) rfl ?_ ?_⟩
    · rintro i c H' hc rfl
      refine ⟨rfl, yesT ?_⟩
      refine ⟨_, rfl, c, letters, rfl, rfl, _, upd_same, ?_, ?_⟩
      · rw [List.length_replicate]
        have := (Array.getElem?_eq_some_iff.mp hc).1
        omega
      · have hm : c ∈ z.cps.toList := by
          obtain ⟨hh, e⟩ := Array.getElem?_eq_some_iff.mp hc
          rw [← e]
          exact Array.getElem_mem_toList hh
        rw [decide_eq_true (g3 c hm), upd_upd, ← List.replicate_succ']
    · rintro H' rfl
      refine ⟨D, List.replicate z.cps.size true, rfl, .inl (.inl (by rw [List.map_replicate]; exact upd_same)), ?_⟩
      rw [List.all_replicate]
      simp only [id, ite_self, Bool.or_true]
      exact q _ fun b o e => by rw [upd_ne (ne_of_none e hD)]; exact e
def spHasKind (K : PySem.W.Frag) : Sp := fun vs H Q _ => ∃ (p : Addr) (a k : Str) (n : Int) (r : List V), vs = [.ref p, .str k, .int n] ∧ H p = some (.tup (.str a :: r)) ∧ r.length ≤ 5 ∧ Q (.bl (decide (((r.length + 1 : Nat) : Int) = n) && decide (a = k))) H
theorem scHasKind : FnScope ["value", "kind", "many"] ["value", "kind", "many"] (defScope sHasKind) := ⟨rfl, rfl, rfl, by decide +kernel, rfl, by decide +kernel, by decide +kernel⟩
theorem ok_hasKind {f : Addr} {fd : FuncData} (F : Fun K "has_kind" "has_kind" sHasKind f fd) (B : Bl mg) : FnOk P w K mg base CX0 1 f fd ["value", "kind", "many"] (spHasKind K) := by
  refine F.ok scHasKind (fun vs H Q E h => ?_) (fun cdv A outer s H vs Q E hr h => ?_)
  · obtain ⟨p, a, k, n, r, rfl, _⟩ := h
    rfl
  · obtain ⟨p, a, k, n, r, rfl, hp, hl, q⟩ := h
    refine ⟨_, pss_one (ps_ret (pe_and (pe_callB call_isi (by rfl) B.isinstance (by decide +kernel) (pa_cons (pv 0) (pa_cons (pe_bltn (v := .ty "tuple") (by rfl) B.tuple (by decide +kernel) rfl) pa_nil)))
      (pe_and (pe_cmpR op_eq (pe_callB call_len_seq (by rfl) B.len PySem.boot_len (pa_cons (pv 0) pa_nil)) (pv 2) (nomark _))
      (pe_and (pe_callB call_isi (by rfl) B.isinstance (by decide +kernel) (pa_cons (pe_ix ix_tup (pv 0) pe_int (fun _ _ => rfl)) (pa_cons (pe_bltn (v := .ty "str") (by rfl) B.str (by decide +kernel) rfl) pa_nil)))
      (pe_one (pe_cmpR op_eq (pe_ix ix_tup (pv 0) pe_int (fun _ _ => rfl)) (pv 1) (nomark _))))))), ?_⟩
    refine ⟨_, rfl, _, _, _, _, true, rfl, .ty "tuple", .base (.tup hp), kit_ty (by decide +kernel), true, rfl, iteT ?_⟩
    refine ⟨_, rfl, p, _, rfl, .inr (SqT.of hp), _, rfl, rfl, _, rfl, ?_⟩
    by_cases hn : ((r.length + 1 : Nat) : Int) = n
    · have e1 : decide (V.int (((V.str a :: r).length : Nat) : Int) = V.int n) = true := decide_eq_true (by rw [List.length_cons, hn])
      rw [e1]
      refine iteT ?_
      refine ⟨_, rfl, p, _, _, _, rfl, rfl, SqT.of hp, atI_nat (j := 0) rfl, _, _, _, _, true, rfl, .ty "str", .base (.str a), kit_ty (by decide +kernel), true, rfl, iteT ?_⟩
      refine ⟨_, rfl, p, _, _, _, rfl, rfl, SqT.of hp, atI_nat (j := 0) rfl, _, rfl, rfl, ?_⟩
      rw [decide_eq_true hn, Bool.true_and] at q
      have e2 : decide (V.str a = V.str k) = decide (a = k) := by
        by_cases h : a = k
        · rw [h, decide_eq_true rfl, decide_eq_true rfl]
        · rw [decide_eq_false h, decide_eq_false fun z => h (V.str.inj z)]
      rw [e2]
      exact q
    · have e1 : decide (V.int (((V.str a :: r).length : Nat) : Int) = V.int n) = false := decide_eq_false fun z => hn (by rw [List.length_cons] at z; exact V.int.inj z)
      rw [e1]
      refine iteF ?_
      rw [decide_eq_false hn, Bool.false_and] at q
      exact q
def spIsMemory : Sp := fun vs H Q _ => ∃ (p : Addr) (xs : List V), vs = [.ref p] ∧ H p = some (.tup xs) ∧ MemIs xs ∧ Q (.bl true) H
theorem scIsMemory : FnScope ["value"] ["value"] (defScope sIsMemory) := ⟨rfl, rfl, rfl, by decide +kernel, rfl, by decide +kernel, by decide +kernel⟩
theorem ok_isMemory {f fK fB : Addr} {fd fdK fdB : FuncData} (F : Fun K "is_memory" "is_memory" sIsMemory f fd) (C : Cn mg) (GK : FnOk P w K mg base CX0 1 fK fdK ["value", "kind", "many"] (spHasKind K)) (dK : Dn K mg "has_kind" fK fdK ["value", "kind", "many"])
    (GB : FnOk P w K mg base CX0 2 fB fdB ["value", "least", "most"] spIsBetween) (dB : Dn K mg "is_between" fB fdB ["value", "least", "most"]) : FnOk P w K mg base CX0 3 f fd ["value"] spIsMemory := by
  obtain ⟨t2, m2⟩ := C.mostLimit
  refine F.ok scIsMemory (fun vs H Q E h => ?_) (fun cdv A outer s H vs Q E hr h => ?_)
  · obtain ⟨p, xs, rfl, _⟩ := h
    rfl
  · obtain ⟨p, xs, rfl, hp, hm, q⟩ := h
    have hr1 : Room 1 _ := hr.mono (by decide)
    refine ⟨_, pss_cons (ps_if (pt_val (pe_call GK hr1 (by rfl) dK.m dK.k dK.b .nil pass0 (pa_cons (pv 0) (pa_cons pe_str (pa_cons pe_int pa_nil))))) (pss_one (ps_ret pe_bl)) pss_nil)
      (pss_one (ps_ret (pe_and (pe_or (pe_call GK hr1 (by rfl) dK.m dK.k dK.b .nil pass0 (pa_cons (pv 0) (pa_cons pe_str (pa_cons pe_int pa_nil))))
          (pe_one (pe_call GK hr1 (by rfl) dK.m dK.k dK.b .nil pass0 (pa_cons (pv 0) (pa_cons pe_str (pa_cons pe_int pa_nil))))))
        (pe_one (pe_call GB hr (by rfl) dB.m dB.k dB.b .nil pass0 (pa_cons (pe_ix ix_tup (pv 0) pe_int (fun _ _ => rfl)) (pa_cons pe_int (pa_cons (pe_glob (v := .int 9) (by rfl) m2 ⟨_, rfl⟩) pa_nil)))))))), ?_⟩
    rcases hm with rfl | ⟨k, n, hk, h0, h9, rfl⟩
    · exact ⟨_, rfl, p, _, _, _, _, rfl, hp, Nat.zero_le _, _, rfl, iteT q⟩
    · have nk : ¬ (k = ("nothing" : Str)) := by rcases hk with rfl | rfl <;> decide
      refine ⟨_, rfl, p, _, _, _, _, rfl, hp, (by show 1 ≤ 5; decide), _, rfl, ?_⟩
      have e1 : (decide (((([V.int n] : List V).length + 1 : Nat) : Int) = 1) && decide (k = ("nothing" : Str))) = false := by rw [decide_eq_false nk, Bool.and_false]
      rw [e1]
      refine iteF ?_
      have fin : ∀ (H1 : Hp), H1 = H → ∃ v a b : Int, [V.int n, V.int 0, V.int 9] = [V.int v, V.int a, V.int b] ∧ Q (.bl (decide (a ≤ v ∧ v ≤ b))) H1 := fun H1 e => by
        subst e
        refine ⟨n, 0, 9, rfl, ?_⟩
        rw [decide_eq_true ⟨h0, h9⟩]
        exact q
      refine ⟨_, rfl, p, _, _, _, _, rfl, hp, (by show 1 ≤ 5; decide), _, rfl, ?_⟩
      rcases hk with rfl | rfl
      · refine iteT ⟨_, rfl, iteT ?_⟩
        exact ⟨_, rfl, p, _, _, _, rfl, rfl, SqT.of hp, rfl, fin _ rfl⟩
      · refine iteF ⟨_, rfl, p, _, _, _, _, rfl, hp, (by show 1 ≤ 5; decide), _, rfl, iteT ?_⟩
        exact ⟨_, rfl, p, _, _, _, rfl, rfl, SqT.of hp, rfl, fin _ rfl⟩
end
end CT
set_option Elab.async false
set_option linter.all false
set_option maxRecDepth 100000
set_option maxHeartbeats 4000000
/-! W2: tills.py, checked_tills -/
namespace CT
open PySem L2
theorem pf_nil {f : Str} {v : V} : putF f v [] = [(f, v)] := rfl
theorem pf_ne {f g : Str} {v x : V} {r : List (Str × V)} (h : ¬ g = f) : putF f v ((g, x) :: r) = (g, x) :: putF f v r := if_neg h
theorem pf_eq {f : Str} {v x : V} {r : List (Str × V)} : putF f v ((f, x) :: r) = (f, v) :: r := if_pos rfl
theorem lk_ne {f g : Str} {x : V} {r : List (Str × V)} (h : ¬ g = f) : List.lookup g ((f, x) :: r) = List.lookup g r := by
  show (match g == f with | true => some x | false => List.lookup g r) = _
  rw [beq_eq_false_iff_ne.mpr h]
theorem lk_eq {f : Str} {x : V} {r : List (Str × V)} : List.lookup f ((f, x) :: r) = some x := by
  show (match f == f with | true => some x | false => List.lookup f r) = _
  rw [beq_self_eq_true]
theorem tf_put (n : Str) (l : Int) (h : Bool) : putF "heeds" (.bl h) (putF "limit" (.int l) (putF "name" (.str n) [])) = tf ⟨n, l, h⟩ := by
  rw [pf_nil, pf_ne (by decide), pf_nil, pf_ne (by decide), pf_ne (by decide), pf_nil]
  rfl
theorem tf_name (t : TillD) : (tf t).lookup ("name" : Str) = some (.str t.name) := lk_eq
theorem tf_limit (t : TillD) : (tf t).lookup ("limit" : Str) = some (.int t.limit) := (lk_ne (by decide)).trans lk_eq
theorem tf_heeds (t : TillD) : (tf t).lookup ("heeds" : Str) = some (.bl t.heeds) := (lk_ne (by decide)).trans ((lk_ne (by decide)).trans lk_eq)
theorem TillAt.same {C : Addr} {H H' : Hp} {p : Addr} {t : TillD} (h : TillAt C H p t) (s : ∀ o, H p = some o → H' p = some o) : TillAt C H' p t := let ⟨dx, e⟩ := h; ⟨dx, s _ e⟩
/-- all that was tracked is as it was, but at p -/
def SameB (p : Addr) (H H' : Hp) : Prop := ∀ b o, b ≠ p → H b = some o → H' b = some o
structure TillK (K : PySem.W.Frag) (mg : Str → Option Value) (C : Addr) : Prop where
  ic : C8.InsC K C
  n1 : NoAttr K C "name"
  n2 : NoAttr K C "limit"
  n3 : NoAttr K C "heeds"
  m : mg "Till" = some (.ref C)
section
variable {P : Program} {w : World} {K : PySem.W.Frag} {mg : Str → Option Value} {base : Heap}
def spTillInit (C : Addr) : Sp := fun vs H Q _ => ∃ (p dx : Addr) (t : TillD), vs = [.ref p, .str t.name, .int t.limit, .bl t.heeds] ∧ GoodT t ∧ H p = some (.ins C dx []) ∧ ∀ H', SameB p H H' → H' p = some (.ins C dx (tf t)) → Q .non H'
theorem scTillInit : FnScope ["self", "name", "limit", "heeds"] ["self", "name", "limit", "heeds"] (defScope sTillInit) := ⟨rfl, rfl, rfl, by decide +kernel, rfl, by decide +kernel, by decide +kernel⟩
theorem body_tillInit {cdv : Value} {f fN fB C : Addr} {fdN fdB : FuncData} (T : TillK K mg C) (B : Bl mg) (Cc : Cn mg) (GN : FnOk P w K mg base CX0 1 fN fdN ["value"] spIsName) (dN : Dn K mg "is_name" fN fdN ["value"])
    (GB : FnOk P w K mg base CX0 2 fB fdB ["value", "least", "most"] spIsBetween) (dB : Dn K mg "is_between" fB fdB ["value", "least", "most"]) (A : Around) (outer : List Env) (s : Shared) (H : Hp) (vs : List V) (Q : VK) (E : XK)
    (hr : Room 2 (A.deeper (PyProof.Rows.envOfC "Till.__init__" (defScope sTillInit) s.heap.objs.size f cdv))) (h : spTillInit C vs H Q E) :
    ∃ t, PSs (cxOf CX0 P w K mg base ["self", "name", "limit", "heeds"] "Till.__init__" (defScope sTillInit) f cdv A outer s H E).nox (defBody sTillInit) t ∧ t { nx := fun _ H' => Q .non H', rt := Q } (L2.start ["self", "name", "limit", "heeds"] vs) H := by
  obtain ⟨t2, m2⟩ := Cc.mostLimit
  obtain ⟨p, dx, t, rfl, ⟨g1, g2, g3⟩, hp, q⟩ := h
  have hr1 : Room 1 _ := hr.mono (by decide)
  refine ⟨_, pss_cons (ps_if (pt_not (pt_val (pe_call GN hr1 (by rfl) dN.m dN.k dN.b .nil pass0 (pa_cons (pv 1) pa_nil)))) (pss_one ps_never) pss_nil)
    (pss_cons (ps_if (pt_not (pt_val (pe_call GB hr (by rfl) dB.m dB.k dB.b .nil pass0 (pa_cons (pv 2) (pa_cons pe_int (pa_cons (pe_glob (v := .int 9) (by rfl) m2 ⟨_, rfl⟩) pa_nil)))))) (pss_one ps_never) pss_nil)
    (pss_cons (ps_if (pt_not (pt_val (pe_callB call_isi (by rfl) B.isinstance (by decide +kernel) (pa_cons (pv 3) (pa_cons (pe_bltn (v := .ty "bool") (by rfl) B.bool (by decide +kernel) rfl) pa_nil))))) (pss_one ps_never) pss_nil)
    (pss_cons (ps_fld (pv 0) (pv 1) rfl) (pss_cons (ps_fld (pv 0) (pv 2) rfl) (pss_one (ps_fld (pv 0) (pv 3) rfl)))))), ?_⟩
  refine ⟨_, rfl, t.name, rfl, g1, fun H1 s1 => ⟨true, rfl, iteF ?_⟩⟩
  refine ⟨_, rfl, t.limit, 0, 9, rfl, ?_⟩
  rw [decide_eq_true (⟨g2, g3⟩ : (0 : Int) ≤ t.limit ∧ t.limit ≤ 9)]
  refine ⟨true, rfl, iteF ?_⟩
  refine ⟨_, rfl, _, _, _, _, true, rfl, .ty "bool", .base (.bl t.heeds), kit_ty (by decide +kernel), true, rfl, iteF ?_⟩
  refine ⟨_, rfl, _, rfl, p, C, dx, _, rfl, s1 _ _ hp, T.ic.cl, T.n1, (by decide), ?_⟩
  refine ⟨_, rfl, _, rfl, p, C, dx, _, rfl, upd_same, T.ic.cl, T.n2, (by rw [pf_nil]; show 1 < 1000; decide), ?_⟩
  refine ⟨_, rfl, _, rfl, p, C, dx, _, rfl, upd_same, T.ic.cl, T.n3, (by rw [pf_nil, pf_ne (by decide), pf_nil]; show 2 < 1000; decide), ?_⟩
  refine q _ (fun b o n e => ?_) ?_
  · rw [upd_ne n, upd_ne n, upd_ne n]
    exact s1 _ _ e
  · rw [upd_same, tf_put]
def TEq (C : Addr) (a b : Addr) (H : Hp) : Prop := ∃ t, TillAt C H a t ∧ TillAt C H b t
theorem TEq.ext {C : Addr} (a b : Addr) (H H' : Hp) (e : Ext H H') (h : TEq C a b H) : TEq C a b H' := let ⟨t, h1, h2⟩ := h; ⟨t, h1.same (e _), h2.same (e _)⟩
theorem scTillEq : FnScope ["self", "other"] ["self", "other"] (defScope sTillEq) := ⟨rfl, rfl, rfl, by decide +kernel, rfl, by decide +kernel, by decide +kernel⟩
theorem eqv_self {d : PyData} (h : SeqAt.shaped d = true) : PyData.eqv d d = true := SeqAt.eqv_refl d (SeqAt.canLay_of_shaped h)
theorem dflat {x : V} {H : Hp} (h : flatV x = true) : DFlat x x H := ⟨h, h, by cases x <;> first | rfl | (simp [eqV]; done) | cases h⟩
theorem ok_tillEq {f C : Addr} {fd : FuncData} (F : Fun K "__eq__" "Till.__eq__" sTillEq f fd) (T : TillK K mg C) (B : Bl mg) : FnOk P w K mg base CX0 2 f fd ["self", "other"] (spEq (TEq C)) := by
  refine F.ok scTillEq (fun vs H Q E h => ?_) (fun cdv A outer s H vs Q E hr h => ?_)
  · obtain ⟨a, b, rfl, _⟩ := h
    rfl
  · obtain ⟨a, b, rfl, ⟨t, ⟨dx, ha⟩, ⟨dy, hb⟩⟩, q⟩ := h
    refine ⟨_, pss_cons (ps_if (pt_not (pt_val (pe_callB (C8.call_isC T.ic) (by rfl) B.isinstance (by decide +kernel) (pa_cons (pv 1) (pa_cons (pe_glob (v := .ref C) (by rfl) T.m rfl) pa_nil))))) (pss_one (ps_ret pe_bl)) pss_nil)
      (pss_one (ps_ret (pe_cmpR (op_eqG (rcG_tup mon_flat eqG_flat) hr) (pe_tup (pa_cons (pe_fld (pv 0) rfl) (pa_cons (pe_fld (pv 0) rfl) (pa_cons (pe_fld (pv 0) rfl) pa_nil)))) (pe_tup (pa_cons (pe_fld (pv 1) rfl) (pa_cons (pe_fld (pv 1) rfl) (pa_cons (pe_fld (pv 1) rfl) pa_nil)))) (nomark _)))), ?_⟩
    refine ⟨_, rfl, b, dy, _, rfl, hb, true, rfl, iteF ?_⟩
    refine ⟨_, rfl, a, C, dx, _, _, rfl, ha, T.ic.cl, T.n1, tf_name t, _, rfl, a, C, dx, _, _, rfl, ha, T.ic.cl, T.n2, tf_limit t, _, rfl, a, C, dx, _, _, rfl, ha, T.ic.cl, T.n3, tf_heeds t, (by show 3 ≤ sizeLine; decide), fun p1 h1 => ?_⟩
    have hb1 : upd H p1 (.tup [.str t.name, .int t.limit, .bl t.heeds]) b = some (.ins C dy (tf t)) := by rw [upd_ne (ne_of_none hb h1)]; exact hb
    refine ⟨_, rfl, b, C, dy, _, _, rfl, hb1, T.ic.cl, T.n1, tf_name t, _, rfl, b, C, dy, _, _, rfl, hb1, T.ic.cl, T.n2, tf_limit t, _, rfl, b, C, dy, _, _, rfl, hb1, T.ic.cl, T.n3, tf_heeds t, (by show 3 ≤ sizeLine; decide), fun p2 h2 => ?_⟩
    have n12 : p1 ≠ p2 := ne_of_none upd_same h2
    refine ⟨⟨p1, p2, _, _, rfl, rfl, SqT.of (by rw [upd_ne n12]; exact upd_same), SqT.of upd_same, .cons (dflat rfl) (.cons (dflat rfl) (.cons (dflat rfl) .nil))⟩, fun H' e' => ?_⟩
    refine q _ fun x o e => e' _ _ ?_
    rw [upd_ne (ne_of_none (show upd H p1 _ x = some o by rw [upd_ne (ne_of_none e h1)]; exact e) h2), upd_ne (ne_of_none e h1)]
    exact e
/-- the tills rs: where each stands and what it is -/
abbrev Rs := List (Addr × TillD)
def RsAt (C : Addr) (H : Hp) (rs : Rs) : Prop := ∀ r ∈ rs, TillAt C H r.1 r.2
theorem RsAt.same {C : Addr} {H H' : Hp} {rs : Rs} (h : RsAt C H rs) (s : Same H H') : RsAt C H' rs := fun r hr => (h r hr).same (s _)
def refs {α : Type} (rs : List (Addr × α)) : List V := rs.map fun r => .ref r.1
def namesOf (rs : Rs) : List Str := rs.map fun r => r.2.name
def spCheckedTills (C : Addr) : Sp := fun vs H Q _ => ∃ (a : Addr) (rs : Rs), vs = [.ref a] ∧ (H a = some (.lst (refs rs)) ∨ H a = some (.tup (refs rs))) ∧ RsAt C H rs ∧ 1 ≤ rs.length ∧ rs.length ≤ 4 ∧ (namesOf rs).Nodup ∧ ∀ H' q, Same H H' → H' q = some (.tup (refs rs)) → Q (.ref q) H'
theorem scCheckedTills : FnScope ["tills", "known", "index", "till"] ["tills"] (defScope sCheckedTills) := ⟨rfl, rfl, rfl, by decide +kernel, rfl, by decide +kernel, by decide +kernel⟩
theorem inV_str {z : Str} : ∀ {l : List Str}, z ∉ l → inV (.str z) (l.map V.str) = false
  | [], _ => rfl
  | y :: l, h => by
    show (eqV (.str y) (.str z) || inV (.str z) (l.map V.str)) = false
    rw [inV_str fun q => h (List.mem_cons_of_mem _ q), Bool.or_false]
    have n : ¬ y = z := fun q => h (q ▸ List.mem_cons_self)
    simp [eqV, n]
theorem all_flat_str : ∀ l : List Str, (l.map V.str).all flatV = true
  | [] => rfl
  | y :: l => by
    rw [List.map_cons, List.all_cons, all_flat_str l]
    rfl
theorem ok_checkedTills {f C : Addr} {fd : FuncData} (F : Fun K "checked_tills" "checked_tills" sCheckedTills f fd) (T : TillK K mg C) (B : Bl mg) (Cc : Cn mg) : FnOk P w K mg base CX0 1 f fd ["tills"] (spCheckedTills C) := by
  obtain ⟨t2, m2⟩ := Cc.mostTills
  refine F.ok scCheckedTills (fun vs H Q E h => ?_) (fun cdv A outer s H vs Q E hr h => ?_)
  · obtain ⟨a, rs, rfl, _⟩ := h
    rfl
  · obtain ⟨a, rs, rfl, hL, hR, l1, l4, nd, q⟩ := h
    have lr : (refs rs).length = rs.length := by unfold refs; rw [List.length_map]
    -- what a turn keeps
    have step : ∀ (i : Nat) (x : V) (T0 kn : Addr) (H1 : Hp), (refs rs)[i]? = some x → Same H H1 → H kn = none → H1 kn = some (.lst ((namesOf (rs.take i)).map V.str)) → H1 T0 = none →
        ∃ r dx, rs[i]? = some r ∧ x = .ref r.1 ∧ (upd H1 T0 (.tup [.int (i : Nat), x])) r.1 = some (.ins C dx (tf r.2)) ∧ (upd H1 T0 (.tup [.int (i : Nat), x])) kn = some (.lst ((namesOf (rs.take i)).map V.str)) ∧ r.2.name ∉ namesOf (rs.take i) ∧ kn ≠ T0 ∧ (namesOf (rs.take (i + 1))).map V.str = (namesOf (rs.take i)).map V.str ++ [V.str r.2.name] := by
      intro i x T0 kn H1 hx s1 k0 hk hT
      unfold refs at hx
      rw [List.getElem?_map] at hx
      cases er : rs[i]? with
      | none => rw [er] at hx; cases hx
      | some r =>
        rw [er] at hx
        obtain ⟨dx, e⟩ := hR r (List.mem_of_getElem? er)
        have n1 : r.1 ≠ T0 := ne_of_none (s1 _ _ e) hT
        have n2 : kn ≠ T0 := ne_of_none hk hT
        refine ⟨r, dx, rfl, (Option.some.inj hx).symm, by rw [upd_ne n1]; exact s1 _ _ e, by rw [upd_ne n2]; exact hk, fun hm => ?_, n2, ?_⟩
        · unfold namesOf at hm nd
          rw [List.map_take] at hm
          obtain ⟨j, hj, e2⟩ := List.mem_iff_getElem.mp hm
          have hj' : j < i := by rw [List.length_take] at hj; omega
          have hi' := (List.getElem?_eq_some_iff.mp er).1
          rw [List.getElem_take] at e2
          have e3 : (rs.map fun r => r.2.name)[i]'(by rw [List.length_map]; exact hi') = r.2.name := by
            rw [List.getElem_map, (List.getElem?_eq_some_iff.mp er).2]
          have h3 := (List.pairwise_iff_getElem.mp nd) j i (by rw [List.length_map]; omega) (by rw [List.length_map]; exact hi') hj'
          exact h3 (e2.trans e3.symm)
        · unfold namesOf
          rw [List.take_add_one, er]
          simp
    have n1 : decide (V.int ((rs.length : Nat) : Int) = V.int 0) = false := decide_eq_false fun z => by
      have := V.int.inj z
      omega
    have n4 : decide (((rs.length : Nat) : Int) > 4) = false := decide_eq_false (by omega)
    rcases hL with hL | hL
    · refine ⟨_, pss_cons (ps_if (PW.pt (pw_or (pt_not (pt_val (pe_callB call_isiT (by rfl) B.isinstance (by decide +kernel) (pa_cons (pv 0) (pa_cons (pe_tup (pa_cons (pe_bltn (v := .ty "list") (by rfl) B.list (by decide +kernel) rfl) (pa_cons (pe_bltn (v := .ty "tuple") (by rfl) B.tuple (by decide +kernel) rfl) pa_nil))) pa_nil)))))
          (pw_or1 (pt_cmpR op_eq (pe_callB call_len_seq (by rfl) B.len PySem.boot_len (pa_cons (pv 0) pa_nil)) pe_int (nomark _))))) (pss_one ps_never) pss_nil)
        (pss_cons (ps_set (i := 1) scCheckedTills.nd rfl (Or.inl rfl) (pe_lst pa_nil))
        (pss_cons (ps_for PassesOwn.never rfl (pi_enum (by rfl) B.enumerate (pa_cons (pv 0) pa_nil)) (pg_tup rfl (pgs_cons (pg_name (i := 2) scCheckedTills.nd rfl (.inl rfl)) (pgs_cons (pg_name (i := 3) scCheckedTills.nd rfl (.inl rfl)) pgs_nil)))
          (pss_cons (ps_if (PW.pt (pw_or (pt_not (pt_val (pe_callB (C8.call_isC T.ic) (by rfl) B.isinstance (by decide +kernel) (pa_cons (pv 3) (pa_cons (pe_glob (v := .ref C) (by rfl) T.m rfl) pa_nil)))))
            (pw_or1 (pt_cmpR op_in_seq (pe_fld (pv 3) rfl) (pv 1) (by rfl))))) (pss_one ps_never) pss_nil)
          (pss_one (ps_expr (pe_bm PySem.F.plainAttrs_list PySem.F.slot_list_append PySem.F.type_list_append mt_append (pv 1) (pa_cons (pe_fld (pv 3) rfl) pa_nil))))))
        (pss_cons (ps_if (pt_cmpR op_gt (pe_callB call_len_seq (by rfl) B.len PySem.boot_len (pa_cons (pv 0) pa_nil)) (pe_glob (v := .int 4) (by rfl) m2 ⟨_, rfl⟩) (nomark _)) (pss_one ps_never) pss_nil)
        (pss_one (ps_ret (pe_callTy call_tuple_of (by rfl) B.tuple (by decide +kernel) (pa_cons (pv 0) pa_nil))))))), ?_⟩
      refine ⟨_, rfl, (by show 2 ≤ sizeLine; decide), fun tp htp => ?_⟩
      have hL1 : upd H tp (.tup [.ty "list", .ty "tuple"]) a = some (.lst (refs rs)) := by rw [upd_ne (ne_of_none hL htp)]; exact hL
      refine ⟨_, tp, _, _, _, true, rfl, upd_same, .cons (.ty _) (.cons (.ty _) .nil), .base (.lst hL1), rfl, true, rfl, iteF ?_⟩
      refine ⟨_, rfl, a, _, rfl, .inl (SqL.of hL1), rfl, _, rfl, ?_⟩
      rw [lr, n1]
      refine iteF ?_
      refine ⟨Nat.zero_le _, fun kn hkn => ?_⟩
      have s0 : Same H (upd (upd H tp (.tup [.ty "list", .ty "tuple"])) kn (.lst [])) := fun b o e => by
        have e1 : upd H tp (.tup [.ty "list", .ty "tuple"]) b = some o := by rw [upd_ne (ne_of_none e htp)]; exact e
        rw [upd_ne (ne_of_none e1 hkn)]
        exact e1
      have kn0 : H kn = none := by
        have n : kn ≠ tp := fun z => by rw [z, upd_same] at hkn; cases hkn
        rw [upd_ne n] at hkn
        exact hkn
      refine ⟨_, rfl, a, _, rfl, SqL.of (s0 _ _ hL), KEn.for_enumL (K := K) (a := a) (xs := refs rs) (fun i σ H1 => ∃ v2 v3, σ = [some (.ref a), some (.ref kn), v2, v3] ∧ Same H H1 ∧ H1 kn = some (.lst ((namesOf (rs.take i)).map V.str)))
        ⟨none, none, rfl, s0, upd_same⟩ (fun i σ H1 p => let ⟨_, _, _, s1, _⟩ := p; SqL.of (s1 _ _ hL)) ?_ ?_⟩
      · rintro i x T0 σ H1 hx ⟨v2, v3, rfl, s1, hk⟩ hT
        obtain ⟨r, dx, er, rfl, hr1, hk1, nin, nk, etake⟩ := step i x T0 kn H1 hx s1 kn0 hk hT
        refine ⟨T0, _, rfl, SqT.of upd_same, rfl, _, _, rfl, _, _, rfl, rfl, ?_⟩
        refine ⟨_, rfl, r.1, dx, _, rfl, hr1, true, rfl, iteF ?_⟩
        refine ⟨_, rfl, r.1, C, dx, _, _, rfl, hr1, T.ic.cl, T.n1, tf_name _, _, rfl, kn, _, rfl, .inl (SqL.of hk1), rfl, all_flat_str _, _, rfl, ?_⟩
        rw [inV_str nin]
        refine iteF ?_
        refine ⟨_, rfl, .inl ⟨rfl, _, SqL.of hk1⟩, _, rfl, r.1, C, dx, _, _, rfl, hr1, T.ic.cl, T.n1, tf_name _, kn, _, _, rfl, rfl, hk1, ?_, ?_⟩
        · rw [List.length_map]
          refine small1000 ?_
          unfold namesOf
          rw [List.length_map, List.length_take]
          omega
        · refine ⟨_, _, rfl, fun b o e => ?_, ?_⟩
          · have nb : b ≠ kn := ne_of_none e kn0
            rw [upd_ne nb, upd_ne (ne_of_none (s1 _ _ e) hT)]
            exact s1 _ _ e
          · rw [upd_same, etake]
      · rintro σ H1 ⟨v2, v3, rfl, s1, hk⟩
        refine ⟨_, rfl, a, _, rfl, .inl (SqL.of (s1 _ _ hL)), _, _, rfl, rfl, _, rfl, ?_⟩
        rw [lr, n4]
        refine iteF ?_
        refine ⟨_, rfl, a, _, rfl, .inl ⟨SqL.of (s1 _ _ hL), fun l hl => q _ l (fun b o e => ?_) upd_same⟩⟩
        rw [upd_ne (ne_of_none (s1 _ _ e) hl)]
        exact s1 _ _ e
    · refine ⟨_, pss_cons (ps_if (PW.pt (pw_or (pt_not (pt_val (pe_callB call_isiT (by rfl) B.isinstance (by decide +kernel) (pa_cons (pv 0) (pa_cons (pe_tup (pa_cons (pe_bltn (v := .ty "list") (by rfl) B.list (by decide +kernel) rfl) (pa_cons (pe_bltn (v := .ty "tuple") (by rfl) B.tuple (by decide +kernel) rfl) pa_nil))) pa_nil)))))
          (pw_or1 (pt_cmpR op_eq (pe_callB call_len_seq (by rfl) B.len PySem.boot_len (pa_cons (pv 0) pa_nil)) pe_int (nomark _))))) (pss_one ps_never) pss_nil)
        (pss_cons (ps_set (i := 1) scCheckedTills.nd rfl (Or.inl rfl) (pe_lst pa_nil))
        (pss_cons (ps_for PassesOwn.never rfl (KEn.pi_enumT (by rfl) B.enumerate (pa_cons (pv 0) pa_nil)) (pg_tup rfl (pgs_cons (pg_name (i := 2) scCheckedTills.nd rfl (.inl rfl)) (pgs_cons (pg_name (i := 3) scCheckedTills.nd rfl (.inl rfl)) pgs_nil)))
          (pss_cons (ps_if (PW.pt (pw_or (pt_not (pt_val (pe_callB (C8.call_isC T.ic) (by rfl) B.isinstance (by decide +kernel) (pa_cons (pv 3) (pa_cons (pe_glob (v := .ref C) (by rfl) T.m rfl) pa_nil)))))
            (pw_or1 (pt_cmpR op_in_seq (pe_fld (pv 3) rfl) (pv 1) (by rfl))))) (pss_one ps_never) pss_nil)
          (pss_one (ps_expr (pe_bm PySem.F.plainAttrs_list PySem.F.slot_list_append PySem.F.type_list_append mt_append (pv 1) (pa_cons (pe_fld (pv 3) rfl) pa_nil))))))
        (pss_cons (ps_if (pt_cmpR op_gt (pe_callB call_len_seq (by rfl) B.len PySem.boot_len (pa_cons (pv 0) pa_nil)) (pe_glob (v := .int 4) (by rfl) m2 ⟨_, rfl⟩) (nomark _)) (pss_one ps_never) pss_nil)
        (pss_one (ps_ret (pe_callTy call_tuple_of (by rfl) B.tuple (by decide +kernel) (pa_cons (pv 0) pa_nil))))))), ?_⟩
      refine ⟨_, rfl, (by show 2 ≤ sizeLine; decide), fun tp htp => ?_⟩
      have hL1 : upd H tp (.tup [.ty "list", .ty "tuple"]) a = some (.tup (refs rs)) := by rw [upd_ne (ne_of_none hL htp)]; exact hL
      refine ⟨_, tp, _, _, _, true, rfl, upd_same, .cons (.ty _) (.cons (.ty _) .nil), .base (.tup hL1), rfl, true, rfl, iteF ?_⟩
      refine ⟨_, rfl, a, _, rfl, .inr (SqT.of hL1), rfl, _, rfl, ?_⟩
      rw [lr, n1]
      refine iteF ?_
      refine ⟨Nat.zero_le _, fun kn hkn => ?_⟩
      have s0 : Same H (upd (upd H tp (.tup [.ty "list", .ty "tuple"])) kn (.lst [])) := fun b o e => by
        have e1 : upd H tp (.tup [.ty "list", .ty "tuple"]) b = some o := by rw [upd_ne (ne_of_none e htp)]; exact e
        rw [upd_ne (ne_of_none e1 hkn)]
        exact e1
      have kn0 : H kn = none := by
        have n : kn ≠ tp := fun z => by rw [z, upd_same] at hkn; cases hkn
        rw [upd_ne n] at hkn
        exact hkn
      refine ⟨_, rfl, a, _, rfl, SqT.of (s0 _ _ hL), KEn.for_enumT (K := K) (a := a) (xs := refs rs) (fun i σ H1 => ∃ v2 v3, σ = [some (.ref a), some (.ref kn), v2, v3] ∧ Same H H1 ∧ H1 kn = some (.lst ((namesOf (rs.take i)).map V.str)))
        ⟨none, none, rfl, s0, upd_same⟩ (fun i σ H1 p => let ⟨_, _, _, s1, _⟩ := p; SqT.of (s1 _ _ hL)) ?_ ?_⟩
      · rintro i x T0 σ H1 hx ⟨v2, v3, rfl, s1, hk⟩ hT
        obtain ⟨r, dx, er, rfl, hr1, hk1, nin, nk, etake⟩ := step i x T0 kn H1 hx s1 kn0 hk hT
        refine ⟨T0, _, rfl, SqT.of upd_same, rfl, _, _, rfl, _, _, rfl, rfl, ?_⟩
        refine ⟨_, rfl, r.1, dx, _, rfl, hr1, true, rfl, iteF ?_⟩
        refine ⟨_, rfl, r.1, C, dx, _, _, rfl, hr1, T.ic.cl, T.n1, tf_name _, _, rfl, kn, _, rfl, .inl (SqL.of hk1), rfl, all_flat_str _, _, rfl, ?_⟩
        rw [inV_str nin]
        refine iteF ?_
        refine ⟨_, rfl, .inl ⟨rfl, _, SqL.of hk1⟩, _, rfl, r.1, C, dx, _, _, rfl, hr1, T.ic.cl, T.n1, tf_name _, kn, _, _, rfl, rfl, hk1, ?_, ?_⟩
        · rw [List.length_map]
          refine small1000 ?_
          unfold namesOf
          rw [List.length_map, List.length_take]
          omega
        · refine ⟨_, _, rfl, fun b o e => ?_, ?_⟩
          · have nb : b ≠ kn := ne_of_none e kn0
            rw [upd_ne nb, upd_ne (ne_of_none (s1 _ _ e) hT)]
            exact s1 _ _ e
          · rw [upd_same, etake]
      · rintro σ H1 ⟨v2, v3, rfl, s1, hk⟩
        refine ⟨_, rfl, a, _, rfl, .inr (SqT.of (s1 _ _ hL)), _, _, rfl, rfl, _, rfl, ?_⟩
        rw [lr, n4]
        refine iteF ?_
        exact ⟨_, rfl, a, _, rfl, .inr ⟨SqT.of (s1 _ _ hL), q _ a s1 (s1 _ _ hL)⟩⟩
end
end CT
set_option Elab.async false
set_option linter.all false
set_option maxRecDepth 100000
set_option maxHeartbeats 4000000
/-! W3: links -/
namespace CT
open PySem L2
section
variable {P : Program} {w : World} {K : PySem.W.Frag} {mg : Str → Option Value} {base : Heap}
theorem inV_mem {z : Str} : ∀ {l : List Str}, z ∈ l → inV (.str z) (l.map V.str) = true
  | y :: l, h => by
    show (eqV (.str y) (.str z) || inV (.str z) (l.map V.str)) = true
    rcases List.mem_cons.mp h with rfl | h
    · simp [eqV]
    · rw [inV_mem h, Bool.or_true]
def spIsLink : Sp := fun vs H Q _ => ∃ (p nl : Addr) (a b : Str) (ns : List Str), vs = [.ref p, .ref nl] ∧ H p = some (.tup [.str a, .str b]) ∧ H nl = some (.lst (ns.map V.str)) ∧ a ∈ ns ∧ b ∈ ns ∧ a.cps.toList < b.cps.toList ∧ ∀ H', Same H H' → Q (.bl true) H'
theorem scIsLink : FnScope ["value", "names", "name"] ["value", "names"] (defScope sIsLink) := ⟨rfl, rfl, rfl, by decide +kernel, rfl, by decide +kernel, by decide +kernel⟩
theorem ok_isLink {f : Addr} {fd : FuncData} (F : Fun K "is_link" "is_link" sIsLink f fd) (B : Bl mg) : FnOk P w K mg base CX0 1 f fd ["value", "names"] spIsLink := by
  refine F.ok scIsLink (fun vs H Q E h => ?_) (fun cdv A outer s H vs Q E hr h => ?_)
  · obtain ⟨p, nl, a, b, ns, rfl, _⟩ := h
    rfl
  · obtain ⟨p, nl, a, b, ns, rfl, hp, hn, ma, mb, hlt, q⟩ := h
    refine ⟨_, pss_cons (ps_if (PW.pt (pw_or (pt_not (pt_val (pe_callB call_isi (by rfl) B.isinstance (by decide +kernel) (pa_cons (pv 0) (pa_cons (pe_bltn (v := .ty "tuple") (by rfl) B.tuple (by decide +kernel) rfl) pa_nil)))))
        (pw_or (pt_cmpR op_ne (pe_callB call_len_seq (by rfl) B.len PySem.boot_len (pa_cons (pv 0) pa_nil)) pe_int (nomark _))
        (pw_or1 (pt_not (pt_val (pe_callB (cr_all rfl) (by rfl) B.all (by decide +kernel) (pa_cons
          (pe_lc (own := [("name", 2)]) (g := gName 2) (by rfl) scIsLink.nd (pi_tup (pv 0)) (blkOk_by (own := [("name", 2)]) (N := ["value", "names", "name"]) (sc := defScope sIsLink) (by decide +kernel))
            (fun _ _ _ _ _ => pg_name (i := 2) scIsLink.nd rfl (Or.inl rfl)) (fun _ _ _ _ _ => pts_nil) (fun _ _ _ _ _ => pe_callB (id := "isinstance") (r := rIsi K) call_isi (by rfl) B.isinstance (by decide +kernel) (pa_cons (pv 2) (pa_cons (pe_bltn (v := .ty "str") (by rfl) B.str (by decide +kernel) rfl) pa_nil)))) pa_nil))))))))
        (pss_one (ps_ret pe_bl)) pss_nil)
      (pss_one (ps_ret (pe_and (pe_cmpR op_in_seq (pe_ix ix_tup (pv 0) pe_int (fun _ _ => rfl)) (pv 1) (by rfl)) (pe_and (pe_cmpR op_in_seq (pe_ix ix_tup (pv 0) pe_int (fun _ _ => rfl)) (pv 1) (by rfl))
        (pe_one (pe_cmpR op_lt_str (pe_ix ix_tup (pv 0) pe_int (fun _ _ => rfl)) (pe_ix ix_tup (pv 0) pe_int (fun _ _ => rfl)) (nomark _))))))), ?_⟩
    refine ⟨_, rfl, _, _, _, _, true, rfl, .ty "tuple", .base (.tup hp), kit_ty (by decide +kernel), true, rfl, iteF ?_⟩
    refine ⟨_, rfl, p, _, rfl, .inr (SqT.of hp), rfl, _, rfl, iteF ?_⟩
    refine ⟨_, rfl, p, rfl, ⟨_, SqT.of hp⟩, fun D hD => lc_tup (K := K) (a := p) (xs := [.str a, .str b]) (fun i H1 => H1 = upd H D (.lst (List.replicate i (V.bl true)))) rfl ?_ ?_ ?_⟩
    · rintro i H1 hi rfl
      exact SqT.of (by rw [upd_ne (ne_of_none hp hD)]; exact hp)
    · rintro i x H1 hx rfl
      have ex : ∃ z, x = .str z := by
        rcases List.mem_cons.mp (List.mem_of_getElem? hx) with rfl | h
        · exact ⟨_, rfl⟩
        · rw [List.mem_singleton] at h
          exact ⟨_, h⟩
      obtain ⟨z, rfl⟩ := ex
      have hi := (List.getElem?_eq_some_iff.mp hx).1
      refine ⟨rfl, yesT ?_⟩
      refine ⟨_, rfl, _, _, _, _, true, rfl, .ty "str", .base (.str z), kit_ty (by decide +kernel), _, upd_same, ?_, ?_⟩
      · rw [List.length_replicate]
        exact Nat.lt_of_lt_of_le hi (by show 2 ≤ sizeLine; decide)
      · rw [upd_upd, ← List.replicate_succ']
    · rintro H1 rfl
      have s1 : Same H (upd H D (.lst (List.replicate ([V.str a, V.str b] : List V).length (V.bl true)))) := fun x o e => by rw [upd_ne (ne_of_none e hD)]; exact e
      refine ⟨D, [true, true], rfl, .inl (.inl upd_same), true, rfl, iteF ?_⟩
      have hp1 := s1 _ _ hp
      have hn1 := s1 _ _ hn
      refine ⟨_, rfl, p, _, _, _, rfl, rfl, SqT.of hp1, atI_nat (j := 0) rfl, _, rfl, nl, _, rfl, .inl (SqL.of hn1), rfl, all_flat_str _, _, rfl, ?_⟩
      rw [inV_mem ma]
      refine iteT ⟨_, rfl, p, _, _, _, rfl, rfl, SqT.of hp1, atI_nat (j := 1) rfl, _, rfl, nl, _, rfl, .inl (SqL.of hn1), rfl, all_flat_str _, _, rfl, ?_⟩
      rw [inV_mem mb]
      refine iteT ⟨_, rfl, p, _, _, _, rfl, rfl, SqT.of hp1, atI_nat (j := 0) rfl, _, rfl, p, _, _, _, rfl, rfl, SqT.of hp1, atI_nat (j := 1) rfl, _, _, rfl, rfl, ?_⟩
      rw [decide_eq_true hlt]
      exact q _ s1
end
/-! ### the order of links -/
abbrev Lk := Addr × Str × Str
def keyOf (l : Lk) : Str := PySem.Txt.join " " [l.2.1, l.2.2]
def GoodL (ns : List Str) (l : Lk) : Prop := GoodN l.2.1 ∧ GoodN l.2.2 ∧ l.2.1 ∈ ns ∧ l.2.2 ∈ ns ∧ l.2.1.cps.toList < l.2.2.cps.toList
theorem key_cps (l : Lk) : (keyOf l).cps.toList = l.2.1.cps.toList ++ 32 :: l.2.2.cps.toList := by
  show ((l.2.1.cps ++ (" " : Str).cps) ++ l.2.2.cps).toList = _
  simp only [Array.toList_append]
  rw [List.append_assoc]
  rfl
theorem split32 : ∀ {a1 a2 b1 b2 : List Nat}, 32 ∉ a1 → 32 ∉ a2 → a1 ++ 32 :: b1 = a2 ++ 32 :: b2 → a1 = a2 ∧ b1 = b2
  | [], [], _, _, _, _, h => ⟨rfl, (List.cons.inj h).2⟩
  | [], y :: a2, _, _, _, h2, h => absurd (List.mem_cons.mpr (.inl (List.cons.inj h).1)) h2
  | x :: a1, [], _, _, h1, _, h => absurd (List.mem_cons.mpr (.inl (List.cons.inj h).1.symm)) h1
  | x :: a1, y :: a2, _, _, h1, h2, h => by
    obtain ⟨e, h⟩ := List.cons.inj h
    obtain ⟨r1, r2⟩ := split32 (fun z => h1 (List.mem_cons_of_mem _ z)) (fun z => h2 (List.mem_cons_of_mem _ z)) h
    exact ⟨by rw [e, r1], r2⟩
theorem no32 {z : Str} (g : GoodN z) : 32 ∉ z.cps.toList := fun h => absurd (g.2.2 32 h) (by decide)
theorem str_ext {a b : Str} (h : a.cps.toList = b.cps.toList) : a = b := by
  cases a
  cases b
  congr 1
  exact Array.toList_inj.mp h
theorem key_inj {ns : List Str} {l m : Lk} (gl : GoodL ns l) (gm : GoodL ns m) (h : keyOf l = keyOf m) : l.2 = m.2 := by
  have e := congrArg (fun z : Str => z.cps.toList) h
  simp only [key_cps] at e
  obtain ⟨r1, r2⟩ := split32 (no32 gl.1) (no32 gm.1) e
  exact Prod.ext (str_ext r1) (str_ext r2)
theorem mem_snd {ls : List Lk} (nd : (ls.map (·.2)).Nodup) {l m : Lk} (hl : l ∈ ls) (hm : m ∈ ls) (e : l.2 = m.2) : l = m := by
  induction ls with
  | nil => cases hl
  | cons x r ih =>
    rw [List.map_cons, List.nodup_cons] at nd
    rcases List.mem_cons.mp hl with rfl | hl
    · rcases List.mem_cons.mp hm with rfl | hm
      · rfl
      · exact absurd (List.mem_map.mpr ⟨m, hm, e.symm⟩) nd.1
    · rcases List.mem_cons.mp hm with em | hm
      · rw [em] at e
        exact absurd (List.mem_map.mpr ⟨l, hl, e⟩) nd.1
      · exact ih nd.2 hl hm
def leK (x y : Lk) : Prop := ¬ (keyOf y).cps.toList < (keyOf x).cps.toList
def NormOf (ls ls' : List Lk) : Prop := ls'.Perm ls ∧ ls'.Pairwise leK
theorem norm_unique {ns : List Str} {ls a b : List Lk} (g : ∀ l ∈ ls, GoodL ns l) (nd : (ls.map (·.2)).Nodup) (ha : NormOf ls a) (hb : NormOf ls b) : a = b := by
  refine List.Perm.eq_of_pairwise (le := leK) (fun x y hx hy h1 h2 => ?_) ha.2 hb.2 (ha.1.trans hb.1.symm)
  have mx := ha.1.subset hx
  have my := hb.1.subset hy
  have e : (keyOf x).cps.toList = (keyOf y).cps.toList := List.le_antisymm h1 h2
  exact mem_snd nd mx my (key_inj (g x mx) (g y my) (str_ext e))
theorem rising_pw : ∀ (p : Str) (l : List Str), PyProof.Rows.risingS p l = true → (p :: l).Pairwise fun a b => ¬ b.cps.toList < a.cps.toList
  | p, [], _ => List.pairwise_singleton _ _
  | p, x :: r, h => by
    rw [PyProof.Rows.risingS, Bool.and_eq_true] at h
    obtain ⟨h1, h2⟩ := h
    have ih := rising_pw x r h2
    have h1' : ¬ x.cps.toList < p.cps.toList := by
      rw [PyProof.Rows.ltCps_eq] at h1
      simpa using h1
    refine List.pairwise_cons.mpr ⟨fun y hy => ?_, ih⟩
    rcases List.mem_cons.mp hy with rfl | hy
    · exact h1'
    · have h3 := (List.pairwise_cons.mp ih).1 y hy
      exact List.le_trans (show p.cps.toList ≤ x.cps.toList from h1') (show x.cps.toList ≤ y.cps.toList from h3)
theorem sorted_pw : ∀ (l : List Str), PyProof.Rows.sortedS l = true → l.Pairwise fun a b => ¬ b.cps.toList < a.cps.toList
  | [], _ => .nil
  | x :: r, h => rising_pw x r h
end CT
set_option Elab.async false
set_option linter.all false
set_option maxRecDepth 100000
set_option maxHeartbeats 4000000
/-! W4: checked_links (the two branches are printed by genW4.py) -/
namespace CT
open PySem L2
theorem upd_comm {H : Hp} {a b : Addr} {o u : HO} (h : a ≠ b) : upd (upd H a o) b u = upd (upd H b u) a o := by
  funext c
  by_cases h1 : c = b
  · rw [h1, upd_same, upd_ne (Ne.symm h), upd_same]
  · rw [upd_ne h1]
    by_cases h2 : c = a
    · rw [h2, upd_same, upd_same]
    · rw [upd_ne h2, upd_ne h2, upd_ne h1]
theorem dc_list {K : PySem.W.Frag} {a : Addr} {xs : List V} {g : TG} {tt : TT} {tk tv : TE} {vs : List Nat} {σ : L2.St} {H1 : Hp} {D : Addr} {Qd : Hp → Prop} (Pv : Nat → Hp → Prop) (h0 : Pv 0 (upd H1 D (.dK []))) (hl : ∀ i H, i ≤ xs.length → Pv i H → SqL K H a xs)
    (hs : ∀ i x H, xs[i]? = some x → Pv i H → g x (wipe σ vs) H fun σ2 H2 => wipe σ2 vs = wipe σ vs ∧ tt σ2 H2 fun b H3 =>
      if b = true then tk σ2 H3 fun y H4 => tv σ2 H4 fun z H5 => ∃ kvs k, y = kV k ∧ H5 D = some (.dK kvs) ∧ kvs.length < sizeLine ∧ Pv (i + 1) (upd H5 D (.dK (putK kvs k z))) else Pv (i + 1) H3) (hd : ∀ H, Pv xs.length H → Qd H) :
    ∃ W : Nat → Nat → Hp → Prop, (∃ m, W 0 m (upd H1 D (.dK []))) ∧ ∀ i m H, W i m H →
      ((Itl K a).stop i H ∧ Qd H) ∨ ((Itl K a).go i H ∧ ∃ Nx : Hp → Prop, (∀ H', Nx H' → ∃ m', m' < m ∧ W (i + 1) m' H') ∧ ∀ x H', (Itl K a).yld i H x H' → g x (wipe σ vs) H' fun σ2 H2 => wipe σ2 vs = wipe σ vs ∧ tt σ2 H2 fun b H3 =>
        if b = true then tk σ2 H3 fun y H4 => tv σ2 H4 fun z H5 => ∃ kvs k, y = kV k ∧ H5 D = some (.dK kvs) ∧ kvs.length < sizeLine ∧ Nx (upd H5 D (.dK (putK kvs k z))) else Nx H3) := by
  refine ⟨fun i m H => m = xs.length - i ∧ i ≤ xs.length ∧ Pv i H, ⟨xs.length, by simp, Nat.zero_le _, h0⟩, ?_⟩
  rintro i m H ⟨rfl, hi, p⟩
  have q := hl i H hi p
  by_cases hlt : i < xs.length
  · refine .inr ⟨⟨xs, xs[i], q, by simp [hlt]⟩, Pv (i + 1), fun H' p' => ⟨xs.length - (i + 1), by omega, rfl, hlt, p'⟩, fun x H' y => ?_⟩
    obtain ⟨e, y⟩ := y
    subst e
    exact hs i x _ (y xs q) p
  · have e : i = xs.length := by omega
    subst e
    exact .inl ⟨⟨xs, q, Nat.le_refl _⟩, hd H p⟩
theorem lc_keysK {a : Addr} {o : Obj} {kvs : List (Key × V)} {g : TG} {tt : TT} {te : TE} {vs : List Nat} {σ : L2.St} {H1 : Hp} {D : Addr} {Qd : Hp → Prop} (Pv : Nat → Hp → Prop) (h0 : Pv 0 (upd H1 D (.lst []))) (hl : ∀ i H, Pv i H → H a = some (.frz o (.dK kvs)))
    (hs : ∀ i k v H, kvs[i]? = some (k, v) → Pv i H → g (kV k) (wipe σ vs) H fun σ2 H2 => wipe σ2 vs = wipe σ vs ∧ tt σ2 H2 fun b H3 =>
      if b = true then te σ2 H3 fun y H4 => ∃ acc, H4 D = some (.lst acc) ∧ acc.length < sizeLine ∧ Pv (i + 1) (upd H4 D (.lst (acc ++ [y]))) else Pv (i + 1) H3) (hd : ∀ H, Pv kvs.length H → Qd H) :
    ∃ W : Nat → Nat → Hp → Prop, (∃ m, W 0 m (upd H1 D (.lst []))) ∧ ∀ i m H, W i m H →
      ((Itk a o kvs).stop i H ∧ Qd H) ∨ ((Itk a o kvs).go i H ∧ ∃ Nx : Hp → Prop, (∀ H', Nx H' → ∃ m', m' < m ∧ W (i + 1) m' H') ∧ ∀ x H', (Itk a o kvs).yld i H x H' → g x (wipe σ vs) H' fun σ2 H2 => wipe σ2 vs = wipe σ vs ∧ tt σ2 H2 fun b H3 =>
        if b = true then te σ2 H3 fun y H4 => ∃ acc, H4 D = some (.lst acc) ∧ acc.length < sizeLine ∧ Nx (upd H4 D (.lst (acc ++ [y]))) else Nx H3) := by
  refine ⟨fun i m H => m = kvs.length - i ∧ i ≤ kvs.length ∧ Pv i H, ⟨kvs.length, by simp, Nat.zero_le _, h0⟩, ?_⟩
  rintro i m H ⟨rfl, hi, p⟩
  have q := hl i H p
  by_cases hlt : i < kvs.length
  · refine .inr ⟨⟨q, hlt⟩, Pv (i + 1), fun H' p' => ⟨kvs.length - (i + 1), by omega, rfl, hlt, p'⟩, fun x H' y => ?_⟩
    obtain ⟨rfl, k, v, hk, rfl⟩ := y
    exact hs i k v _ hk p
  · have e : i = kvs.length := by omega
    subst e
    exact .inl ⟨⟨q, Nat.le_refl _⟩, hd H p⟩
/-! ### the dict of the links by their texts -/
def dOf (ls : List Lk) : List (Key × V) := ls.map fun l => ((Sum.inr (keyOf l) : Key), V.ref l.1)
theorem keys_nodup {ns : List Str} : ∀ {ls : List Lk}, (∀ l ∈ ls, GoodL ns l) → (ls.map (·.2)).Nodup → (ls.map keyOf).Nodup
  | [], _, _ => .nil
  | x :: r, g, nd => by
    rw [List.map_cons, List.nodup_cons] at nd ⊢
    refine ⟨fun h => ?_, keys_nodup (fun l hl => g l (List.mem_cons_of_mem _ hl)) nd.2⟩
    obtain ⟨m, hm, e⟩ := List.mem_map.mp h
    exact nd.1 (List.mem_map.mpr ⟨m, hm, key_inj (g m (List.mem_cons_of_mem _ hm)) (g x List.mem_cons_self) e⟩)
theorem dOf_put {ls : List Lk} (nd : (ls.map keyOf).Nodup) {i : Nat} {l : Lk} (h : ls[i]? = some l) : putK (dOf (ls.take i)) (.inr (keyOf l)) (.ref l.1) = dOf (ls.take (i + 1)) := by
  have hi := (List.getElem?_eq_some_iff.mp h).1
  have no : ((dOf (ls.take i)).any fun kv => decide (kv.1 = (Sum.inr (keyOf l) : Key))) = false := by
    rw [List.any_eq_false]
    intro kv hk
    obtain ⟨m, hm, rfl⟩ := List.mem_map.mp hk
    rw [decide_eq_true_iff]
    intro e
    have e' : keyOf m = keyOf l := Sum.inr.inj e
    obtain ⟨j, hj, e2⟩ := List.mem_iff_getElem.mp hm
    rw [List.length_take] at hj
    rw [List.getElem_take] at e2
    have h3 := (List.pairwise_iff_getElem.mp nd) j i (by rw [List.length_map]; omega) (by rw [List.length_map]; exact hi) (by omega)
    rw [List.getElem_map, List.getElem_map, e2, (List.getElem?_eq_some_iff.mp h).2] at h3
    exact h3 e'
  unfold putK
  rw [no, if_neg Bool.false_ne_true, List.take_add_one, h]
  simp [dOf]
theorem dOf_val : ∀ {ls : List Lk}, (ls.map keyOf).Nodup → ∀ {l : Lk}, l ∈ ls → valV (dOf ls) (.inr (keyOf l)) = some (.ref l.1)
  | x :: r, nd, l, h => by
    rw [List.map_cons, List.nodup_cons] at nd
    rcases List.mem_cons.mp h with rfl | h
    · exact valV_pos rfl
    · have n : ¬ ((Sum.inr (keyOf x) : Key) = .inr (keyOf l)) := fun e => nd.1 (List.mem_map.mpr ⟨l, h, (Sum.inr.inj e).symm⟩)
      exact (valV_neg n).trans (dOf_val nd.2 h)
/-- the link of a text -/
def lkOf (ls : List Lk) (k : Str) : Lk := (ls.find? fun l => decide (keyOf l = k)).getD (0, Str.empty, Str.empty)
theorem lkOf_key : ∀ {ls : List Lk}, (ls.map keyOf).Nodup → ∀ {l : Lk}, l ∈ ls → lkOf ls (keyOf l) = l
  | x :: r, nd, l, h => by
    rw [List.map_cons, List.nodup_cons] at nd
    rcases List.mem_cons.mp h with rfl | h
    · simp [lkOf, List.find?_cons]
    · have n : ¬ (keyOf x = keyOf l) := fun e => nd.1 (List.mem_map.mpr ⟨l, h, e.symm⟩)
      have ih := lkOf_key nd.2 h
      unfold lkOf at ih ⊢
      rw [List.find?_cons, decide_eq_false n]
      exact ih
theorem norm_of {ls : List Lk} (nd : (ls.map keyOf).Nodup) {ys : List Str} (hp : ys.Perm (ls.map keyOf)) (hs : PyProof.Rows.sortedS ys = true) : NormOf ls (ys.map (lkOf ls)) := by
  have back : (ls.map keyOf).map (lkOf ls) = ls := by
    rw [List.map_map]
    refine (List.map_congr_left (g := id) fun l hl => lkOf_key nd hl).trans (List.map_id _)
  refine ⟨(hp.map _).trans (by rw [back]), ?_⟩
  rw [List.pairwise_map]
  refine (sorted_pw ys hs).imp_of_mem fun {a b} ha hb h => ?_
  have key : ∀ {k}, k ∈ ys → keyOf (lkOf ls k) = k := fun {k} hk => by
    obtain ⟨l, hl, rfl⟩ := List.mem_map.mp (hp.subset hk)
    rw [lkOf_key nd hl]
  unfold leK
  rw [key ha, key hb]
  exact h
theorem lkOf_mem {ls : List Lk} (nd : (ls.map keyOf).Nodup) {ys : List Str} (hp : ys.Perm (ls.map keyOf)) {k : Str} (hk : k ∈ ys) : lkOf ls k ∈ ls ∧ keyOf (lkOf ls k) = k := by
  obtain ⟨l, hl, rfl⟩ := List.mem_map.mp (hp.subset hk)
  rw [lkOf_key nd hl]
  exact ⟨hl, rfl⟩
/-! ### links as data -/
def dL (l : Lk) : PyData := .tuple [.str l.2.1, .str l.2.2]
theorem ok_good {z : Str} (g : GoodN z) : PySem.PyData.strOk z = true := by
  unfold PySem.PyData.strOk
  rw [Array.all_eq_true']
  intro c hc
  have h := g.2.2 c (by simpa using hc)
  have all : (letters.cps.toList.all fun c => decide (c < 0x110000)) = true := by decide
  exact List.all_eq_true.mp all c h
theorem dL_lay {ns : List Str} {l : Lk} (g : GoodL ns l) : (dL l).canLay0 = true := by
  show (PySem.PyData.strOk l.2.1 && (PySem.PyData.strOk l.2.2 && true)) = true
  rw [ok_good g.1, ok_good g.2.1]
  rfl
theorem dLs_lay {ns : List Str} : ∀ {ls : List Lk}, (∀ l ∈ ls, GoodL ns l) → PyData.canLayAll0 (ls.map dL) = true
  | [], _ => rfl
  | x :: r, g => by
    show ((dL x).canLay0 && PyData.canLayAll0 (r.map dL)) = true
    rw [dL_lay (g x List.mem_cons_self), dLs_lay fun l hl => g l (List.mem_cons_of_mem _ hl)]
    rfl
theorem dLs_depth : ∀ ls : List Lk, PyData.depthAll (ls.map dL) ≤ 1
  | [] => Nat.zero_le _
  | x :: r => by
    show max (PyData.depth (dL x)) (PyData.depthAll (r.map dL)) ≤ 1
    exact Nat.max_le.mpr ⟨by show max 0 (max 0 0) + 1 ≤ 1; decide, dLs_depth r⟩
theorem dL_shaped {ns : List Str} {l : Lk} (g : GoodL ns l) : SeqAt.shaped (dL l) = true := by
  unfold SeqAt.shaped
  rw [dL_lay g]
  rfl
theorem dLs_shapedL {ns : List Str} {ls : List Lk} (g : ∀ l ∈ ls, GoodL ns l) : SeqAt.shaped (.list (ls.map dL)) = true := by
  unfold SeqAt.shaped
  rw [Bool.and_eq_true]
  exact ⟨dLs_lay g, decide_eq_true (by show PyData.depthAll (ls.map dL) + 1 ≤ 64; have := dLs_depth ls; omega)⟩
theorem dLs_shapedT {ns : List Str} {ls : List Lk} (g : ∀ l ∈ ls, GoodL ns l) : SeqAt.shaped (.tuple (ls.map dL)) = true := by
  unfold SeqAt.shaped
  rw [Bool.and_eq_true]
  exact ⟨dLs_lay g, decide_eq_true (by show PyData.depthAll (ls.map dL) + 1 ≤ 64; have := dLs_depth ls; omega)⟩
theorem eqv_dL (l m : Lk) : PyData.eqv (dL l) (dL m) = true → l.2 = m.2 := by
  intro h
  have h' : (l.2.1 == m.2.1 && (l.2.2 == m.2.2 && true)) = true := by simpa [dL, PyData.eqv, PyData.eqvAll] using h
  simp only [Bool.and_eq_true, beq_iff_eq] at h'
  exact Prod.ext h'.1 h'.2.1
theorem any_dL {ls : List Lk} (nd : (ls.map (·.2)).Nodup) {i : Nat} {l : Lk} (h : ls[i]? = some l) : (((ls.take i).map dL).any fun z => PyData.eqv z (dL l)) = false := by
  have hi := (List.getElem?_eq_some_iff.mp h).1
  rw [List.any_eq_false]
  intro d hd e
  obtain ⟨m, hm, rfl⟩ := List.mem_map.mp hd
  have e' := eqv_dL m l e
  obtain ⟨j, hj, e2⟩ := List.mem_iff_getElem.mp hm
  rw [List.length_take] at hj
  rw [List.getElem_take] at e2
  have h3 := (List.pairwise_iff_getElem.mp nd) j i (by rw [List.length_map]; omega) (by rw [List.length_map]; exact hi) (by omega)
  rw [List.getElem_map, List.getElem_map, e2, (List.getElem?_eq_some_iff.mp h).2] at h3
  exact h3 e'
/-- they stand in the heap -/
def LsAt (H : Hp) (ls : List Lk) : Prop := ∀ l ∈ ls, H l.1 = some (.tup [.str l.2.1, .str l.2.2])
theorem LsAt.same {H H' : Hp} {ls : List Lk} (h : LsAt H ls) (s : Same H H') : LsAt H' ls := fun l hl => s _ _ (h l hl)
theorem dp_dL {K : PySem.W.Frag} {H : Hp} {l : Lk} (h : H l.1 = some (.tup [.str l.2.1, .str l.2.2])) : Dp K H (.ref l.1) (dL l) := .tup (SqT.of h) (.cons (.str _) (.cons (.str _) .nil))
theorem dp_dLs {K : PySem.W.Frag} {H : Hp} : ∀ {ls : List Lk}, LsAt H ls → DpAll K H (refs ls) (ls.map dL)
  | [], _ => .nil
  | x :: r, h => .cons (dp_dL (h x List.mem_cons_self)) (dp_dLs fun l hl => h l (List.mem_cons_of_mem _ hl))
theorem cut_take {ls : List Lk} {i : Nat} (h : i < ls.length) : cutV (refs ls) none (some ((i : Nat) : Int)) = refs (ls.take i) := by
  unfold cutV refs
  rw [HT.sIx_none, HT.sIx_nat, List.length_map, Nat.min_eq_left (Nat.le_of_lt h), List.drop_zero, Nat.sub_zero, List.map_take]
theorem len_good {z : Str} (g : GoodN z) : z.length ≤ 8 := g.2.1
def rJoin (K : PySem.W.Frag) : V → List V → Hp → VK → Prop := fun x xs H Q => ∃ a p, ∃ ys : List Str, x = .str a ∧ xs = [.ref p] ∧ (SqL K H p (ys.map V.str) ∨ SqT K H p (ys.map V.str)) ∧
      (ys.map (·.length)).sum + ys.length * a.length ≤ 16777216 ∧ Q (.str (PySem.Txt.join a ys)) H
def rStr : List V → Hp → VK → Prop := fun xs H Q => ∃ a, xs = [.str a] ∧ Q (.str a) H
section
variable {P : Program} {w : World} {K : PySem.W.Frag} {mg : Str → Option Value} {base : Heap}
def spCheckedLinks : Sp := fun vs H Q _ => ∃ (a nl : Addr) (ls : List Lk) (ns : List Str), vs = [.ref a, .ref nl] ∧ (H a = some (.lst (refs ls)) ∨ H a = some (.tup (refs ls))) ∧ LsAt H ls ∧ H nl = some (.lst (ns.map V.str)) ∧
  (∀ l ∈ ls, GoodL ns l) ∧ (ls.map (·.2)).Nodup ∧ ls.length ≤ 60 ∧ ∀ H' q ls', Same H H' → NormOf ls ls' → H' q = some (.tup (refs ls')) → Q (.ref q) H'
abbrev nCL : List Str := ["links", "names", "index", "value", "texts", "text"]
theorem scCheckedLinks : FnScope nCL ["links", "names"] (defScope sCheckedLinks) := ⟨rfl, rfl, rfl, by decide +kernel, rfl, by decide +kernel, by decide +kernel⟩
theorem ok_checkedLinks {f fI : Addr} {fd fdI : FuncData} (F : Fun K "checked_links" "checked_links" sCheckedLinks f fd) (B : Bl mg) (GI : FnOk P w K mg base CX0 1 fI fdI ["value", "names"] spIsLink) (dI : Dn K mg "is_link" fI fdI ["value", "names"]) :
    FnOk P w K mg base CX0 2 f fd ["links", "names"] spCheckedLinks := by
  refine F.ok scCheckedLinks (fun vs H Q E h => ?_) (fun cdv A outer s H vs Q E hr h => ?_)
  · obtain ⟨a, nl, ls, ns, rfl, _⟩ := h
    rfl
  · obtain ⟨a, nl, ls, ns, rfl, hL, hA, hN, hG, hD, hlen, q⟩ := h
    have lr : (refs ls).length = ls.length := by unfold refs; rw [List.length_map]
    have kn := keys_nodup hG hD
    have hu65 : (A.deeper (PyProof.Rows.envOfC "checked_links" (defScope sCheckedLinks) s.heap.objs.size f cdv)).units + 65 < cLine := by have := hr.un; omega
    have hu : (A.deeper (PyProof.Rows.envOfC "checked_links" (defScope sCheckedLinks) s.heap.objs.size f cdv)).units + 1 < cLine := hu_of hr
    -- an item
    have item : ∀ {i : Nat} {x : V}, (refs ls)[i]? = some x → ∃ l, ls[i]? = some l ∧ x = .ref l.1 ∧ l ∈ ls ∧ i < ls.length := by
      intro i x hx
      unfold refs at hx
      rw [List.getElem?_map] at hx
      cases er : ls[i]? with
      | none => rw [er] at hx; cases hx
      | some l =>
        rw [er] at hx
        exact ⟨l, rfl, (Option.some.inj hx).symm, List.mem_of_getElem? er, (List.getElem?_eq_some_iff.mp er).1⟩
    rcases hL with hL | hL
    · refine ⟨_, pss_cons (ps_if (pt_not (pt_val (pe_callB call_isiT (by rfl) B.isinstance (by decide +kernel) (pa_cons (pv 0) (pa_cons (pe_tup (pa_cons (pe_bltn (v := .ty "list") (by rfl) B.list (by decide +kernel) rfl) (pa_cons (pe_bltn (v := .ty "tuple") (by rfl) B.tuple (by decide +kernel) rfl) pa_nil))) pa_nil))))) (pss_one ps_never) pss_nil)
        (pss_cons (ps_for PassesOwn.never rfl (pi_enum (by rfl) B.enumerate (pa_cons (pv 0) pa_nil)) (pg_tup rfl (pgs_cons (pg_name (i := 2) scCheckedLinks.nd rfl (.inl rfl)) (pgs_cons (pg_name (i := 3) scCheckedLinks.nd rfl (.inl rfl)) pgs_nil)))
          (pss_one (ps_if (PW.pt (pw_or (pt_not (pt_val (pe_call GI hr (by rfl) dI.m dI.k dI.b .nil pass0 (pa_cons (pv 3) (pa_cons (pv 1) pa_nil)))))
            (pw_or1 (pt_cmpR (op_inD hu65) (pv 3) (pe_slice sl_list (pv 0) po_none (po_some (pv 2))) (by rfl))))) (pss_one ps_never) pss_nil)))
        (pss_cons (ps_set (i := 4) scCheckedLinks.nd rfl (Or.inr rfl) (pe_dc (own := [("value", 3)]) (g := gName 3) (tk := tM1 (rJoin K) (tC (.str " ")) (tVar 3)) (tv := tVar 3) (by rfl) scCheckedLinks.nd (pi_list (pv 0)) (blkOk_by (own := [("value", 3)]) (N := nCL) (sc := defScope sCheckedLinks) (by decide +kernel))
            (fun _ _ _ _ _ => pg_name (i := 3) scCheckedLinks.nd rfl (Or.inl rfl)) (fun _ _ _ _ _ => pts_nil) (fun _ _ _ _ _ => pe_join pe_str (pv 3)) (fun _ _ _ _ _ => pv 3)))
        (pss_one (ps_ret (pe_callTy call_tuple_of (by rfl) B.tuple (by decide +kernel) (pa_cons
          (pe_lc (own := [("text", 5)]) (g := gName 5) (te := tDGet (tVar 4) (tVar 5)) (by rfl) scCheckedLinks.nd
            (pi_list (pe_callB cr_sortedS (by rfl) B.sorted (by decide +kernel) (pa_cons
              (pe_lock (pe_lc (own := [("text", 5)]) (g := gName 5) (by rfl) scCheckedLinks.nd (pi_keys (pv 4)) (blkOk_by (own := [("text", 5)]) (N := nCL) (sc := defScope sCheckedLinks) (by decide +kernel))
                (fun _ _ _ _ _ => pg_name (i := 5) scCheckedLinks.nd rfl (Or.inl rfl)) (fun _ _ _ _ _ => pts_nil) (fun _ _ _ _ _ => pe_callTy (T := "str") (r := rStr) SkE.call_str_str (by rfl) B.str (by decide +kernel) (pa_cons (pv 5) pa_nil)))) pa_nil)))
            (blkOk_by (own := [("text", 5)]) (N := nCL) (sc := defScope sCheckedLinks) (by decide +kernel))
            (fun _ _ _ _ _ => pg_name (i := 5) scCheckedLinks.nd rfl (Or.inl rfl)) (fun _ _ _ _ _ => pts_nil) (fun _ _ _ _ _ => pe_dget hu (pv 4) (pv 5) (fun _ _ => rfl))) pa_nil)))))), ?_⟩
      refine ⟨_, rfl, (by show 2 ≤ sizeLine; decide), fun tp htp => ?_⟩
      have s0 : Same H (upd H tp (.tup [.ty "list", .ty "tuple"])) := fun b o e => by rw [upd_ne (ne_of_none e htp)]; exact e
      have hL1 := s0 _ _ hL
      refine ⟨_, tp, _, _, _, true, rfl, upd_same, .cons (.ty _) (.cons (.ty _) .nil), .base (.lst hL1), rfl, true, rfl, iteF ?_⟩
      refine ⟨_, rfl, a, _, rfl, SqL.of hL1, KEn.for_enumL (K := K) (a := a) (xs := refs ls) (fun i σ H1 => ∃ v2 v3, σ = [some (.ref a), some (.ref nl), v2, v3, none, none] ∧ Same H H1)
        ⟨none, none, rfl, s0⟩ (fun i σ H1 p => let ⟨_, _, _, s1⟩ := p; SqL.of (s1 _ _ hL)) ?_ ?_⟩
      · rintro i x T0 σ H1 hx ⟨v2, v3, rfl, s1⟩ hT
        obtain ⟨l, el, rfl, ml, hi⟩ := item hx
        have s2 : Same H (upd H1 T0 (.tup [.int (i : Nat), .ref l.1])) := fun b o e => by rw [upd_ne (ne_of_none (s1 _ _ e) hT)]; exact s1 _ _ e
        refine ⟨T0, _, rfl, SqT.of upd_same, rfl, _, _, rfl, _, _, rfl, rfl, ?_⟩
        refine ⟨_, rfl, _, rfl, l.1, nl, l.2.1, l.2.2, ns, rfl, s2 _ _ (hA l ml), s2 _ _ hN, (hG l ml).2.2.1, (hG l ml).2.2.2.1, (hG l ml).2.2.2.2, fun H2 s3 => ⟨true, rfl, iteF ?_⟩⟩
        have s4 : Same H H2 := s2.trans s3
        have gt : ∀ m ∈ ls.take i, GoodL ns m := fun m hm => hG m (List.mem_of_mem_take hm)
        have at_ : LsAt H (ls.take i) := fun m hm => hA m (List.mem_of_mem_take hm)
        refine ⟨_, rfl, _, rfl, _, rfl, _, rfl, a, _, rfl, SqL.of (s4 _ _ hL), fun p hp => ?_⟩
        rw [cut_take hi]
        have s5 : Same H (upd H2 p (.lst (refs (ls.take i)))) := fun b o e => by rw [upd_ne (ne_of_none (s4 _ _ e) hp)]; exact s4 _ _ e
        refine ⟨dL l, (ls.take i).map dL, dp_dL (s5 _ _ (hA l ml)), .lst (SqL.of upd_same) (dp_dLs (at_.same s5)), dL_shaped (hG l ml), dLs_shapedL gt, _, rfl, ?_⟩
        rw [any_dL hD el]
        exact iteF ⟨_, _, rfl, s5⟩
      · rintro σ H1 ⟨v2, v3, rfl, s1⟩
        refine ⟨_, rfl, a, rfl, ⟨_, SqL.of (s1 _ _ hL)⟩, fun d hd => dc_list (K := K) (a := a) (xs := refs ls) (fun i H2 => H2 = upd H1 d (.dK (dOf (ls.take i)))) rfl ?_ ?_ ?_⟩
        · rintro i H2 hi rfl
          exact SqL.of (by rw [upd_ne (ne_of_none (s1 _ _ hL) hd)]; exact s1 _ _ hL)
        · rintro i x H2 hx rfl
          obtain ⟨l, el, rfl, ml, hi⟩ := item hx
          have hl2 : upd H1 d (.dK (dOf (ls.take i))) l.1 = some (.tup [.str l.2.1, .str l.2.2]) := by rw [upd_ne (ne_of_none (s1 _ _ (hA l ml)) hd)]; exact s1 _ _ (hA l ml)
          refine ⟨rfl, yesT ?_⟩
          refine ⟨⟨_, rfl⟩, _, rfl, _, l.1, [l.2.1, l.2.2], rfl, rfl, .inr (SqT.of hl2), ?_, _, rfl, dOf (ls.take i), .inr (keyOf l), rfl, upd_same, ?_, ?_⟩
          · have h1 := len_good (hG l ml).1
            have h2 := len_good (hG l ml).2.1
            show l.2.1.length + (l.2.2.length + 0) + 2 * 1 ≤ 16777216
            omega
          · refine small1000 ?_
            unfold dOf
            rw [List.length_map, List.length_take]
            omega
          · rw [upd_upd, dOf_put kn el]
        · rintro H2 rfl
          rw [lr, List.take_length]
          refine ⟨d, .dK (dOf ls), upd_same, True.intro, fun od => ?_⟩
          rw [upd_upd]
          refine ⟨_, rfl, d, od, rfl, .inl ⟨dOf ls, upd_same, fun D hDn => ?_⟩⟩
          have ndD : d ≠ D := fun z => by rw [← z, upd_same] at hDn; cases hDn
          refine lc_keysK (o := od) (kvs := dOf ls) (fun i H2 => H2 = upd (upd H1 d (.frz od (.dK (dOf ls)))) D (.lst (((ls.take i).map keyOf).map V.str))) rfl ?_ ?_ ?_
          · rintro i H2 rfl
            rw [upd_ne ndD]
            exact upd_same
          · rintro i k v H2 hk rfl
            unfold dOf at hk
            rw [List.getElem?_map] at hk
            cases el : ls[i]? with
            | none => rw [el] at hk; cases hk
            | some l =>
              rw [el] at hk
              cases hk
              have hi := (List.getElem?_eq_some_iff.mp el).1
              refine ⟨rfl, yesT ?_⟩
              refine ⟨_, rfl, _, rfl, _, upd_same, ?_, ?_⟩
              · refine small1000 ?_
                rw [List.length_map, List.length_map, List.length_take]
                omega
              · rw [upd_upd, List.take_add_one, el]
                simp [kV]
          · rintro H2 rfl
            have ed : (dOf ls).length = ls.length := by unfold dOf; rw [List.length_map]
            rw [ed, List.take_length]
            refine ⟨by rw [upd_ne ndD]; exact upd_same, ?_⟩
            have eH : upd (upd (upd H1 d (.frz od (.dK (dOf ls)))) D (.lst ((ls.map keyOf).map V.str))) d (.dK (dOf ls)) = upd (upd H1 d (.dK (dOf ls))) D (.lst ((ls.map keyOf).map V.str)) := by
              rw [upd_comm (Ne.symm ndD), upd_upd]
            rw [eH]
            have hD1 : H1 D = none := by rw [upd_ne (Ne.symm ndD)] at hDn; exact hDn
            have s2 : Same H (upd (upd H1 d (.dK (dOf ls))) D (.lst ((ls.map keyOf).map V.str))) := fun b o e => by
              rw [upd_ne (ne_of_none (s1 _ _ e) hD1), upd_ne (ne_of_none (s1 _ _ e) hd)]
              exact s1 _ _ e
            refine ⟨D, ls.map keyOf, rfl, .inl (.inl upd_same), by rw [List.length_map]; omega, fun ys p hp hs hpn => ?_⟩
            have dp : d ≠ p := ne_of_none (show upd (upd H1 d (.dK (dOf ls))) D (.lst ((ls.map keyOf).map V.str)) d = some (.dK (dOf ls)) by rw [upd_ne ndD]; exact upd_same) hpn
            generalize hH3 : upd (upd (upd H1 d (.dK (dOf ls))) D (.lst ((ls.map keyOf).map V.str))) p (.lst (ys.map V.str)) = H3
            have s3 : Same H H3 := fun b o e => by rw [← hH3, upd_ne (ne_of_none (s2 _ _ e) hpn)]; exact s2 _ _ e
            have d3 : H3 d = some (.dK (dOf ls)) := by rw [← hH3, upd_ne dp, upd_ne ndD]; exact upd_same
            have p3 : H3 p = some (.lst (ys.map V.str)) := by rw [← hH3]; exact upd_same
            refine ⟨p, rfl, ⟨_, SqL.of p3⟩, fun R hR => lc_list (K := K) (a := p) (xs := ys.map V.str) (fun i H4 => H4 = upd H3 R (.lst (refs ((ys.take i).map (lkOf ls))))) rfl ?_ ?_ ?_⟩
            · rintro i H4 hi rfl
              exact SqL.of (by rw [upd_ne (ne_of_none p3 hR)]; exact p3)
            · rintro i x H4 hx rfl
              rw [List.getElem?_map] at hx
              cases ey : ys[i]? with
              | none => rw [ey] at hx; cases hx
              | some k =>
                rw [ey] at hx
                cases hx
                obtain ⟨ml, ek⟩ := lkOf_mem kn hp (List.mem_of_getElem? ey)
                have hi := (List.getElem?_eq_some_iff.mp ey).1
                refine ⟨rfl, yesT ?_⟩
                have g := dOf_val kn ml
                rw [ek] at g
                have d4 : upd H3 R (.lst (refs ((ys.take i).map (lkOf ls)))) d = some (.dK (dOf ls)) := by rw [upd_ne (ne_of_none d3 hR)]; exact d3
                have dg := DGet.k (k := .inr k) d4
                rw [g] at dg
                refine ⟨_, rfl, _, rfl, d, _, rfl, dg, _, upd_same, ?_, ?_⟩
                · refine small1000 ?_
                  have hy : ys.length = ls.length := by rw [hp.length_eq, List.length_map]
                  unfold refs
                  rw [List.length_map, List.length_map, List.length_take]
                  omega
                · rw [upd_upd, List.take_add_one, ey]
                  simp [refs]
            · rintro H4 rfl
              rw [List.length_map, List.take_length]
              refine ⟨R, _, rfl, .inl ⟨SqL.of upd_same, fun z hz => q _ z _ (fun b o e => ?_) (norm_of kn hp hs) upd_same⟩⟩
              have e3 := s3 _ _ e
              have e4 : upd H3 R (.lst (refs (ys.map (lkOf ls)))) b = some o := by rw [upd_ne (ne_of_none e3 hR)]; exact e3
              rw [upd_ne (ne_of_none e4 hz)]
              exact e4
    · refine ⟨_, pss_cons (ps_if (pt_not (pt_val (pe_callB call_isiT (by rfl) B.isinstance (by decide +kernel) (pa_cons (pv 0) (pa_cons (pe_tup (pa_cons (pe_bltn (v := .ty "list") (by rfl) B.list (by decide +kernel) rfl) (pa_cons (pe_bltn (v := .ty "tuple") (by rfl) B.tuple (by decide +kernel) rfl) pa_nil))) pa_nil))))) (pss_one ps_never) pss_nil)
        (pss_cons (ps_for PassesOwn.never rfl (KEn.pi_enumT (by rfl) B.enumerate (pa_cons (pv 0) pa_nil)) (pg_tup rfl (pgs_cons (pg_name (i := 2) scCheckedLinks.nd rfl (.inl rfl)) (pgs_cons (pg_name (i := 3) scCheckedLinks.nd rfl (.inl rfl)) pgs_nil)))
          (pss_one (ps_if (PW.pt (pw_or (pt_not (pt_val (pe_call GI hr (by rfl) dI.m dI.k dI.b .nil pass0 (pa_cons (pv 3) (pa_cons (pv 1) pa_nil)))))
            (pw_or1 (pt_cmpR (KEn.op_inDT hu65) (pv 3) (pe_slice sl_tupA (pv 0) po_none (po_some (pv 2))) (by rfl))))) (pss_one ps_never) pss_nil)))
        (pss_cons (ps_set (i := 4) scCheckedLinks.nd rfl (Or.inr rfl) (pe_dc (own := [("value", 3)]) (g := gName 3) (tk := tM1 (rJoin K) (tC (.str " ")) (tVar 3)) (tv := tVar 3) (by rfl) scCheckedLinks.nd (pi_tup (pv 0)) (blkOk_by (own := [("value", 3)]) (N := nCL) (sc := defScope sCheckedLinks) (by decide +kernel))
            (fun _ _ _ _ _ => pg_name (i := 3) scCheckedLinks.nd rfl (Or.inl rfl)) (fun _ _ _ _ _ => pts_nil) (fun _ _ _ _ _ => pe_join pe_str (pv 3)) (fun _ _ _ _ _ => pv 3)))
        (pss_one (ps_ret (pe_callTy call_tuple_of (by rfl) B.tuple (by decide +kernel) (pa_cons
          (pe_lc (own := [("text", 5)]) (g := gName 5) (te := tDGet (tVar 4) (tVar 5)) (by rfl) scCheckedLinks.nd
            (pi_list (pe_callB cr_sortedS (by rfl) B.sorted (by decide +kernel) (pa_cons
              (pe_lock (pe_lc (own := [("text", 5)]) (g := gName 5) (by rfl) scCheckedLinks.nd (pi_keys (pv 4)) (blkOk_by (own := [("text", 5)]) (N := nCL) (sc := defScope sCheckedLinks) (by decide +kernel))
                (fun _ _ _ _ _ => pg_name (i := 5) scCheckedLinks.nd rfl (Or.inl rfl)) (fun _ _ _ _ _ => pts_nil) (fun _ _ _ _ _ => pe_callTy (T := "str") (r := rStr) SkE.call_str_str (by rfl) B.str (by decide +kernel) (pa_cons (pv 5) pa_nil)))) pa_nil)))
            (blkOk_by (own := [("text", 5)]) (N := nCL) (sc := defScope sCheckedLinks) (by decide +kernel))
            (fun _ _ _ _ _ => pg_name (i := 5) scCheckedLinks.nd rfl (Or.inl rfl)) (fun _ _ _ _ _ => pts_nil) (fun _ _ _ _ _ => pe_dget hu (pv 4) (pv 5) (fun _ _ => rfl))) pa_nil)))))), ?_⟩
      refine ⟨_, rfl, (by show 2 ≤ sizeLine; decide), fun tp htp => ?_⟩
      have s0 : Same H (upd H tp (.tup [.ty "list", .ty "tuple"])) := fun b o e => by rw [upd_ne (ne_of_none e htp)]; exact e
      have hL1 := s0 _ _ hL
      refine ⟨_, tp, _, _, _, true, rfl, upd_same, .cons (.ty _) (.cons (.ty _) .nil), .base (.tup hL1), rfl, true, rfl, iteF ?_⟩
      refine ⟨_, rfl, a, _, rfl, SqT.of hL1, KEn.for_enumT (K := K) (a := a) (xs := refs ls) (fun i σ H1 => ∃ v2 v3, σ = [some (.ref a), some (.ref nl), v2, v3, none, none] ∧ Same H H1)
        ⟨none, none, rfl, s0⟩ (fun i σ H1 p => let ⟨_, _, _, s1⟩ := p; SqT.of (s1 _ _ hL)) ?_ ?_⟩
      · rintro i x T0 σ H1 hx ⟨v2, v3, rfl, s1⟩ hT
        obtain ⟨l, el, rfl, ml, hi⟩ := item hx
        have s2 : Same H (upd H1 T0 (.tup [.int (i : Nat), .ref l.1])) := fun b o e => by rw [upd_ne (ne_of_none (s1 _ _ e) hT)]; exact s1 _ _ e
        refine ⟨T0, _, rfl, SqT.of upd_same, rfl, _, _, rfl, _, _, rfl, rfl, ?_⟩
        refine ⟨_, rfl, _, rfl, l.1, nl, l.2.1, l.2.2, ns, rfl, s2 _ _ (hA l ml), s2 _ _ hN, (hG l ml).2.2.1, (hG l ml).2.2.2.1, (hG l ml).2.2.2.2, fun H2 s3 => ⟨true, rfl, iteF ?_⟩⟩
        have s4 : Same H H2 := s2.trans s3
        have gt : ∀ m ∈ ls.take i, GoodL ns m := fun m hm => hG m (List.mem_of_mem_take hm)
        have at_ : LsAt H (ls.take i) := fun m hm => hA m (List.mem_of_mem_take hm)
        refine ⟨_, rfl, _, rfl, _, rfl, _, rfl, a, _, rfl, SqT.of (s4 _ _ hL), fun whole => ?_, fun _ p hp => ?_⟩
        · rw [lr] at whole
          have w2 := whole.2
          rw [HT.sIx_nat, Nat.min_eq_left (Nat.le_of_lt hi)] at w2
          omega
        rw [cut_take hi]
        have s5 : Same H (upd H2 p (.tup (refs (ls.take i)))) := fun b o e => by rw [upd_ne (ne_of_none (s4 _ _ e) hp)]; exact s4 _ _ e
        refine ⟨dL l, (ls.take i).map dL, dp_dL (s5 _ _ (hA l ml)), .tup (SqT.of upd_same) (dp_dLs (at_.same s5)), dL_shaped (hG l ml), dLs_shapedT gt, _, rfl, ?_⟩
        rw [any_dL hD el]
        exact iteF ⟨_, _, rfl, s5⟩
      · rintro σ H1 ⟨v2, v3, rfl, s1⟩
        refine ⟨_, rfl, a, rfl, ⟨_, SqT.of (s1 _ _ hL)⟩, fun d hd => dc_tup (K := K) (a := a) (xs := refs ls) (fun i H2 => H2 = upd H1 d (.dK (dOf (ls.take i)))) rfl ?_ ?_ ?_⟩
        · rintro i H2 hi rfl
          exact SqT.of (by rw [upd_ne (ne_of_none (s1 _ _ hL) hd)]; exact s1 _ _ hL)
        · rintro i x H2 hx rfl
          obtain ⟨l, el, rfl, ml, hi⟩ := item hx
          have hl2 : upd H1 d (.dK (dOf (ls.take i))) l.1 = some (.tup [.str l.2.1, .str l.2.2]) := by rw [upd_ne (ne_of_none (s1 _ _ (hA l ml)) hd)]; exact s1 _ _ (hA l ml)
          refine ⟨rfl, yesT ?_⟩
          refine ⟨⟨_, rfl⟩, _, rfl, _, l.1, [l.2.1, l.2.2], rfl, rfl, .inr (SqT.of hl2), ?_, _, rfl, dOf (ls.take i), .inr (keyOf l), rfl, upd_same, ?_, ?_⟩
          · have h1 := len_good (hG l ml).1
            have h2 := len_good (hG l ml).2.1
            show l.2.1.length + (l.2.2.length + 0) + 2 * 1 ≤ 16777216
            omega
          · refine small1000 ?_
            unfold dOf
            rw [List.length_map, List.length_take]
            omega
          · rw [upd_upd, dOf_put kn el]
        · rintro H2 rfl
          rw [lr, List.take_length]
          refine ⟨d, .dK (dOf ls), upd_same, True.intro, fun od => ?_⟩
          rw [upd_upd]
          refine ⟨_, rfl, d, od, rfl, .inl ⟨dOf ls, upd_same, fun D hDn => ?_⟩⟩
          have ndD : d ≠ D := fun z => by rw [← z, upd_same] at hDn; cases hDn
          refine lc_keysK (o := od) (kvs := dOf ls) (fun i H2 => H2 = upd (upd H1 d (.frz od (.dK (dOf ls)))) D (.lst (((ls.take i).map keyOf).map V.str))) rfl ?_ ?_ ?_
          · rintro i H2 rfl
            rw [upd_ne ndD]
            exact upd_same
          · rintro i k v H2 hk rfl
            unfold dOf at hk
            rw [List.getElem?_map] at hk
            cases el : ls[i]? with
            | none => rw [el] at hk; cases hk
            | some l =>
              rw [el] at hk
              cases hk
              have hi := (List.getElem?_eq_some_iff.mp el).1
              refine ⟨rfl, yesT ?_⟩
              refine ⟨_, rfl, _, rfl, _, upd_same, ?_, ?_⟩
              · refine small1000 ?_
                rw [List.length_map, List.length_map, List.length_take]
                omega
              · rw [upd_upd, List.take_add_one, el]
                simp [kV]
          · rintro H2 rfl
            have ed : (dOf ls).length = ls.length := by unfold dOf; rw [List.length_map]
            rw [ed, List.take_length]
            refine ⟨by rw [upd_ne ndD]; exact upd_same, ?_⟩
            have eH : upd (upd (upd H1 d (.frz od (.dK (dOf ls)))) D (.lst ((ls.map keyOf).map V.str))) d (.dK (dOf ls)) = upd (upd H1 d (.dK (dOf ls))) D (.lst ((ls.map keyOf).map V.str)) := by
              rw [upd_comm (Ne.symm ndD), upd_upd]
            rw [eH]
            have hD1 : H1 D = none := by rw [upd_ne (Ne.symm ndD)] at hDn; exact hDn
            have s2 : Same H (upd (upd H1 d (.dK (dOf ls))) D (.lst ((ls.map keyOf).map V.str))) := fun b o e => by
              rw [upd_ne (ne_of_none (s1 _ _ e) hD1), upd_ne (ne_of_none (s1 _ _ e) hd)]
              exact s1 _ _ e
            refine ⟨D, ls.map keyOf, rfl, .inl (.inl upd_same), by rw [List.length_map]; omega, fun ys p hp hs hpn => ?_⟩
            have dp : d ≠ p := ne_of_none (show upd (upd H1 d (.dK (dOf ls))) D (.lst ((ls.map keyOf).map V.str)) d = some (.dK (dOf ls)) by rw [upd_ne ndD]; exact upd_same) hpn
            generalize hH3 : upd (upd (upd H1 d (.dK (dOf ls))) D (.lst ((ls.map keyOf).map V.str))) p (.lst (ys.map V.str)) = H3
            have s3 : Same H H3 := fun b o e => by rw [← hH3, upd_ne (ne_of_none (s2 _ _ e) hpn)]; exact s2 _ _ e
            have d3 : H3 d = some (.dK (dOf ls)) := by rw [← hH3, upd_ne dp, upd_ne ndD]; exact upd_same
            have p3 : H3 p = some (.lst (ys.map V.str)) := by rw [← hH3]; exact upd_same
            refine ⟨p, rfl, ⟨_, SqL.of p3⟩, fun R hR => lc_list (K := K) (a := p) (xs := ys.map V.str) (fun i H4 => H4 = upd H3 R (.lst (refs ((ys.take i).map (lkOf ls))))) rfl ?_ ?_ ?_⟩
            · rintro i H4 hi rfl
              exact SqL.of (by rw [upd_ne (ne_of_none p3 hR)]; exact p3)
            · rintro i x H4 hx rfl
              rw [List.getElem?_map] at hx
              cases ey : ys[i]? with
              | none => rw [ey] at hx; cases hx
              | some k =>
                rw [ey] at hx
                cases hx
                obtain ⟨ml, ek⟩ := lkOf_mem kn hp (List.mem_of_getElem? ey)
                have hi := (List.getElem?_eq_some_iff.mp ey).1
                refine ⟨rfl, yesT ?_⟩
                have g := dOf_val kn ml
                rw [ek] at g
                have d4 : upd H3 R (.lst (refs ((ys.take i).map (lkOf ls)))) d = some (.dK (dOf ls)) := by rw [upd_ne (ne_of_none d3 hR)]; exact d3
                have dg := DGet.k (k := .inr k) d4
                rw [g] at dg
                refine ⟨_, rfl, _, rfl, d, _, rfl, dg, _, upd_same, ?_, ?_⟩
                · refine small1000 ?_
                  have hy : ys.length = ls.length := by rw [hp.length_eq, List.length_map]
                  unfold refs
                  rw [List.length_map, List.length_map, List.length_take]
                  omega
                · rw [upd_upd, List.take_add_one, ey]
                  simp [refs]
            · rintro H4 rfl
              rw [List.length_map, List.take_length]
              refine ⟨R, _, rfl, .inl ⟨SqL.of upd_same, fun z hz => q _ z _ (fun b o e => ?_) (norm_of kn hp hs) upd_same⟩⟩
              have e3 := s3 _ _ e
              have e4 : upd H3 R (.lst (refs (ys.map (lkOf ls)))) b = some o := by rw [upd_ne (ne_of_none e3 hR)]; exact e3
              rw [upd_ne (ne_of_none e4 hz)]
              exact e4
end
end CT
set_option Elab.async false
set_option linter.all false
set_option maxRecDepth 100000
set_option maxHeartbeats 4000000
/-! W5: the errors; check_parts -/
namespace CT
open PySem L2
/-- an own class over a built-in exception, its __init__(self, f) -/
structure ExK (K : PySem.W.Frag) (mg : Str → Option Value) (x f : Str) (C fI : Addr) (fdI : FuncData) (B newId initId : String) (bm : List Value) : Prop where
  T : KX.OexG K C B newId initId bm
  iC : PySem.W.findIn K (.ref C) "__init__" = some (some (.ref fI))
  tI : PySem.W.typeIn K (.ref fI) = some (.type "function")
  m : mg x = some (.ref C)
  nf : PySem.W.takerIn K C f = some none
  b : Binds K fdI ["self", f] []
/-- the base class TownError as it is read -/
structure BaseK (K : PySem.W.Frag) (mg : Str → Option Value) (C0 : Addr) : Prop where
  m : mg "TownError" = some (.ref C0)
  rd : PySem.W.readsIn K C0 (.type "type") = true
  ga : PySem.W.specialIn K (.ref C0) "__getattribute__" = some (some (.builtin "type.__getattribute__"))
  v : PySem.W.findCls K (.ref C0) (.type "type") "__init__" = some (.val (.builtin "ValueError.__init__"))
structure RunK (K : PySem.W.Frag) (mg : Str → Option Value) : Prop where
  m : mg "RuntimeError" = none
  v : PySem.W.findCls K (.type "RuntimeError") (.type "type") "__init__" = some (.val (.builtin "RuntimeError.__init__"))
def spExInit (C : Addr) (f : Str) : Sp := fun vs H Q _ => ∃ (a : Addr) (y : V), vs = [.ref a, y] ∧ H a = some (exo a C none) ∧ ∀ dx, H dx = none → dx ≠ a → Q .non (upd (upd H dx (exd dx [(f, y)])) a (exo a C (some dx)))
/-- what leaves as an error of the class at C whose field f holds z -/
def BadE (C : Addr) (f z : Str) (H : Hp) (E : XK) : Prop := ∀ d H', Same H H' → H' d = some (.xd [(f, .str z)]) → E (.ref C) (some d) H'
theorem mk_bad {C : Addr} {f z : Str} {H : Hp} {E : XK} (h : BadE C f z H E) : ∀ a, H a = none → spExInit C f (.ref a :: ([.str z] ++ [])) (upd H a (exo a C none))
    (fun v H2 => v = .non ∧ ∃ (d : Addr) (fs : List (Str × V)), H2 a = some (exo a C (some d)) ∧ H2 d = some (exd d fs) ∧ H d = none ∧ E (.ref C) (some d) (upd (del H2 a) d (.xd fs))) (fun _ _ _ => False) := by
  intro a ha
  refine ⟨a, .str z, rfl, upd_same, fun dx hdx ne => ⟨rfl, dx, _, upd_same, by rw [upd_ne ne]; exact upd_same, ?_, ?_⟩⟩
  · rw [upd_ne ne] at hdx
    exact hdx
  · refine h dx _ (fun b o e => ?_) upd_same
    have hd : H dx = none := by rw [upd_ne ne] at hdx; exact hdx
    have n1 := ne_of_none e hd
    have n2 := ne_of_none e ha
    rw [upd_ne n1, del_ne n2, upd_ne n2, upd_ne n1, upd_ne n2]
    exact e
section
variable {P : Program} {w : World} {K : PySem.W.Frag} {mg : Str → Option Value} {base : Heap}
theorem scBadPart : FnScope ["self", "part"] ["self", "part"] (defScope sBadPartInit) := ⟨rfl, rfl, rfl, by decide +kernel, rfl, by decide +kernel, by decide +kernel⟩
theorem ok_badPart {f C C0 : Addr} {fd : FuncData} (F : Fun K "__init__" "BadPart.__init__" sBadPartInit f fd) (R : BaseK K mg C0) (T : ExK K mg "BadPart" "part" C f fd "ValueError" "ValueError.__new__" "ValueError.__init__" [.type "ValueError", .type "Exception", .type "BaseException", .type "object"]) : FnOk P w K mg base CX0 1 f fd ["self", "part"] (spExInit C "part") := by
  refine F.ok scBadPart (fun vs H Q E h => ?_) (fun cdv A outer s H vs Q E hr h => ?_)
  · obtain ⟨a, y, rfl, _⟩ := h
    rfl
  · obtain ⟨a, y, rfl, ha, q⟩ := h
    refine ⟨_, pss_cons (ps_expr (KX.pe_baseO (by rfl) R.m (by decide) R.rd R.ga R.v (by decide +kernel) (pa_cons (pv 0) (pa_cons pe_str pa_nil)))) (pss_one (KX.ps_ostG (pv 0) (pv 1))), ?_⟩
    refine ⟨_, rfl, a, C, _, _, _, [.str "the part does not fit"], rfl, (by show 1 ≤ 1000; decide), T.T, ha, ?_⟩
    exact ⟨_, rfl, _, rfl, a, C, _, _, _, _, rfl, T.T, T.nf, ha, fun dx h1 h2 => q dx h1 h2⟩
theorem scNothing : FnScope ["self", "name"] ["self", "name"] (defScope sNothingInit) := ⟨rfl, rfl, rfl, by decide +kernel, rfl, by decide +kernel, by decide +kernel⟩
theorem ok_nothing {f C : Addr} {fd : FuncData} (F : Fun K "__init__" "NothingToUndo.__init__" sNothingInit f fd) (R : RunK K mg) (T : ExK K mg "NothingToUndo" "name" C f fd "RuntimeError" "RuntimeError.__new__" "RuntimeError.__init__" [.type "RuntimeError", .type "Exception", .type "BaseException", .type "object"]) : FnOk P w K mg base CX0 1 f fd ["self", "name"] (spExInit C "name") := by
  refine F.ok scNothing (fun vs H Q E h => ?_) (fun cdv A outer s H vs Q E hr h => ?_)
  · obtain ⟨a, y, rfl, _⟩ := h
    rfl
  · obtain ⟨a, y, rfl, ha, q⟩ := h
    refine ⟨_, pss_cons (ps_expr (KX.pe_baseB (B := "RuntimeError") (initId := "RuntimeError.__init__") (by rfl) R.m (by decide +kernel) (by decide) (by decide) (by kernel_rfl) (by decide +kernel) R.v (by decide +kernel) (pa_cons (pv 0) (pa_cons pe_str pa_nil)))) (pss_one (KX.ps_ostG (pv 0) (pv 1))), ?_⟩
    refine ⟨_, rfl, a, C, _, _, _, [.str "there is nothing to be taken back"], rfl, (by show 1 ≤ 1000; decide), T.T, ha, ?_⟩
    exact ⟨_, rfl, _, rfl, a, C, _, _, _, _, rfl, T.T, T.nf, ha, fun dx h1 h2 => q dx h1 h2⟩
def Tops (t : Int) : Prop := 0 ≤ t ∧ t ≤ 5
def spCheckParts (Cb : Addr) : Sp := fun vs H Q E => ∃ (money tops : Int) (m : Addr) (xs : List V) (nb : Bool), vs = [.int money, .ref m, .int tops, .bl nb] ∧ 0 ≤ money ∧ money ≤ 9 ∧ H m = some (.tup xs) ∧ MemIs xs ∧
  (Tops tops → Q .non H) ∧ (¬ Tops tops → BadE Cb "part" "tops" H E)
theorem scCheckParts : FnScope ["money", "memory", "tops", "numbered"] ["money", "memory", "tops", "numbered"] (defScope sCheckParts) := ⟨rfl, rfl, rfl, by decide +kernel, rfl, by decide +kernel, by decide +kernel⟩
theorem ok_checkParts {f fB fM Cb fI : Addr} {fd fdB fdM fdI : FuncData} {B0 nI iI : String} {bm : List Value} (F : Fun K "check_parts" "check_parts" sCheckParts f fd) (B : Bl mg) (Cc : Cn mg) (X0 : ExK K mg "BadPart" "part" Cb fI fdI B0 nI iI bm) (GX : FnOk P w K mg base CX0 1 fI fdI ["self", "part"] (spExInit Cb "part"))
    (GB : FnOk P w K mg base CX0 2 fB fdB ["value", "least", "most"] spIsBetween) (dB : Dn K mg "is_between" fB fdB ["value", "least", "most"]) (GM : FnOk P w K mg base CX0 3 fM fdM ["value"] spIsMemory) (dM : Dn K mg "is_memory" fM fdM ["value"]) :
    FnOk P w K mg base (L2.CX P w) 4 f fd ["money", "memory", "tops", "numbered"] (spCheckParts Cb) := by
  obtain ⟨t1, m1⟩ := Cc.mostMoney
  obtain ⟨t2, m2⟩ := Cc.mostTops
  refine F.okX scCheckParts (fun vs H Q E h => ?_) (fun cdv A outer s H vs Q E hr h => ?_)
  · obtain ⟨money, tops, m, xs, nb, rfl, _⟩ := h
    rfl
  · obtain ⟨money, tops, m, xs, nb, rfl, h0, h9, hm, mi, qn, qx⟩ := h
    have hr2 : Room 2 _ := hr.mono (by decide)
    refine ⟨_, pss_cons (ps_if (pt_not (pt_val (pe_call GB hr2 (by rfl) dB.m dB.k dB.b .nil pass0 (pa_cons (pv 0) (pa_cons pe_int (pa_cons (pe_glob (v := .int 9) (by rfl) m1 ⟨_, rfl⟩) pa_nil)))))) (pss_one ps_never) pss_nil)
      (pss_cons (ps_if (pt_not (pt_val (pe_call GM hr (by rfl) dM.m dM.k dM.b .nil pass0 (pa_cons (pv 1) pa_nil)))) (pss_one ps_never) pss_nil)
      (pss_cons (ps_if (pt_not (pt_val (pe_call GB hr2 (by rfl) dB.m dB.k dB.b .nil pass0 (pa_cons (pv 2) (pa_cons pe_int (pa_cons (pe_glob (v := .int 5) (by rfl) m2 ⟨_, rfl⟩) pa_nil))))))
        (pss_one (ps_raise rfl (takes_of rfl rfl rfl rfl) (KX.pmk_g X0.T X0.iC X0.tI GX hr2 X0.b pass0 (by rfl) X0.m (pa_cons pe_str pa_nil)))) pss_nil)
      (pss_one (ps_if (pt_not (pt_val (pe_callB call_isi (by rfl) B.isinstance (by decide +kernel) (pa_cons (pv 3) (pa_cons (pe_bltn (v := .ty "bool") (by rfl) B.bool (by decide +kernel) rfl) pa_nil))))) (pss_one ps_never) pss_nil)))), ?_⟩
    refine ⟨_, rfl, money, 0, 9, rfl, ?_⟩
    rw [decide_eq_true (⟨h0, h9⟩ : (0 : Int) ≤ money ∧ money ≤ 9)]
    refine ⟨true, rfl, iteF ?_⟩
    refine ⟨_, rfl, m, xs, rfl, hm, mi, true, rfl, iteF ?_⟩
    refine ⟨_, rfl, tops, 0, 5, rfl, ?_⟩
    by_cases ht : Tops tops
    · rw [decide_eq_true (show (0 : Int) ≤ tops ∧ tops ≤ 5 from ht)]
      refine ⟨true, rfl, iteF ?_⟩
      exact ⟨_, rfl, _, _, _, _, true, rfl, .ty "bool", .base (.bl nb), kit_ty (by decide +kernel), true, rfl, iteF (qn ht)⟩
    · rw [decide_eq_false (show ¬ ((0 : Int) ≤ tops ∧ tops ≤ 5) from ht)]
      refine ⟨false, rfl, iteT ?_⟩
      exact ⟨(by show 1 ≤ 1000; decide), mk_bad (qx ht)⟩
end
end CT
set_option Elab.async false
set_option linter.all false
set_option maxRecDepth 100000
set_option maxHeartbeats 4000000
/-! W6: Town: names, __init__ -/
namespace CT
open PySem L2
structure TownD where
  rs : Rs
  ls : List Lk
  money : Int
  mem : Addr
  memx : List V
  tops : Int
  nb : Bool
def nf (row lk : Addr) (D : TownD) : List (Str × V) := [("row", .ref row), ("links", .ref lk), ("money", .int D.money), ("memory", .ref D.mem), ("tops", .int D.tops), ("numbered", .bl D.nb)]
theorem nf_put (row lk : Addr) (D : TownD) : putF "numbered" (.bl D.nb) (putF "tops" (.int D.tops) (putF "memory" (.ref D.mem) (putF "money" (.int D.money) (putF "links" (.ref lk) (putF "row" (.ref row) []))))) = nf row lk D := by
  have a1 : ¬ (("row" : Str) = "links") := by decide
  have a2 : ¬ (("row" : Str) = "money") := by decide
  have a3 : ¬ (("row" : Str) = "memory") := by decide
  have a4 : ¬ (("row" : Str) = "tops") := by decide
  have a5 : ¬ (("row" : Str) = "numbered") := by decide
  have b2 : ¬ (("links" : Str) = "money") := by decide
  have b3 : ¬ (("links" : Str) = "memory") := by decide
  have b4 : ¬ (("links" : Str) = "tops") := by decide
  have b5 : ¬ (("links" : Str) = "numbered") := by decide
  have c3 : ¬ (("money" : Str) = "memory") := by decide
  have c4 : ¬ (("money" : Str) = "tops") := by decide
  have c5 : ¬ (("money" : Str) = "numbered") := by decide
  have d4 : ¬ (("memory" : Str) = "tops") := by decide
  have d5 : ¬ (("memory" : Str) = "numbered") := by decide
  have e5 : ¬ (("tops" : Str) = "numbered") := by decide
  simp only [pf_nil, pf_ne a1, pf_ne a2, pf_ne a3, pf_ne a4, pf_ne a5, pf_ne b2, pf_ne b3, pf_ne b4, pf_ne b5, pf_ne c3, pf_ne c4, pf_ne c5, pf_ne d4, pf_ne d5, pf_ne e5]
  rfl
theorem nf_row (row lk : Addr) (D : TownD) : (nf row lk D).lookup ("row" : Str) = some (.ref row) := lk_eq
theorem nf_links (row lk : Addr) (D : TownD) : (nf row lk D).lookup ("links" : Str) = some (.ref lk) := (lk_ne (by decide)).trans lk_eq
theorem nf_money (row lk : Addr) (D : TownD) : (nf row lk D).lookup ("money" : Str) = some (.int D.money) := (lk_ne (by decide)).trans ((lk_ne (by decide)).trans lk_eq)
theorem nf_memory (row lk : Addr) (D : TownD) : (nf row lk D).lookup ("memory" : Str) = some (.ref D.mem) := (lk_ne (by decide)).trans ((lk_ne (by decide)).trans ((lk_ne (by decide)).trans lk_eq))
theorem nf_tops (row lk : Addr) (D : TownD) : (nf row lk D).lookup ("tops" : Str) = some (.int D.tops) := (lk_ne (by decide)).trans ((lk_ne (by decide)).trans ((lk_ne (by decide)).trans ((lk_ne (by decide)).trans lk_eq)))
theorem nf_numbered (row lk : Addr) (D : TownD) : (nf row lk D).lookup ("numbered" : Str) = some (.bl D.nb) := (lk_ne (by decide)).trans ((lk_ne (by decide)).trans ((lk_ne (by decide)).trans ((lk_ne (by decide)).trans ((lk_ne (by decide)).trans lk_eq))))
theorem nf_no (row lk : Addr) (D : TownD) {m : Str} (h : (m == ("row" : Str)) = false ∧ (m == ("links" : Str)) = false ∧ (m == ("money" : Str)) = false ∧ (m == ("memory" : Str)) = false ∧ (m == ("tops" : Str)) = false ∧ (m == ("numbered" : Str)) = false) : (nf row lk D).lookup m = none := by
  obtain ⟨h1, h2, h3, h4, h5, h6⟩ := h
  unfold nf
  simp only [List.lookup, h1, h2, h3, h4, h5, h6]
/-- the town D stands at p -/
def TownAt (Cn Ct : Addr) (H : Hp) (p : Addr) (D : TownD) : Prop := ∃ dx row lk, H p = some (.ins Cn dx (nf row lk D)) ∧ H row = some (.tup (refs D.rs)) ∧ H lk = some (.tup (refs D.ls)) ∧ RsAt Ct H D.rs ∧ LsAt H D.ls ∧ H D.mem = some (.tup D.memx)
theorem TownAt.same {Cn Ct : Addr} {H H' : Hp} {p : Addr} {D : TownD} (h : TownAt Cn Ct H p D) (s : Same H H') : TownAt Cn Ct H' p D := by
  obtain ⟨dx, row, lk, h1, h2, h3, h4, h5, h6⟩ := h
  exact ⟨dx, row, lk, s _ _ h1, s _ _ h2, s _ _ h3, h4.same s, h5.same s, s _ _ h6⟩
structure TownK (K : PySem.W.Frag) (mg : Str → Option Value) (C : Addr) : Prop where
  ic : C8.InsC K C
  n1 : NoAttr K C "row"
  n2 : NoAttr K C "links"
  n3 : NoAttr K C "money"
  n4 : NoAttr K C "memory"
  n5 : NoAttr K C "tops"
  n6 : NoAttr K C "numbered"
  m : mg "Town" = some (.ref C)
theorem len_put {f : Str} {v : V} {n : Nat} : ∀ {fs : List (Str × V)}, fs.length ≤ n → (putF f v fs).length ≤ n + 1
  | [], _ => by show 1 ≤ n + 1; omega
  | (g, x) :: r, h => by
    by_cases e : g = f
    · rw [putF, if_pos e]
      rw [List.length_cons] at h ⊢
      omega
    · rw [pf_ne e, List.length_cons]
      rw [List.length_cons] at h
      have := len_put (f := f) (v := v) (n := n - 1) (fs := r) (by omega)
      omega
theorem SameB.at {p c : Addr} {H H' : Hp} {o o0 : HO} (s : SameB p H H') (hp : H p = some o0) (h : H c = some o) (n : o ≠ o0) : H' c = some o :=
  s c o (fun e => n (Option.some.inj (h.symm.trans (e ▸ hp)))) h
theorem SameB.then {p : Addr} {H H1 H2 : Hp} (s : SameB p H H1) (t : SameB p H1 H2) : SameB p H H2 := fun b o n e => t b o n (s b o n e)
theorem SameB.upd {p : Addr} {H H1 : Hp} {u : HO} (s : SameB p H H1) : SameB p H (L2.upd H1 p u) := fun b o n e => by rw [upd_ne n]; exact s b o n e
theorem tf_ne (t : TillD) : tf t ≠ [] := fun z => by unfold tf at z; cases z
theorem RsAt.sameB {Ct C p dx : Addr} {H H' : Hp} {rs : Rs} (h : RsAt Ct H rs) (s : SameB p H H') (hp : H p = some (.ins C dx [])) : RsAt Ct H' rs := fun r hr => by
  obtain ⟨dr, e⟩ := h r hr
  exact ⟨dr, s.at hp e fun z => tf_ne _ (HO.ins.inj z).2.2⟩
theorem LsAt.sameB {C p dx : Addr} {H H' : Hp} {ls : List Lk} (h : LsAt H ls) (s : SameB p H H') (hp : H p = some (.ins C dx [])) : LsAt H' ls := fun l hl => s.at hp (h l hl) (by intro z; cases z)
theorem SameB.of {p : Addr} {H H' : Hp} (s : Same H H') : SameB p H H' := fun b o _ e => s b o e
section
variable {P : Program} {w : World} {K : PySem.W.Frag} {mg : Str → Option Value} {base : Heap}
def spNames (Cn Ct : Addr) : Sp := fun vs H Q _ => ∃ (p dx row : Addr) (fs : List (Str × V)) (rs : Rs), vs = [.ref p] ∧ H p = some (.ins Cn dx fs) ∧ fs.lookup ("row" : Str) = some (V.ref row) ∧ H row = some (.tup (refs rs)) ∧ RsAt Ct H rs ∧ rs.length ≤ 4 ∧
  ∀ H' l, Same H H' → H' l = some (.lst ((namesOf rs).map V.str)) → Q (.ref l) H'
theorem scNames_ : FnScope ["self", "till"] ["self"] (defScope sTownNames) := ⟨rfl, rfl, rfl, by decide +kernel, rfl, by decide +kernel, by decide +kernel⟩
theorem item_rs {rs : Rs} {i : Nat} {x : V} (hx : (refs rs)[i]? = some x) : ∃ r, rs[i]? = some r ∧ x = .ref r.1 ∧ r ∈ rs ∧ i < rs.length := by
  unfold refs at hx
  rw [List.getElem?_map] at hx
  cases er : rs[i]? with
  | none => rw [er] at hx; cases hx
  | some r =>
    rw [er] at hx
    exact ⟨r, rfl, (Option.some.inj hx).symm, List.mem_of_getElem? er, (List.getElem?_eq_some_iff.mp er).1⟩
theorem ok_townNames {f Cn Ct : Addr} {fd : FuncData} (F : Fun K "names" "Town.names" sTownNames f fd) (T : TownK K mg Cn) (TT : TillK K mg Ct) : FnOk P w K mg base CX0 1 f fd ["self"] (spNames Cn Ct) := by
  refine F.ok scNames_ (fun vs H Q E h => ?_) (fun cdv A outer s H vs Q E hr h => ?_)
  · obtain ⟨p, dx, row, fs, rs, rfl, _⟩ := h
    rfl
  · obtain ⟨p, dx, row, fs, rs, rfl, hp, hf, hrow, hR, l4, q⟩ := h
    refine ⟨_, pss_one (ps_ret (pe_lc (own := [("till", 1)]) (g := gName 1) (te := tFld K (tVar 1) "name") (by rfl) scNames_.nd (pi_tup (pe_fld (pv 0) rfl)) (blkOk_by (own := [("till", 1)]) (N := ["self", "till"]) (sc := defScope sTownNames) (by decide +kernel))
      (fun _ _ _ _ _ => pg_name (i := 1) scNames_.nd rfl (Or.inl rfl)) (fun _ _ _ _ _ => pts_nil) (fun _ _ _ _ _ => pe_fld (pv 1) rfl))), ?_⟩
    refine ⟨_, rfl, p, Cn, dx, _, _, rfl, hp, T.ic.cl, T.n1, hf, row, rfl, ⟨_, SqT.of hrow⟩, fun D hD => lc_tup (K := K) (a := row) (xs := refs rs) (fun i H1 => H1 = upd H D (.lst ((namesOf (rs.take i)).map V.str))) rfl ?_ ?_ ?_⟩
    · rintro i H1 hi rfl
      exact SqT.of (by rw [upd_ne (ne_of_none hrow hD)]; exact hrow)
    · rintro i x H1 hx rfl
      obtain ⟨r, er, rfl, mr, hi⟩ := item_rs hx
      obtain ⟨dr, e⟩ := hR r mr
      refine ⟨rfl, yesT ?_⟩
      refine ⟨_, rfl, r.1, Ct, dr, _, _, rfl, (by rw [upd_ne (ne_of_none e hD)]; exact e), TT.ic.cl, TT.n1, tf_name _, _, upd_same, ?_, ?_⟩
      · refine small1000 ?_
        unfold namesOf
        rw [List.length_map, List.length_map, List.length_take]
        omega
      · rw [upd_upd, List.take_add_one, er]
        simp [namesOf]
    · rintro H1 rfl
      have lr : (refs rs).length = rs.length := by unfold refs; rw [List.length_map]
      rw [lr, List.take_length]
      exact q _ D (fun b o e => by rw [upd_ne (ne_of_none e hD)]; exact e) upd_same
def spTownInit (Cn Ct Cb : Addr) : Sp := fun vs H Q E => ∃ (p dx a b : Addr) (D : TownD), vs = [.ref p, .ref a, .ref b, .int D.money, .ref D.mem, .int D.tops, .bl D.nb] ∧ H p = some (.ins Cn dx []) ∧
  (H a = some (.lst (refs D.rs)) ∨ H a = some (.tup (refs D.rs))) ∧ (H b = some (.lst (refs D.ls)) ∨ H b = some (.tup (refs D.ls))) ∧ RsAt Ct H D.rs ∧ LsAt H D.ls ∧ H D.mem = some (.tup D.memx) ∧
  1 ≤ D.rs.length ∧ D.rs.length ≤ 4 ∧ (namesOf D.rs).Nodup ∧ (∀ l ∈ D.ls, GoodL (namesOf D.rs) l) ∧ (D.ls.map (·.2)).Nodup ∧ D.ls.length ≤ 60 ∧ 0 ≤ D.money ∧ D.money ≤ 9 ∧ MemIs D.memx ∧
  (Tops D.tops → ∀ H' ls', SameB p H H' → NormOf D.ls ls' → TownAt Cn Ct H' p { D with ls := ls' } → Q .non H') ∧
  (¬ Tops D.tops → ∀ d H', SameB p H H' → H' d = some (.xd [("part", .str "tops")]) → E (.ref Cb) (some d) H')
abbrev nTI : List Str := ["self", "tills", "links", "money", "memory", "tops", "numbered"]
theorem scTownInit : FnScope nTI nTI (defScope sTownInit) := ⟨rfl, rfl, rfl, by decide +kernel, rfl, by decide +kernel, by decide +kernel⟩
theorem body_townInit {cdv : Value} {f fT fL fP fN Cn Ct Cb : Addr} {fdT fdL fdP fdN : FuncData} (T : TownK K mg Cn) (GT : FnOk P w K mg base CX0 1 fT fdT ["tills"] (spCheckedTills Ct)) (dT : Dn K mg "checked_tills" fT fdT ["tills"])
    (GL : FnOk P w K mg base CX0 2 fL fdL ["links", "names"] spCheckedLinks) (dL : Dn K mg "checked_links" fL fdL ["links", "names"])
    (GP : FnOk P w K mg base (L2.CX P w) 4 fP fdP ["money", "memory", "tops", "numbered"] (spCheckParts Cb)) (dP : Dn K mg "check_parts" fP fdP ["money", "memory", "tops", "numbered"])
    (GN : FnOk P w K mg base CX0 1 fN fdN ["self"] (spNames Cn Ct)) (mN : Mn K Cn "names" fN fdN ["self"]) (A : Around) (outer : List Env) (s : Shared) (H : Hp) (vs : List V) (Q : VK) (E : XK)
    (hr : Room 4 (A.deeper (PyProof.Rows.envOfC "Town.__init__" (defScope sTownInit) s.heap.objs.size f cdv))) (h : spTownInit Cn Ct Cb vs H Q E) :
    ∃ t, PSs (cxOf (L2.CX P w) P w K mg base nTI "Town.__init__" (defScope sTownInit) f cdv A outer s H E) (defBody sTownInit) t ∧ t { nx := fun _ H' => Q .non H', rt := Q } (L2.start nTI vs) H := by
  obtain ⟨p, dx, a, b, D, rfl, hp, ha, hb, hR, hL, hM, l1, l4, nd, gl, ndl, l60, m0, m9, mi, qn, qx⟩ := h
  have hr1 : Room 1 _ := hr.mono (by decide)
  have hr2 : Room 2 _ := hr.mono (by decide)
  refine ⟨_, pss_cons (ps_fld (pv 0) (pe_call GT hr1 (by rfl) dT.m dT.k dT.b .nil pass0 (pa_cons (pv 1) pa_nil)) rfl)
    (pss_cons (ps_fld (pv 0) (pe_call GL hr2 (by rfl) dL.m dL.k dL.b .nil pass0 (pa_cons (pv 2) (pa_cons (pe_meth0 (pv 0) T.ic.cl mN.m GN hr1 mN.b .nil pass0) pa_nil))) rfl)
    (pss_cons (ps_expr (pe_call GP hr (by rfl) dP.m dP.k dP.b .nil (passes_call (takes_of rfl rfl rfl rfl) (fun _ _ _ _ h => h)) (pa_cons (pv 3) (pa_cons (pv 4) (pa_cons (pv 5) (pa_cons (pv 6) pa_nil))))))
    (pss_cons (ps_fld (pv 0) (pv 3) rfl) (pss_cons (ps_fld (pv 0) (pv 4) rfl) (pss_cons (ps_fld (pv 0) (pv 5) rfl) (pss_one (ps_fld (pv 0) (pv 6) rfl))))))), ?_⟩
  refine ⟨_, rfl, a, D.rs, rfl, ha, hR, l1, l4, nd, fun H1 row s1 hrow => ?_⟩
  have hp1 := s1 _ _ hp
  refine ⟨_, rfl, p, Cn, dx, _, rfl, hp1, T.ic.cl, T.n1, (by decide), ?_⟩
  -- behind self.row: H2
  have b2 : SameB p H (upd H1 p (.ins Cn dx (putF "row" (.ref row) []))) := (SameB.of s1).upd
  have r2 : upd H1 p (.ins Cn dx (putF "row" (.ref row) [])) row = some (.tup (refs D.rs)) := by rw [upd_ne (ne_of hrow hp1 (by intro z; cases z))]; exact hrow
  have p2 : upd H1 p (.ins Cn dx (putF "row" (.ref row) [])) p = some (.ins Cn dx (putF "row" (.ref row) [])) := upd_same
  generalize upd H1 p (.ins Cn dx (putF "row" (.ref row) [])) = H2 at b2 r2 p2
  refine ⟨_, rfl, _, rfl, p, dx, _, rfl, p2, (by rw [pf_nil]; exact lk_ne (by decide)), p, dx, row, _, D.rs, rfl, p2, (by rw [pf_nil]; exact lk_eq), r2, hR.sameB b2 hp, l4, fun H3 nl s3 hnl => ?_⟩
  have hb3 : H3 b = some (.lst (refs D.ls)) ∨ H3 b = some (.tup (refs D.ls)) := hb.imp (fun e => s3 _ _ (b2.at hp e (by intro z; cases z))) fun e => s3 _ _ (b2.at hp e (by intro z; cases z))
  have b3 : SameB p H H3 := b2.then (SameB.of s3)
  refine ⟨b, nl, D.ls, _, rfl, hb3, hL.sameB b3 hp, hnl, gl, ndl, l60, fun H4 lk ls' s4 hno hlk => ?_⟩
  have b4 : SameB p H H4 := b3.then (SameB.of s4)
  have p4 := s4 _ _ (s3 _ _ p2)
  have r4 := s4 _ _ (s3 _ _ r2)
  refine ⟨_, rfl, p, Cn, dx, _, rfl, p4, T.ic.cl, T.n2, (Nat.lt_of_le_of_lt (len_put (Nat.le_refl 0)) (by decide)), ?_⟩
  have b5 : SameB p H (upd H4 p (.ins Cn dx (putF "links" (.ref lk) (putF "row" (.ref row) [])))) := b4.upd
  have r5 : upd H4 p (.ins Cn dx (putF "links" (.ref lk) (putF "row" (.ref row) []))) row = some (.tup (refs D.rs)) := by rw [upd_ne (ne_of r4 p4 (by intro z; cases z))]; exact r4
  have k5 : upd H4 p (.ins Cn dx (putF "links" (.ref lk) (putF "row" (.ref row) []))) lk = some (.tup (refs ls')) := by rw [upd_ne (ne_of hlk p4 (by intro z; cases z))]; exact hlk
  have p5 : upd H4 p (.ins Cn dx (putF "links" (.ref lk) (putF "row" (.ref row) []))) p = some (.ins Cn dx (putF "links" (.ref lk) (putF "row" (.ref row) []))) := upd_same
  generalize upd H4 p (.ins Cn dx (putF "links" (.ref lk) (putF "row" (.ref row) []))) = H5 at b5 r5 k5 p5
  have m5 := b5.at hp hM (by intro z; cases z)
  refine ⟨_, rfl, _, rfl, _, rfl, _, rfl, D.money, D.tops, D.mem, D.memx, D.nb, rfl, m0, m9, m5, mi, fun ht => ?_, fun ht d H' s' hd => qx ht d H' (b5.then (SameB.of s')) hd⟩
  refine ⟨_, rfl, _, rfl, p, Cn, dx, _, rfl, p5, T.ic.cl, T.n3, (Nat.lt_of_le_of_lt (len_put (len_put (Nat.le_refl 0))) (by decide)), ?_⟩
  refine ⟨_, rfl, _, rfl, p, Cn, dx, _, rfl, upd_same, T.ic.cl, T.n4, (Nat.lt_of_le_of_lt (len_put (len_put (len_put (Nat.le_refl 0)))) (by decide)), ?_⟩
  rw [upd_upd]
  refine ⟨_, rfl, _, rfl, p, Cn, dx, _, rfl, upd_same, T.ic.cl, T.n5, (Nat.lt_of_le_of_lt (len_put (len_put (len_put (len_put (Nat.le_refl 0))))) (by decide)), ?_⟩
  rw [upd_upd]
  refine ⟨_, rfl, _, rfl, p, Cn, dx, _, rfl, upd_same, T.ic.cl, T.n6, (Nat.lt_of_le_of_lt (len_put (len_put (len_put (len_put (len_put (Nat.le_refl 0)))))) (by decide)), ?_⟩
  rw [upd_upd]
  have e : putF "numbered" (.bl D.nb) (putF "tops" (.int D.tops) (putF "memory" (.ref D.mem) (putF "money" (.int D.money) (putF "links" (.ref lk) (putF "row" (.ref row) []))))) = nf row lk { D with ls := ls' } := nf_put row lk { D with ls := ls' }
  rw [e]
  have b6 : SameB p H (upd H5 p (.ins Cn dx (nf row lk { D with ls := ls' }))) := b5.upd
  exact qn ht _ ls' b6 hno ⟨dx, row, lk, upd_same, by rw [upd_ne (ne_of r5 p5 (by intro z; cases z))]; exact r5, by rw [upd_ne (ne_of k5 p5 (by intro z; cases z))]; exact k5, hR.sameB b6 hp,
    fun l hl => b6.at hp (hL l (hno.1.subset hl)) (by intro z; cases z), b6.at hp hM (by intro z; cases z)⟩
end
end CT
set_option Elab.async false
set_option linter.all false
set_option maxRecDepth 100000
set_option maxHeartbeats 4000000
/-! W7: Town: the methods -/
namespace CT
open PySem L2
section
variable {P : Program} {w : World} {K : PySem.W.Frag} {mg : Str → Option Value} {base : Heap}
/-! ### keyword calls -/
theorem kb_till {f : Addr} {fd : FuncData} (F : Fun K "__init__" "Till.__init__" sTillInit f fd) : KBn K fd ["self", "name", "limit", "heeds"] 3 ["heeds"] (fun us ws => us ++ ws) (fun vs zs => vs ++ zs) := by
  obtain ⟨oc, od, kV, doc, pm, an, cdv, ct, osl, rfl, lk, hcd⟩ := F.ex
  exact ⟨fun s us ws _ l1 l2 => match us, ws, l1, l2 with | [_, _, _], [_], _, _ => .of_eq rfl, fun r1 r2 => r1.append r2⟩
theorem kb_town {f : Addr} {fd : FuncData} (F : Fun K "__init__" "Town.__init__" sTownInit f fd) : KBn K fd nTI 2 ["links", "money", "memory", "tops", "numbered"] (fun us ws => us ++ ws) (fun vs zs => vs ++ zs) := by
  obtain ⟨oc, od, kV, doc, pm, an, cdv, ct, osl, rfl, lk, hcd⟩ := F.ex
  exact ⟨fun s us ws _ l1 l2 => match us, ws, l1, l2 with | [_, _], [_, _, _, _, _], _, _ => .of_eq rfl, fun r1 r2 => r1.append r2⟩
/-! ### __contains__, __getitem__, seat -/
def spHas (Cn Ct : Addr) : Sp := fun vs H Q _ => ∃ (p : Addr) (z : Str) (D : TownD), vs = [.ref p, .str z] ∧ TownAt Cn Ct H p D ∧ D.rs.length ≤ 4 ∧ z ∈ namesOf D.rs ∧ ∀ H', Same H H' → Q (.bl true) H'
abbrev nHas : List Str := ["self", "name", "till"]
theorem scHas : FnScope nHas ["self", "name"] (defScope sTownContains) := ⟨rfl, rfl, rfl, by decide +kernel, rfl, by decide +kernel, by decide +kernel⟩
theorem ok_has {f Cn Ct : Addr} {fd : FuncData} (F : Fun K "__contains__" "Town.__contains__" sTownContains f fd) (B : Bl mg) (T : TownK K mg Cn) (TT : TillK K mg Ct) : FnOk P w K mg base CX0 1 f fd ["self", "name"] (spHas Cn Ct) := by
  refine F.ok scHas (fun vs H Q E h => ?_) (fun cdv A outer s H vs Q E hr h => ?_)
  · obtain ⟨p, z, D, rfl, _⟩ := h
    rfl
  · obtain ⟨p, z, D, rfl, ⟨dx, row, lk, hp, hrow, _, hR, _, _⟩, l4, mz, q⟩ := h
    refine ⟨_, pss_one (ps_ret (pe_and (pe_callB call_isi (by rfl) B.isinstance (by decide +kernel) (pa_cons (pv 1) (pa_cons (pe_bltn (v := .ty "str") (by rfl) B.str (by decide +kernel) rfl) pa_nil)))
      (pe_one (pe_callB (cr_any rfl) (by rfl) B.any (by decide +kernel) (pa_cons
        (pe_lc (own := [("till", 2)]) (g := gName 2) (te := tOp rEq (tFld K (tVar 2) "name") (tVar 1)) (by rfl) scHas.nd (pi_tup (pe_fld (pv 0) rfl)) (blkOk_by (own := [("till", 2)]) (N := nHas) (sc := defScope sTownContains) (by decide +kernel))
          (fun _ _ _ _ _ => pg_name (i := 2) scHas.nd rfl (Or.inl rfl)) (fun _ _ _ _ _ => pts_nil) (fun _ _ _ _ _ => pe_cmpR op_eq (pe_fld (pv 2) rfl) (pv 1) (nomark _))) pa_nil))))), ?_⟩
    refine ⟨_, rfl, _, _, _, _, true, rfl, .ty "str", .base (.str z), kit_ty (by decide +kernel), true, rfl, iteT ?_⟩
    refine ⟨_, rfl, p, Cn, dx, _, _, rfl, hp, T.ic.cl, T.n1, nf_row _ _ _, row, rfl, ⟨_, SqT.of hrow⟩, fun d hd => lc_tup (K := K) (a := row) (xs := refs D.rs)
      (fun i H1 => H1 = upd H d (.lst (((namesOf (D.rs.take i)).map fun n => decide (V.str n = V.str z)).map V.bl))) rfl ?_ ?_ ?_⟩
    · rintro i H1 hi rfl
      exact SqT.of (by rw [upd_ne (ne_of_none hrow hd)]; exact hrow)
    · rintro i x H1 hx rfl
      obtain ⟨r, er, rfl, mr, hi⟩ := item_rs hx
      obtain ⟨dr, e⟩ := hR r mr
      refine ⟨rfl, yesT ?_⟩
      refine ⟨_, rfl, r.1, Ct, dr, _, _, rfl, (by rw [upd_ne (ne_of_none e hd)]; exact e), TT.ic.cl, TT.n1, tf_name _, _, rfl, rfl, _, upd_same, ?_, ?_⟩
      · refine small1000 ?_
        unfold namesOf
        rw [List.length_map, List.length_map, List.length_map, List.length_take]
        omega
      · rw [upd_upd, List.take_add_one, er]
        simp [namesOf]
    · rintro H1 rfl
      have lr : (refs D.rs).length = D.rs.length := by unfold refs; rw [List.length_map]
      rw [lr, List.take_length]
      refine ⟨d, _, rfl, .inl (.inl upd_same), ?_⟩
      have e : (((namesOf D.rs).map fun n => decide (V.str n = V.str z)).any id) = true := by
        rw [List.any_eq_true]
        exact ⟨true, List.mem_map.mpr ⟨z, mz, decide_eq_true rfl⟩, rfl⟩
      rw [e]
      exact q _ fun b o e => by rw [upd_ne (ne_of_none e hd)]; exact e
def spGet (Cn Ct : Addr) : Sp := fun vs H Q _ => ∃ (p : Addr) (z : Str) (D : TownD), vs = [.ref p, .str z] ∧ TownAt Cn Ct H p D ∧ D.rs.length ≤ 4 ∧ z ∈ namesOf D.rs ∧ ∀ r ∈ D.rs, r.2.name = z → Q (.ref r.1) H
theorem scGet : FnScope ["self", "name", "till"] ["self", "name"] (defScope sTownGet) := ⟨rfl, rfl, rfl, by decide +kernel, rfl, by decide +kernel, by decide +kernel⟩
theorem ok_get {f Cn Ct : Addr} {fd : FuncData} (F : Fun K "__getitem__" "Town.__getitem__" sTownGet f fd) (B : Bl mg) (T : TownK K mg Cn) (TT : TillK K mg Ct) : FnOk P w K mg base CX0 1 f fd ["self", "name"] (spGet Cn Ct) := by
  refine F.ok scGet (fun vs H Q E h => ?_) (fun cdv A outer s H vs Q E hr h => ?_)
  · obtain ⟨p, z, D, rfl, _⟩ := h
    rfl
  · obtain ⟨p, z, D, rfl, ⟨dx, row, lk, hp, hrow, _, hR, _, _⟩, l4, mz, q⟩ := h
    refine ⟨_, pss_cons (ps_for PassesOwn.never rfl (pi_tup (pe_fld (pv 0) rfl)) (pg_name (i := 2) scGet.nd rfl (Or.inl rfl))
      (pss_one (ps_if (PW.pt (pw_and (pt_val (pe_callB call_isi (by rfl) B.isinstance (by decide +kernel) (pa_cons (pv 1) (pa_cons (pe_bltn (v := .ty "str") (by rfl) B.str (by decide +kernel) rfl) pa_nil)))) (pw_and1 (pt_cmpR op_eq (pe_fld (pv 2) rfl) (pv 1) (nomark _))))) (pss_one (ps_ret (pv 2))) pss_nil)))
      (pss_one ps_never), ?_⟩
    refine ⟨_, rfl, p, Cn, dx, _, _, rfl, hp, T.ic.cl, T.n1, nf_row _ _ _, row, rfl, ⟨_, SqT.of hrow⟩, for_tup (K := K) (a := row) (xs := refs D.rs)
      (fun i σ H1 => H1 = H ∧ (∃ v, σ = [some (.ref p), some (.str z), v]) ∧ z ∉ namesOf (D.rs.take i)) ⟨rfl, ⟨none, rfl⟩, by intro h; cases h⟩ (fun i σ H1 _ h => by rw [h.1]; exact SqT.of hrow) ?_ ?_⟩
    · rintro i x σ H1 hx ⟨rfl, ⟨v, rfl⟩, no⟩
      obtain ⟨r, er, rfl, mr, hi⟩ := item_rs hx
      obtain ⟨dr, e⟩ := hR r mr
      refine ⟨_, rfl, _, _, _, _, true, rfl, .ty "str", .base (.str z), kit_ty (by decide +kernel), true, rfl, iteT ?_⟩
      refine ⟨_, rfl, r.1, Ct, dr, _, _, rfl, e, TT.ic.cl, TT.n1, tf_name _, _, rfl, rfl, _, rfl, ?_⟩
      refine ite2 (fun h => ?_) (fun h => ?_)
      · have h' : V.str r.2.name = V.str z := of_decide_eq_true h
        exact ⟨_, rfl, q r mr (V.str.inj h')⟩
      · refine ⟨rfl, ⟨_, rfl⟩, fun hm => ?_⟩
        unfold namesOf at hm no
        rw [List.take_add_one, er, List.map_append, List.mem_append] at hm
        rcases hm with hm | hm
        · exact no hm
        · have : z = r.2.name := by simpa using hm
          exact h (decide_eq_true (by rw [this]))
    · rintro σ H1 ⟨rfl, _, no⟩
      have lr : (refs D.rs).length = D.rs.length := by unfold refs; rw [List.length_map]
      rw [lr, List.take_length] at no
      exact absurd mz no
def spSeat (Cn Ct : Addr) : Sp := fun vs H Q _ => ∃ (p : Addr) (z : Str) (D : TownD), vs = [.ref p, .str z] ∧ TownAt Cn Ct H p D ∧ D.rs.length ≤ 4 ∧ z ∈ namesOf D.rs ∧ ∀ (H' : Hp) (j : Nat), Same H H' → (namesOf D.rs)[j]? = some z → Q (.int j) H'
theorem scSeat : FnScope ["self", "name"] ["self", "name"] (defScope sTownSeat) := ⟨rfl, rfl, rfl, by decide +kernel, rfl, by decide +kernel, by decide +kernel⟩
theorem first_at {z : Str} : ∀ {l : List Str}, z ∈ l → ∃ j, l[j]? = some z ∧ ∀ (m : Nat) (z' : V), m < j → (l.map V.str)[m]? = some z' → eqV z' (.str z) = false
  | y :: l, h => by
    by_cases e : y = z
    · exact ⟨0, by rw [e]; rfl, fun m z' hm => absurd hm (Nat.not_lt_zero _)⟩
    · rcases List.mem_cons.mp h with h | h
      · exact absurd h.symm e
      · obtain ⟨j, h1, h2⟩ := first_at h
        refine ⟨j + 1, h1, fun m z' hm hz => ?_⟩
        cases m with
        | zero =>
          cases hz
          simp [eqV, e]
        | succ m => exact h2 m z' (by omega) hz
theorem ok_seat {f fH fN Cn Ct : Addr} {fd fdH fdN : FuncData} (F : Fun K "seat" "Town.seat" sTownSeat f fd) (T : TownK K mg Cn) (GH : FnOk P w K mg base CX0 1 fH fdH ["self", "name"] (spHas Cn Ct)) (mH : Mn K Cn "__contains__" fH fdH ["self", "name"])
    (GN : FnOk P w K mg base CX0 1 fN fdN ["self"] (spNames Cn Ct)) (mN : Mn K Cn "names" fN fdN ["self"]) : FnOk P w K mg base CX0 2 f fd ["self", "name"] (spSeat Cn Ct) := by
  refine F.ok scSeat (fun vs H Q E h => ?_) (fun cdv A outer s H vs Q E hr h => ?_)
  · obtain ⟨p, z, D, rfl, _⟩ := h
    rfl
  · obtain ⟨p, z, D, rfl, hT, l4, mz, q⟩ := h
    refine ⟨_, pss_cons (ps_if (pt_cmpR (KO.op_notInO GH mH.m hr mH.b pass0) (pv 1) (pv 0) (by rfl)) (pss_one ps_never) pss_nil)
      (pss_one (ps_ret (pe_bm PySem.F.plainAttrs_list PySem.F.slot_list_index PySem.F.type_list_index mt_index (pe_meth0 (pv 0) T.ic.cl mN.m GN hr mN.b .nil pass0) (pa_cons (pv 1) pa_nil)))), ?_⟩
    obtain ⟨dx, row, lk, hp, _⟩ := id hT
    refine ⟨_, rfl, _, rfl, p, dx, _, rfl, hp, p, z, D, rfl, hT, l4, mz, fun H1 s1 => ⟨true, rfl, _, rfl, iteF ?_⟩⟩
    have hT1 := hT.same s1
    obtain ⟨dx1, row1, lk1, hp1, hrow1, _, hR1, _, _⟩ := id hT1
    refine ⟨_, rfl, p, dx1, _, rfl, hp1, nf_no _ _ _ (by decide), p, dx1, row1, _, D.rs, rfl, hp1, nf_row _ _ _, hrow1, hR1, l4, fun H2 l s2 hl => ?_⟩
    obtain ⟨j, hj, hno⟩ := first_at mz
    refine ⟨.inl ⟨rfl, _, SqL.of hl⟩, _, rfl, l, _, _, j, .str z, rfl, rfl, SqL.of hl, rfl, all_flat_str _, by rw [List.getElem?_map, hj]; rfl, by simp [eqV], hno, q _ j (s1.trans s2) hj⟩
/-! ### parts, made -/
def tParts (D : TownD) : List V := [.int D.money, .ref D.mem, .int D.tops, .bl D.nb]
def spParts (Cn Ct : Addr) : Sp := fun vs H Q _ => ∃ (p : Addr) (D : TownD), vs = [.ref p] ∧ TownAt Cn Ct H p D ∧ ∀ H' q, Same H H' → H' q = some (.tup (tParts D)) → Q (.ref q) H'
theorem scParts : FnScope ["self"] ["self"] (defScope sTownParts) := ⟨rfl, rfl, rfl, by decide +kernel, rfl, by decide +kernel, by decide +kernel⟩
theorem ok_parts {f Cn Ct : Addr} {fd : FuncData} (F : Fun K "parts" "Town.parts" sTownParts f fd) (T : TownK K mg Cn) : FnOk P w K mg base CX0 1 f fd ["self"] (spParts Cn Ct) := by
  refine F.ok scParts (fun vs H Q E h => ?_) (fun cdv A outer s H vs Q E hr h => ?_)
  · obtain ⟨p, D, rfl, _⟩ := h
    rfl
  · obtain ⟨p, D, rfl, ⟨dx, row, lk, hp, _⟩, q⟩ := h
    refine ⟨_, pss_one (ps_ret (pe_tup (pa_cons (pe_fld (pv 0) rfl) (pa_cons (pe_fld (pv 0) rfl) (pa_cons (pe_fld (pv 0) rfl) (pa_cons (pe_fld (pv 0) rfl) pa_nil)))))), ?_⟩
    refine ⟨_, rfl, p, Cn, dx, _, _, rfl, hp, T.ic.cl, T.n3, nf_money _ _ _, _, rfl, p, Cn, dx, _, _, rfl, hp, T.ic.cl, T.n4, nf_memory _ _ _, _, rfl, p, Cn, dx, _, _, rfl, hp, T.ic.cl, T.n5, nf_tops _ _ _,
      _, rfl, p, Cn, dx, _, _, rfl, hp, T.ic.cl, T.n6, nf_numbered _ _ _, (by show 4 ≤ sizeLine; decide), fun t ht => ?_⟩
    exact q _ t (fun b o e => by rw [upd_ne (ne_of_none e ht)]; exact e) upd_same
/-- what a town is made of, but for tops -/
structure GoodD (D : TownD) : Prop where
  l1 : 1 ≤ D.rs.length
  l4 : D.rs.length ≤ 4
  nd : (namesOf D.rs).Nodup
  gt : ∀ r ∈ D.rs, GoodT r.2
  gl : ∀ l ∈ D.ls, GoodL (namesOf D.rs) l
  ndl : (D.ls.map (·.2)).Nodup
  l60 : D.ls.length ≤ 60
  m0 : 0 ≤ D.money
  m9 : D.money ≤ 9
  mi : MemIs D.memx
/-- a town is made of D, or the error of its tops leaves -/
def MadeOut (Cn Ct Cb : Addr) (D : TownD) (H : Hp) (Q : VK) (E : XK) : Prop :=
  (Tops D.tops → ∀ H' q ls', Same H H' → NormOf D.ls ls' → TownAt Cn Ct H' q { D with ls := ls' } → Q (.ref q) H') ∧ (¬ Tops D.tops → BadE Cb "part" "tops" H E)
/-- the parts of D stand in the heap -/
structure PartsAt (Ct : Addr) (H : Hp) (a b : Addr) (D : TownD) : Prop where
  ha : H a = some (.lst (refs D.rs)) ∨ H a = some (.tup (refs D.rs))
  hb : H b = some (.lst (refs D.ls)) ∨ H b = some (.tup (refs D.ls))
  hr : RsAt Ct H D.rs
  hl : LsAt H D.ls
  hm : H D.mem = some (.tup D.memx)
theorem PartsAt.same {Ct : Addr} {H H' : Hp} {a b : Addr} {D : TownD} (h : PartsAt Ct H a b D) (s : Same H H') : PartsAt Ct H' a b D :=
  ⟨h.ha.imp (s _ _) (s _ _), h.hb.imp (s _ _) (s _ _), h.hr.same s, h.hl.same s, s _ _ h.hm⟩
/-- Town(..) at the place where the instance is laid -/
theorem made_of {Cn Ct Cb : Addr} {D : TownD} {H : Hp} {a b x dx : Addr} {Q : VK} {E : XK} (g : GoodD D) (pa : PartsAt Ct H a b D) (nx : H x = none) (ndx : H dx = none) (q : MadeOut Cn Ct Cb D H Q E) :
    spTownInit Cn Ct Cb [.ref x, .ref a, .ref b, .int D.money, .ref D.mem, .int D.tops, .bl D.nb] (upd (upd H dx (.own x)) x (.ins Cn dx [])) (fun v H3 => v = .non ∧ Q (.ref x) H3) E := by
  have s0 : Same H (upd (upd H dx (.own x)) x (.ins Cn dx [])) := fun b o e => by rw [upd_ne (ne_of_none e nx), upd_ne (ne_of_none e ndx)]; exact e
  have p2 := pa.same s0
  have back : ∀ {H'}, SameB x (upd (upd H dx (.own x)) x (.ins Cn dx [])) H' → Same H H' := fun {H'} s b o e => s b o (ne_of_none e nx) (s0 b o e)
  exact ⟨x, dx, a, b, D, rfl, upd_same, p2.ha, p2.hb, p2.hr, p2.hl, p2.hm, g.l1, g.l4, g.nd, g.gl, g.ndl, g.l60, g.m0, g.m9, g.mi, fun ht H' ls' s hn hT => ⟨rfl, q.1 ht H' x ls' (back s) hn hT⟩, fun ht d H' s hd => q.2 ht d H' (back s) hd⟩
def spMade (Cn Ct Cb : Addr) : Sp := fun vs H Q E => ∃ (p a b c : Addr) (D : TownD), vs = [.ref p, .ref a, .ref b, .ref c] ∧ GoodD D ∧ PartsAt Ct H a b D ∧ H c = some (.tup (tParts D)) ∧ MadeOut Cn Ct Cb D H Q E
abbrev nMade : List Str := ["self", "tills", "links", "parts", "money", "memory", "tops", "numbered"]
theorem scMade : FnScope nMade ["self", "tills", "links", "parts"] (defScope sTownMade) := ⟨rfl, rfl, rfl, by decide +kernel, rfl, by decide +kernel, by decide +kernel⟩
theorem ok_made {f fI Cn Ct Cb : Addr} {fd fdI : FuncData} (F : Fun K "made" "Town.made" sTownMade f fd) (T : TownK K mg Cn) (M : Mk K Cn fI) (GI : FnOk P w K mg base (L2.CX P w) 5 fI fdI nTI (spTownInit Cn Ct Cb)) (kb : KBn K fdI nTI 2 ["links", "money", "memory", "tops", "numbered"] (fun us ws => us ++ ws) (fun vs zs => vs ++ zs)) :
    FnOk P w K mg base (L2.CX P w) 7 f fd ["self", "tills", "links", "parts"] (spMade Cn Ct Cb) := by
  refine F.okX scMade (fun vs H Q E h => ?_) (fun cdv A outer s H vs Q E hr h => ?_)
  · obtain ⟨p, a, b, c, D, rfl, _⟩ := h
    rfl
  · obtain ⟨p, a, b, c, D, rfl, g, pa, hc, q⟩ := h
    refine ⟨_, pss_cons (ps_asg (pv 3) (pg_tup rfl (pgs_cons (pg_name (i := 4) scMade.nd rfl (.inl rfl)) (pgs_cons (pg_name (i := 5) scMade.nd rfl (.inl rfl)) (pgs_cons (pg_name (i := 6) scMade.nd rfl (.inl rfl)) (pgs_cons (pg_name (i := 7) scMade.nd rfl (.inl rfl)) pgs_nil))))))
      (pss_one (ps_ret (pe_makeK M GI hr (by rfl) T.m kb (passes_call (takes_of rfl rfl rfl rfl) (fun _ _ _ _ h => h)) (pa_cons (pv 1) pa_nil) (pk_cons (pv 2) (pk_cons (pv 4) (pk_cons (pv 5) (pk_cons (pv 6) (pk_cons (pv 7) pk_nil)))))))), ?_⟩
    refine ⟨_, rfl, c, _, rfl, SqT.of hc, rfl, _, _, rfl, _, _, rfl, _, _, rfl, _, _, rfl, rfl, ?_⟩
    refine ⟨_, rfl, _, rfl, _, rfl, _, rfl, _, rfl, _, rfl, rfl, rfl, fun x dx nx ndx _ => ?_⟩
    exact made_of g pa nx ndx q
end
end CT
set_option Elab.async false
set_option linter.all false
set_option maxRecDepth 100000
set_option maxHeartbeats 4000000
/-! W8: Town: with_till, changed, __eq__ -/
namespace CT
open PySem L2
section
variable {P : Program} {w : World} {K : PySem.W.Frag} {mg : Str → Option Value} {base : Heap}
/-! ### with_till -/
theorem cut_takeR {rs : Rs} {i : Nat} (h : i < rs.length) : cutV (refs rs) none (some ((i : Nat) : Int)) = refs (rs.take i) := by
  unfold cutV refs
  rw [HT.sIx_none, HT.sIx_nat, List.length_map, Nat.min_eq_left (Nat.le_of_lt h), List.drop_zero, Nat.sub_zero, List.map_take]
theorem cut_dropR {rs : Rs} {i : Nat} (h : i < rs.length) : cutV (refs rs) (some (((i : Nat) : Int) + 1)) none = refs (rs.drop (i + 1)) := by
  have e : ((i : Nat) : Int) + 1 = ((i + 1 : Nat) : Int) := by omega
  unfold cutV refs
  rw [HT.sIx_none, e, HT.sIx_nat, List.length_map, Nat.min_eq_left h, List.map_drop]
  exact List.take_of_length_le (by rw [List.length_drop, List.length_map]; exact Nat.le_refl _)
theorem set_eq {rs : Rs} {i : Nat} (h : i < rs.length) (r : Addr × TillD) : rs.take i ++ r :: rs.drop (i + 1) = rs.set i r := by
  rw [List.set_eq_take_append_cons_drop, if_pos h]
theorem names_set {rs : Rs} {j : Nat} {pt : Addr} {t : TillD} (h : (namesOf rs)[j]? = some t.name) : namesOf (rs.set j (pt, t)) = namesOf rs := by
  unfold namesOf at h ⊢
  rw [List.map_set]
  refine List.ext_getElem? fun i => ?_
  rw [List.getElem?_set]
  by_cases e : j = i
  · rw [if_pos e, ← e]
    have hl := (List.getElem?_eq_some_iff.mp h).1
    rw [if_pos hl, h]
  · rw [if_neg e]
def wD (D : TownD) (j : Nat) (pt : Addr) (t : TillD) : TownD := { D with rs := D.rs.set j (pt, t) }
theorem mem_set_rs {rs : Rs} {j : Nat} {a r : Addr × TillD} (h : r ∈ rs.set j a) : r ∈ rs ∨ r = a := List.mem_or_eq_of_mem_set h
theorem good_with {D : TownD} {j : Nat} {pt : Addr} {t : TillD} (g : GoodD D) (gt : GoodT t) (h : (namesOf D.rs)[j]? = some t.name) : GoodD (wD D j pt t) where
  l1 := by show 1 ≤ (D.rs.set j (pt, t)).length; rw [List.length_set]; exact g.l1
  l4 := by show (D.rs.set j (pt, t)).length ≤ 4; rw [List.length_set]; exact g.l4
  nd := by show (namesOf (D.rs.set j (pt, t))).Nodup; rw [names_set h]; exact g.nd
  gt := fun r hr => (mem_set_rs hr).elim (g.gt r) fun e => e ▸ gt
  gl := fun l hl => by show GoodL (namesOf (D.rs.set j (pt, t))) l; rw [names_set h]; exact g.gl l hl
  ndl := g.ndl
  l60 := g.l60
  m0 := g.m0
  m9 := g.m9
  mi := g.mi
def spWith (Cn Ct : Addr) : Sp := fun vs H Q _ => ∃ (p pt : Addr) (t : TillD) (D : TownD), vs = [.ref p, .ref pt] ∧ TownAt Cn Ct H p D ∧ GoodD D ∧ Tops D.tops ∧ TillAt Ct H pt t ∧ GoodT t ∧ t.name ∈ namesOf D.rs ∧
  ∀ H' q j ls', Same H H' → (namesOf D.rs)[j]? = some t.name → NormOf D.ls ls' → TownAt Cn Ct H' q { wD D j pt t with ls := ls' } → Q (.ref q) H'
theorem scWith : FnScope ["self", "till", "at"] ["self", "till"] (defScope sTownWith) := ⟨rfl, rfl, rfl, by decide +kernel, rfl, by decide +kernel, by decide +kernel⟩
theorem ok_with {f fS fM fP Cn Ct Cb : Addr} {fd fdS fdM fdP : FuncData} (F : Fun K "with_till" "Town.with_till" sTownWith f fd) (B : Bl mg) (T : TownK K mg Cn) (TT : TillK K mg Ct) (GS : FnOk P w K mg base CX0 2 fS fdS ["self", "name"] (spSeat Cn Ct)) (mS : Mn K Cn "seat" fS fdS ["self", "name"])
    (GM : FnOk P w K mg base (L2.CX P w) 7 fM fdM ["self", "tills", "links", "parts"] (spMade Cn Ct Cb)) (mM : Mn K Cn "made" fM fdM ["self", "tills", "links", "parts"]) (GP : FnOk P w K mg base CX0 1 fP fdP ["self"] (spParts Cn Ct)) (mP : Mn K Cn "parts" fP fdP ["self"]) :
    FnOk P w K mg base (L2.CX P w) 8 f fd ["self", "till"] (spWith Cn Ct) := by
  refine F.okX scWith (fun vs H Q E h => ?_) (fun cdv A outer s H vs Q E hr h => ?_)
  · obtain ⟨p, pt, t, D, rfl, _⟩ := h
    rfl
  · obtain ⟨p, pt, t, D, rfl, hT, g, tp, hpt, gt, mt, q⟩ := h
    have hr1 : Room 1 _ := hr.mono (by decide)
    have hr2 : Room 2 _ := hr.mono (by decide)
    refine ⟨_, pss_cons (ps_if (pt_not (pt_val (pe_callB (C8.call_isC TT.ic) (by rfl) B.isinstance (by decide +kernel) (pa_cons (pv 1) (pa_cons (pe_glob (v := .ref Ct) (by rfl) TT.m rfl) pa_nil))))) (pss_one ps_never) pss_nil)
      (pss_cons (ps_set (i := 2) scWith.nd rfl (Or.inl rfl) (pe_meth (pv 0) T.ic.cl mS.m GS hr2 mS.b .nil pass0 (pa_cons (pe_fld (pv 1) rfl) pa_nil)))
      (pss_one (ps_ret (pe_meth (pv 0) T.ic.cl mM.m GM hr mM.b .nil (passes_call (takes_of rfl rfl rfl rfl) (fun _ _ _ _ h => h))
        (pa_cons (pe_tup (StX.pa_star (pe_slice sl_tupA (pe_fld (pv 0) rfl) po_none (po_some (pv 2))) (pa_cons (pv 1) (StX.pa_star (pe_slice sl_tupA (pe_fld (pv 0) rfl) (po_some (pe_op op_add (pv 2) pe_int)) po_none) pa_nil))))
        (pa_cons (pe_fld (pv 0) rfl) (pa_cons (pe_meth0 (pv 0) T.ic.cl mP.m GP hr1 mP.b .nil pass0) pa_nil))))))), ?_⟩
    obtain ⟨dt, et⟩ := id hpt
    obtain ⟨dx, row, lk, hp, hrow, hlk, hR, hL, hM⟩ := id hT
    refine ⟨_, rfl, pt, dt, _, rfl, et, true, rfl, iteF ?_⟩
    refine ⟨_, rfl, p, dx, _, rfl, hp, nf_no _ _ _ (by decide), _, rfl, pt, Ct, dt, _, _, rfl, et, TT.ic.cl, TT.n1, tf_name t, p, t.name, D, rfl, hT, g.l4, mt, fun H1 j s1 hj => ?_⟩
    have hjl : j < D.rs.length := by
      have := (List.getElem?_eq_some_iff.mp hj).1
      unfold namesOf at this
      rwa [List.length_map] at this
    have lr : (refs D.rs).length = D.rs.length := by unfold refs; rw [List.length_map]
    refine ⟨_, rfl, p, dx, _, rfl, s1 _ _ hp, nf_no _ _ _ (by decide), ?_⟩
    refine ⟨_, rfl, p, Cn, dx, _, _, rfl, s1 _ _ hp, T.ic.cl, T.n1, nf_row _ _ _, _, rfl, _, rfl, row, _, rfl, SqT.of (s1 _ _ hrow), fun whole => ?_, fun _ p1 hp1 => ?_⟩
    · rw [lr] at whole
      have w2 := whole.2
      rw [HT.sIx_nat, Nat.min_eq_left (Nat.le_of_lt hjl)] at w2
      omega
    rw [cut_takeR hjl]
    have s2 : Same H (upd H1 p1 (.tup (refs (D.rs.take j)))) := fun b o e => by rw [upd_ne (ne_of_none (s1 _ _ e) hp1)]; exact s1 _ _ e
    have e2 : upd H1 p1 (.tup (refs (D.rs.take j))) p1 = some (.tup (refs (D.rs.take j))) := upd_same
    generalize upd H1 p1 (.tup (refs (D.rs.take j))) = H2 at s2 e2
    refine ⟨p1, _, rfl, .inl (SqT.of e2), _, rfl, ?_⟩
    refine ⟨_, rfl, p, Cn, dx, _, _, rfl, s2 _ _ hp, T.ic.cl, T.n1, nf_row _ _ _, _, rfl, _, _, rfl, rfl, _, rfl, row, _, rfl, SqT.of (s2 _ _ hrow), fun whole => ?_, fun _ p2 hp2 => ?_⟩
    · have w1 := whole.1
      have e : ((j : Nat) : Int) + 1 = ((j + 1 : Nat) : Int) := by omega
      rw [lr, e, HT.sIx_nat] at w1
      omega
    rw [cut_dropR hjl]
    have s3 : Same H (upd H2 p2 (.tup (refs (D.rs.drop (j + 1))))) := fun b o e => by rw [upd_ne (ne_of_none (s2 _ _ e) hp2)]; exact s2 _ _ e
    have e3 : upd H2 p2 (.tup (refs (D.rs.drop (j + 1)))) p2 = some (.tup (refs (D.rs.drop (j + 1)))) := upd_same
    generalize upd H2 p2 (.tup (refs (D.rs.drop (j + 1)))) = H3 at s3 e3
    have eset : refs (D.rs.take j) ++ (V.ref pt :: (refs (D.rs.drop (j + 1)) ++ [])) = refs (D.rs.set j (pt, t)) := by
      rw [List.append_nil, ← set_eq hjl]
      unfold refs
      rw [List.map_append, List.map_cons]
    refine ⟨p2, _, rfl, .inl (SqT.of e3), ?_, fun p3 hp3 => ?_⟩
    · show (refs (D.rs.take j) ++ (V.ref pt :: (refs (D.rs.drop (j + 1)) ++ []))).length ≤ sizeLine
      rw [eset]
      unfold refs
      rw [List.length_map, List.length_set]
      exact Nat.le_of_lt (small1000 (Nat.le_trans g.l4 (by decide)))
    have s4 : Same H (upd H3 p3 (.tup (refs (D.rs.set j (pt, t))))) := fun b o e => by rw [upd_ne (ne_of_none (s3 _ _ e) hp3)]; exact s3 _ _ e
    have e4 : upd H3 p3 (.tup (refs (D.rs.set j (pt, t)))) p3 = some (.tup (refs (D.rs.set j (pt, t)))) := upd_same
    show ∃ v, _
    rw [show upd H3 p3 (.tup (refs (D.rs.take j) ++ (V.ref pt :: (refs (D.rs.drop (j + 1)) ++ [])))) = upd H3 p3 (.tup (refs (D.rs.set j (pt, t)))) from by rw [eset]]
    generalize upd H3 p3 (.tup (refs (D.rs.set j (pt, t)))) = H4 at s4 e4
    refine ⟨_, rfl, p, Cn, dx, _, _, rfl, s4 _ _ hp, T.ic.cl, T.n2, nf_links _ _ _, _, rfl, p, dx, _, rfl, s4 _ _ hp, nf_no _ _ _ (by decide), p, D, rfl, hT.same s4, fun H5 c s5 hc => ?_⟩
    have s6 : Same H H5 := s4.trans s5
    refine ⟨p, p3, lk, c, wD D j pt t, rfl, good_with g gt hj, ⟨.inr (s5 _ _ e4), .inr (s6 _ _ hlk), fun r hr => ?_, hL.same s6, s6 _ _ hM⟩, hc, fun _ H' q' ls' s' hn hT' => q H' q' j ls' (s6.trans s') hj hn hT', fun ht => absurd tp ht⟩
    rcases mem_set_rs hr with hr | rfl
    · exact (hR r hr).same (s6 _)
    · exact hpt.same (s6 _)
/-! ### changed -/
abbrev partKeys : List Key := [.inr "money", .inr "memory", .inr "tops", .inr "numbered"]
structure PartsK (K : PySem.W.Frag) (mg : Str → Option Value) (pa : Addr) : Prop where
  m : mg "PARTS" = some (.ref pa)
  at_ : ∀ H, SqT K H pa (partKeys.map kV)
def chD (D : TownD) (z : Str) (v : Int) : TownD := if z = "money" then { D with money := v } else { D with tops := v }
theorem kept_val (D : TownD) : ∀ (i : Nat) (k : Key) (y : V), partKeys[i]? = some k → (tParts D)[i]? = some y → valV (mergeK [] (partKeys.zip (tParts D))) k = some y := by
  intro i k y hk hy
  have e : mergeK [] (partKeys.zip (tParts D)) = putK (putK (putK (putK ([] : List (Key × V)) (Sum.inr "money" : Key) (V.int D.money)) (Sum.inr "memory" : Key) (V.ref D.mem)) (Sum.inr "tops" : Key) (V.int D.tops)) (Sum.inr "numbered" : Key) (V.bl D.nb) := rfl
  rw [e, valV_put, valV_put, valV_put, valV_put]
  match i, hk, hy with
  | 0, hk, hy =>
    cases hk; cases hy
    rw [if_neg (by decide), if_neg (by decide), if_neg (by decide), if_pos rfl]
  | 1, hk, hy =>
    cases hk; cases hy
    rw [if_neg (by decide), if_neg (by decide), if_pos rfl]
  | 2, hk, hy =>
    cases hk; cases hy
    rw [if_neg (by decide), if_pos rfl]
  | 3, hk, hy =>
    cases hk; cases hy
    rw [if_pos rfl]
  | i + 4, hk, hy => cases hk
theorem ch_at (D : TownD) {z : Str} (v : Int) (hz : z = "money" ∨ z = "tops") : ∀ (i : Nat) (x : V), (partKeys.map kV)[i]? = some x → ∃ (n : Str) (y : V), x = .str n ∧ partKeys[i]? = some (.inr n) ∧ (tParts D)[i]? = some y ∧
    (tParts (chD D z v))[i]? = some (if n = z then .int v else y) := by
  intro i x hx
  match i, hx with
  | 0, hx =>
    cases hx
    refine ⟨"money", _, rfl, rfl, rfl, ?_⟩
    rcases hz with rfl | rfl
    · rfl
    · rfl
  | 1, hx =>
    cases hx
    refine ⟨"memory", _, rfl, rfl, rfl, ?_⟩
    rcases hz with rfl | rfl
    · rfl
    · rfl
  | 2, hx =>
    cases hx
    refine ⟨"tops", _, rfl, rfl, rfl, ?_⟩
    rcases hz with rfl | rfl
    · rfl
    · rfl
  | 3, hx =>
    cases hx
    refine ⟨"numbered", _, rfl, rfl, rfl, ?_⟩
    rcases hz with rfl | rfl
    · rfl
    · rfl
  | i + 4, hx => cases hx
theorem good_ch {D : TownD} {z : Str} {v : Int} (g : GoodD D) (hz : (z = "money" ∧ 0 ≤ v ∧ v ≤ 9) ∨ z = "tops") : GoodD (chD D z v) := by
  rcases hz with ⟨rfl, h0, h9⟩ | rfl
  · exact ⟨g.l1, g.l4, g.nd, g.gt, g.gl, g.ndl, g.l60, h0, h9, g.mi⟩
  · exact ⟨g.l1, g.l4, g.nd, g.gt, g.gl, g.ndl, g.l60, g.m0, g.m9, g.mi⟩
theorem ch_same (D : TownD) (z : Str) (v : Int) : (chD D z v).rs = D.rs ∧ (chD D z v).ls = D.ls ∧ (chD D z v).mem = D.mem ∧ (chD D z v).memx = D.memx := by
  unfold chD
  split <;> exact ⟨rfl, rfl, rfl, rfl⟩
def spChanged (Cn Ct Cb : Addr) : Sp := fun vs H Q E => ∃ (p : Addr) (z : Str) (v : Int) (D : TownD), vs = [.ref p, .str z, .int v] ∧ TownAt Cn Ct H p D ∧ GoodD D ∧ ((z = "money" ∧ 0 ≤ v ∧ v ≤ 9) ∨ z = "tops") ∧ MadeOut Cn Ct Cb (chD D z v) H Q E
abbrev nCh : List Str := ["self", "part", "value", "kept", "name"]
theorem scCh : FnScope nCh ["self", "part", "value"] (defScope sTownChanged) := ⟨rfl, rfl, rfl, by decide +kernel, rfl, by decide +kernel, by decide +kernel⟩
theorem ok_changed {f fM fP Cn Ct Cb pa : Addr} {fd fdM fdP : FuncData} (F : Fun K "changed" "Town.changed" sTownChanged f fd) (B : Bl mg) (T : TownK K mg Cn) (PK_ : PartsK K mg pa)
    (GM : FnOk P w K mg base (L2.CX P w) 7 fM fdM ["self", "tills", "links", "parts"] (spMade Cn Ct Cb)) (mM : Mn K Cn "made" fM fdM ["self", "tills", "links", "parts"]) (GP : FnOk P w K mg base CX0 1 fP fdP ["self"] (spParts Cn Ct)) (mP : Mn K Cn "parts" fP fdP ["self"]) :
    FnOk P w K mg base (L2.CX P w) 8 f fd ["self", "part", "value"] (spChanged Cn Ct Cb) := by
  refine F.okX scCh (fun vs H Q E h => ?_) (fun cdv A outer s H vs Q E hr h => ?_)
  · obtain ⟨p, z, v, D, rfl, _⟩ := h
    rfl
  · obtain ⟨p, z, v, D, rfl, hT, g, hz, q⟩ := h
    have hr1 : Room 1 _ := hr.mono (by decide)
    have hu : (A.deeper (PyProof.Rows.envOfC "Town.changed" (defScope sTownChanged) s.heap.objs.size f cdv)).units + 1 < cLine := hu_of hr
    have hz' : z = "money" ∨ z = "tops" := hz.imp (fun h => h.1) id
    refine ⟨_, pss_cons (ps_if (PW.pt (pw_or (pt_not (pt_val (pe_callB call_isi (by rfl) B.isinstance (by decide +kernel) (pa_cons (pv 1) (pa_cons (pe_bltn (v := .ty "str") (by rfl) B.str (by decide +kernel) rfl) pa_nil)))))
        (pw_or1 (pt_cmpR op_notIn_seq (pv 1) (pe_glob (v := .ref pa) (by rfl) PK_.m rfl) (by rfl))))) (pss_one ps_never) pss_nil)
      (pss_cons (ps_set (i := 3) scCh.nd rfl (Or.inr rfl) (KDz.pe_dictZip (by rfl) (by rfl) B.dict (by rfl) B.zip (pa_cons (pe_glob (v := .ref pa) (by rfl) PK_.m rfl) (pa_cons (pe_meth0 (pv 0) T.ic.cl mP.m GP hr1 mP.b .nil pass0) pa_nil))))
      (pss_one (ps_ret (pe_meth (pv 0) T.ic.cl mM.m GM hr mM.b .nil (passes_call (takes_of rfl rfl rfl rfl) (fun _ _ _ _ h => h))
        (pa_cons (pe_fld (pv 0) rfl) (pa_cons (pe_fld (pv 0) rfl) (pa_cons (pe_callTy call_tuple_of (by rfl) B.tuple (by decide +kernel) (pa_cons
          (pe_lc (own := [("name", 4)]) (g := gName 4) (te := tIf (tTest (tOp rEq (tVar 4) (tVar 1))) (tVar 2) (tDGet (tVar 3) (tVar 4))) (by rfl) scCh.nd (pi_tup (pe_glob (v := .ref pa) (by rfl) PK_.m rfl)) (blkOk_by (own := [("name", 4)]) (N := nCh) (sc := defScope sTownChanged) (by decide +kernel))
            (fun _ _ _ _ _ => pg_name (i := 4) scCh.nd rfl (Or.inl rfl)) (fun _ _ _ _ _ => pts_nil) (fun _ _ _ _ _ => pe_ifExp (pt_cmpR op_eq (pv 4) (pv 1) (nomark _)) (pv 2) (pe_dget hu (pv 3) (pv 4) (fun _ _ => rfl)))) pa_nil)) pa_nil))))))), ?_⟩
    obtain ⟨dx, row, lk, hp, hrow, hlk, hR, hL, hM⟩ := id hT
    refine ⟨_, rfl, _, _, _, _, true, rfl, .ty "str", .base (.str z), kit_ty (by decide +kernel), true, rfl, iteF ?_⟩
    refine ⟨_, rfl, pa, _, rfl, .inr (PK_.at_ H), rfl, rfl, _, rfl, ?_⟩
    have ein : inV (.str z) (partKeys.map kV) = true := by rcases hz' with rfl | rfl <;> decide
    rw [ein]
    refine iteF ?_
    refine ⟨_, rfl, p, dx, _, rfl, hp, nf_no _ _ _ (by decide), p, D, rfl, hT, fun H1 c s1 hc => ?_⟩
    refine ⟨pa, c, partKeys, tParts D, rfl, PK_.at_ H1, SqT.of hc, rfl, fun d hd => ?_⟩
    have s2 : Same H (upd H1 d (.dK (mergeK [] (partKeys.zip (tParts D))))) := fun b o e => by rw [upd_ne (ne_of_none (s1 _ _ e) hd)]; exact s1 _ _ e
    have d2 : upd H1 d (.dK (mergeK [] (partKeys.zip (tParts D)))) d = some (.dK (mergeK [] (partKeys.zip (tParts D)))) := upd_same
    generalize upd H1 d (.dK (mergeK [] (partKeys.zip (tParts D)))) = H2 at s2 d2
    refine ⟨_, rfl, p, dx, _, rfl, s2 _ _ hp, nf_no _ _ _ (by decide), _, rfl, p, Cn, dx, _, _, rfl, s2 _ _ hp, T.ic.cl, T.n1, nf_row _ _ _, _, rfl, p, Cn, dx, _, _, rfl, s2 _ _ hp, T.ic.cl, T.n2, nf_links _ _ _, ?_⟩
    refine ⟨pa, rfl, ⟨_, PK_.at_ H2⟩, fun R hR2 => lc_tup (K := K) (a := pa) (xs := partKeys.map kV) (fun i H3 => H3 = upd H2 R (.lst ((tParts (chD D z v)).take i))) rfl (fun i H3 _ _ => PK_.at_ H3) ?_ ?_⟩
    · rintro i x H3 hx rfl
      obtain ⟨n, y, rfl, hk, hy, hy'⟩ := ch_at D v hz' i x hx
      have hi := (List.getElem?_eq_some_iff.mp hy').1
      have fin : ∀ y', (tParts (chD D z v))[i]? = some y' → ∃ acc, upd H2 R (.lst ((tParts (chD D z v)).take i)) R = some (.lst acc) ∧ acc.length < sizeLine ∧ upd (upd H2 R (.lst ((tParts (chD D z v)).take i))) R (.lst (acc ++ [y'])) = upd H2 R (.lst ((tParts (chD D z v)).take (i + 1))) := fun y' h' => by
        refine ⟨_, upd_same, ?_, ?_⟩
        · rw [List.length_take]
          exact small1000 (Nat.le_trans (Nat.min_le_right _ _) (by show 4 ≤ 1000; decide))
        · rw [upd_upd, List.take_add_one, h']
          rfl
      refine ⟨rfl, yesT ?_⟩
      refine ⟨_, rfl, _, rfl, rfl, _, rfl, ?_⟩
      refine ite2 (fun h => ?_) (fun h => ?_)
      · have h' : n = z := V.str.inj (of_decide_eq_true h)
        rw [if_pos h'] at hy'
        exact ⟨_, rfl, fin _ hy'⟩
      · have h' : ¬ n = z := fun e => h (decide_eq_true (by rw [e]))
        rw [if_neg h'] at hy'
        have d3 : upd H2 R (.lst ((tParts (chD D z v)).take i)) d = some (.dK (mergeK [] (partKeys.zip (tParts D)))) := by rw [upd_ne (ne_of_none d2 hR2)]; exact d2
        have dg := DGet.k (k := .inr n) d3
        rw [kept_val D i _ _ hk hy] at dg
        exact ⟨_, rfl, _, rfl, d, _, rfl, dg, fin _ hy'⟩
    · rintro H3 rfl
      have e3 : (tParts (chD D z v)).take (partKeys.map kV).length = tParts (chD D z v) := rfl
      rw [e3]
      have s3 : Same H (upd H2 R (.lst (tParts (chD D z v)))) := fun b o e => by rw [upd_ne (ne_of_none (s2 _ _ e) hR2)]; exact s2 _ _ e
      have r3 : upd H2 R (.lst (tParts (chD D z v))) R = some (.lst (tParts (chD D z v))) := upd_same
      generalize upd H2 R (.lst (tParts (chD D z v))) = H3 at s3 r3
      refine ⟨R, _, rfl, .inl ⟨SqL.of r3, fun u hu' => ?_⟩⟩
      have s4 : Same H (upd H3 u (.tup (tParts (chD D z v)))) := fun b o e => by rw [upd_ne (ne_of_none (s3 _ _ e) hu')]; exact s3 _ _ e
      obtain ⟨c1, c2, c3, c4⟩ := ch_same D z v
      refine ⟨p, row, lk, u, chD D z v, rfl, good_ch g hz, ⟨.inr (by rw [c1]; exact s4 _ _ hrow), .inr (by rw [c2]; exact s4 _ _ hlk), by rw [c1]; exact hR.same s4, by rw [c2]; exact hL.same s4, by rw [c3, c4]; exact s4 _ _ hM⟩, upd_same, ?_, ?_⟩
      · exact fun ht H' q' ls' s' hn hT' => q.1 ht H' q' ls' (s4.trans s') hn hT'
      · exact fun ht d' H' s' hd' => q.2 ht d' H' (s4.trans s') hd'
end
end CT
set_option Elab.async false
set_option linter.all false
set_option maxRecDepth 100000
set_option maxHeartbeats 4000000
/-! W9: Town.__eq__; Session, Trial but for attempt -/
namespace CT
open PySem L2
section
variable {P : Program} {w : World} {K : PySem.W.Frag} {mg : Str → Option Value} {base : Heap}
/-! ### Town.__eq__ -/
structure SameD (D D' : TownD) : Prop where
  r : D.rs.map (·.2) = D'.rs.map (·.2)
  l : D.ls.map (·.1) = D'.ls.map (·.1)
  mo : D.money = D'.money
  me : D.mem = D'.mem
  to : D.tops = D'.tops
  nb : D.nb = D'.nb
def NEq (Cn Ct : Addr) (a b : Addr) (H : Hp) : Prop := ∃ D D', TownAt Cn Ct H a D ∧ TownAt Cn Ct H b D' ∧ SameD D D'
theorem NEq.ext {Cn Ct : Addr} (a b : Addr) (H H' : Hp) (e : Ext H H') (h : NEq Cn Ct a b H) : NEq Cn Ct a b H' := by
  obtain ⟨D, D', h1, h2, h3⟩ := h
  exact ⟨D, D', h1.same e, h2.same e, h3⟩
theorem prs_tills {Ct : Addr} {H : Hp} {rs rs' : Rs} (h : RsAt Ct H rs) (h' : RsAt Ct H rs') (e : rs.map (·.2) = rs'.map (·.2)) : Prs (DIns Ct (TEq Ct)) (refs rs) (refs rs') H := by
  have hl : rs.length = rs'.length := by
    have := congrArg List.length e
    simpa using this
  refine ⟨by unfold refs; rw [List.length_map, List.length_map, hl], fun i x y hx hy => ?_⟩
  obtain ⟨r, er, rfl, mr, _⟩ := item_rs hx
  obtain ⟨r', er', rfl, mr', _⟩ := item_rs hy
  have e2 : r.2 = r'.2 := by
    have := congrArg (fun l => l[i]?) e
    simp only [List.getElem?_map, er, er', Option.map_some] at this
    exact Option.some.inj this
  obtain ⟨d1, h1⟩ := h r mr
  obtain ⟨d2, h2⟩ := h' r' mr'
  exact ⟨r.1, r'.1, d1, d2, _, _, rfl, rfl, h1, h2, r.2, ⟨d1, h1⟩, ⟨d2, by rw [e2]; exact h2⟩⟩
theorem prs_same {α : Type} {H : Hp} {ls ls' : List (Addr × α)} (e : ls.map (·.1) = ls'.map (·.1)) : Prs KN.DSame (refs ls) (refs ls') H := by
  have e1 : refs ls = refs ls' := by
    unfold refs
    have := congrArg (fun l : List Addr => l.map V.ref) e
    rw [List.map_map, List.map_map] at this
    exact this
  rw [e1]
  refine ⟨rfl, fun i x y hx hy => ?_⟩
  rw [hx] at hy
  cases hy
  unfold refs at hx
  rw [List.getElem?_map] at hx
  cases er : ls'[i]? with
  | none => rw [er] at hx; cases hx
  | some r => rw [er] at hx; cases hx; exact ⟨_, rfl, rfl⟩
theorem scTownEq : FnScope ["self", "other", "mine"] ["self", "other"] (defScope sTownEq) := ⟨rfl, rfl, rfl, by decide +kernel, rfl, by decide +kernel, by decide +kernel⟩
theorem ok_townEq {f fE Cn Ct : Addr} {fd fdE : FuncData} (F : Fun K "__eq__" "Town.__eq__" sTownEq f fd) (B : Bl mg) (T : TownK K mg Cn) (GE : FnOk P w K mg base CX0 2 fE fdE ["self", "other"] (spEq (TEq Ct))) (mE : Mn K Ct "__eq__" fE fdE ["self", "other"]) :
    FnOk P w K mg base CX0 4 f fd ["self", "other"] (spEq (NEq Cn Ct)) := by
  refine F.ok scTownEq (fun vs H Q E h => ?_) (fun cdv A outer s H vs Q E hr h => ?_)
  · obtain ⟨a, b, rfl, _⟩ := h
    rfl
  · obtain ⟨a, b, rfl, ⟨D, D', hA, hB, sd⟩, q⟩ := h
    have hr1 : Room 1 _ := hr.mono (by decide)
    refine ⟨_, pss_cons (ps_if (PW.pt (pw_or (pt_not (pt_val (pe_callB (C8.call_isC T.ic) (by rfl) B.isinstance (by decide +kernel) (pa_cons (pv 1) (pa_cons (pe_glob (v := .ref Cn) (by rfl) T.m rfl) pa_nil)))))
        (pw_or (pt_cmpR (KN.op_neG (KN.rnG_tup (mon_ins TEq.ext) (eqG_ins (E := E0) GE mE.m.at_ mE.m.fn mE.b pass0)) hr) (pe_fld (pv 0) rfl) (pe_fld (pv 1) rfl) (nomark _))
        (pw_or1 (pt_cmpR (KN.op_neG (KN.rnG_tup KN.mon_same KN.eqG_same) hr1) (pe_fld (pv 0) rfl) (pe_fld (pv 1) rfl) (nomark _)))))) (pss_one (ps_ret pe_bl)) pss_nil)
      (pss_cons (ps_set (i := 2) scTownEq.nd rfl (Or.inl rfl) (pe_tup (pa_cons (pe_fld (pv 0) rfl) (pa_cons (pe_fld (pv 0) rfl) (pa_cons (pe_fld (pv 0) rfl) (pa_cons (pe_fld (pv 0) rfl) pa_nil))))))
      (pss_one (ps_ret (pe_cmpR (op_eqG (rcG_tup (mon_flat.or KN.mon_same) (eqG_flat.or KN.eqG_same)) hr1) (pv 2) (pe_tup (pa_cons (pe_fld (pv 1) rfl) (pa_cons (pe_fld (pv 1) rfl) (pa_cons (pe_fld (pv 1) rfl) (pa_cons (pe_fld (pv 1) rfl) pa_nil))))) (nomark _))))), ?_⟩
    obtain ⟨dx, row, lk, hp, hrow, hlk, hR, hL, hM⟩ := id hA
    obtain ⟨dx', row', lk', hp', hrow', hlk', hR', hL', hM'⟩ := id hB
    refine ⟨_, rfl, b, dx', _, rfl, hp', true, rfl, iteF ?_⟩
    refine ⟨_, rfl, a, Cn, dx, _, _, rfl, hp, T.ic.cl, T.n1, nf_row _ _ _, _, rfl, b, Cn, dx', _, _, rfl, hp', T.ic.cl, T.n1, nf_row _ _ _, ⟨row, row', _, _, rfl, rfl, SqT.of hrow, SqT.of hrow', prs_tills hR hR' sd.r⟩, fun H1 s1 => ⟨_, rfl, iteF ?_⟩⟩
    refine ⟨_, rfl, a, Cn, dx, _, _, rfl, s1 _ _ hp, T.ic.cl, T.n2, nf_links _ _ _, _, rfl, b, Cn, dx', _, _, rfl, s1 _ _ hp', T.ic.cl, T.n2, nf_links _ _ _, ⟨lk, lk', _, _, rfl, rfl, SqT.of (s1 _ _ hlk), SqT.of (s1 _ _ hlk'), prs_same sd.l⟩, fun H2 s2 => ⟨_, rfl, iteF ?_⟩⟩
    have s3 : Same H H2 := fun c o e => s2 _ _ (s1 _ _ e)
    have p3 := s3 _ _ hp
    refine ⟨_, rfl, a, Cn, dx, _, _, rfl, p3, T.ic.cl, T.n3, nf_money _ _ _, _, rfl, a, Cn, dx, _, _, rfl, p3, T.ic.cl, T.n4, nf_memory _ _ _, _, rfl, a, Cn, dx, _, _, rfl, p3, T.ic.cl, T.n5, nf_tops _ _ _,
      _, rfl, a, Cn, dx, _, _, rfl, p3, T.ic.cl, T.n6, nf_numbered _ _ _, (by show 4 ≤ sizeLine; decide), fun t ht => ?_⟩
    have s4 : Same H (upd H2 t (.tup [.int D.money, .ref D.mem, .int D.tops, .bl D.nb])) := fun c o e => by rw [upd_ne (ne_of_none (s3 _ _ e) ht)]; exact s3 _ _ e
    have p4 := s4 _ _ hp'
    refine ⟨_, rfl, _, rfl, b, Cn, dx', _, _, rfl, p4, T.ic.cl, T.n3, nf_money _ _ _, _, rfl, b, Cn, dx', _, _, rfl, p4, T.ic.cl, T.n4, nf_memory _ _ _, _, rfl, b, Cn, dx', _, _, rfl, p4, T.ic.cl, T.n5, nf_tops _ _ _,
      _, rfl, b, Cn, dx', _, _, rfl, p4, T.ic.cl, T.n6, nf_numbered _ _ _, (by show 4 ≤ sizeLine; decide), fun t' ht' => ?_⟩
    have ntt : t ≠ t' := ne_of_none upd_same ht'
    refine ⟨⟨t, t', _, _, rfl, rfl, SqT.of (by rw [upd_ne ntt]; exact upd_same), SqT.of upd_same, .cons (.inl (by rw [sd.mo]; exact dflat rfl)) (.cons (.inr ⟨D.mem, rfl, by rw [sd.me]⟩) (.cons (.inl (by rw [sd.to]; exact dflat rfl)) (.cons (.inl (by rw [sd.nb]; exact dflat rfl)) .nil)))⟩, fun H5 s5 => ?_⟩
    exact q _ fun c o e => s5 _ _ (by rw [upd_ne (ne_of_none (s4 _ _ e) ht')]; exact s4 _ _ e)
/-! ### Session -/
abbrev Tn := Addr × TownD
def Good2 (D : TownD) : Prop := GoodD D ∧ Tops D.tops
def sf (p t : Addr) : List (Str × V) := [("now", .ref p), ("past", .ref t)]
theorem sf_now (p t : Addr) : (sf p t).lookup ("now" : Str) = some (.ref p) := lk_eq
theorem sf_past (p t : Addr) : (sf p t).lookup ("past" : Str) = some (.ref t) := (lk_ne (by decide)).trans lk_eq
theorem sf_no (p t : Addr) {m : Str} (h : (m == ("now" : Str)) = false ∧ (m == ("past" : Str)) = false) : (sf p t).lookup m = none := by
  obtain ⟨h1, h2⟩ := h
  unfold sf
  simp only [List.lookup, h1, h2]
theorem sf_put_now (p p' t : Addr) : putF "now" (.ref p') (sf p t) = sf p' t := pf_eq
theorem sf_put_past (p t t' : Addr) : putF "past" (.ref t') (sf p t) = sf p t' := by
  unfold sf
  rw [pf_ne (by decide), pf_eq]
structure SessAt (Cs Cn Ct : Addr) (H : Hp) (S : Addr) (c : Tn) (past : List Tn) : Prop where
  at_ : ∃ dx t, H S = some (.ins Cs dx (sf c.1 t)) ∧ H t = some (.tup (refs past))
  now : TownAt Cn Ct H c.1 c.2
  old : ∀ q ∈ past, TownAt Cn Ct H q.1 q.2
  gn : Good2 c.2
  go : ∀ q ∈ past, Good2 q.2
theorem SessAt.same {Cs Cn Ct : Addr} {H H' : Hp} {S : Addr} {c : Tn} {past : List Tn} (h : SessAt Cs Cn Ct H S c past) (s : Same H H') : SessAt Cs Cn Ct H' S c past := by
  obtain ⟨⟨dx, t, h1, h2⟩, h3, h4, h5, h6⟩ := h
  exact ⟨⟨dx, t, s _ _ h1, s _ _ h2⟩, h3.same s, fun q hq => (h4 q hq).same s, h5, h6⟩
theorem TownAt.sameB {Cn Ct C S dS : Addr} {H H' : Hp} {p : Addr} {D : TownD} {fs : List (Str × V)} (h : TownAt Cn Ct H p D) (s : SameB S H H') (hS : H S = some (.ins C dS fs)) (hl : fs.length ≤ 2) : TownAt Cn Ct H' p D := by
  obtain ⟨dx, row, lk, h1, h2, h3, h4, h5, h6⟩ := h
  refine ⟨dx, row, lk, s.at hS h1 fun z => ?_, s.at hS h2 (by intro z; cases z), s.at hS h3 (by intro z; cases z), fun r hr => ?_, fun l hl => s.at hS (h5 l hl) (by intro z; cases z), s.at hS h6 (by intro z; cases z)⟩
  · have e := (HO.ins.inj z).2.2
    rw [← e] at hl
    exact absurd hl (by show ¬ 6 ≤ 2; decide)
  · obtain ⟨dr, e⟩ := h4 r hr
    refine ⟨dr, s.at hS e fun z => ?_⟩
    have e := (HO.ins.inj z).2.2
    rw [← e] at hl
    exact absurd hl (by show ¬ 3 ≤ 2; decide)
structure SessK (K : PySem.W.Frag) (mg : Str → Option Value) (C : Addr) : Prop where
  cl : Cls K C
  n1 : NoAttr K C "now"
  n2 : NoAttr K C "past"
  m : mg "Session" = some (.ref C)
def spSessInit (Cs Cn Ct : Addr) : Sp := fun vs H Q _ => ∃ (S dx : Addr) (c : Tn), vs = [.ref S, .ref c.1] ∧ H S = some (.ins Cs dx []) ∧ TownAt Cn Ct H c.1 c.2 ∧ Good2 c.2 ∧ ∀ H', SameB S H H' → SessAt Cs Cn Ct H' S c [] → Q .non H'
theorem scSessInit : FnScope ["self", "town"] ["self", "town"] (defScope sSessInit) := ⟨rfl, rfl, rfl, by decide +kernel, rfl, by decide +kernel, by decide +kernel⟩
theorem ok_sessInit {f Cs Cn Ct : Addr} {fd : FuncData} (F : Fun K "__init__" "Session.__init__" sSessInit f fd) (B : Bl mg) (T : TownK K mg Cn) (S_ : SessK K mg Cs) : FnOk P w K mg base CX0 1 f fd ["self", "town"] (spSessInit Cs Cn Ct) := by
  refine F.ok scSessInit (fun vs H Q E h => ?_) (fun cdv A outer s H vs Q E hr h => ?_)
  · obtain ⟨S, dx, c, rfl, _⟩ := h
    rfl
  · obtain ⟨S, dx, c, rfl, hS, hT, g, q⟩ := h
    obtain ⟨dp, row, lk, hp, _⟩ := id hT
    refine ⟨_, pss_cons (ps_if (pt_not (pt_val (pe_callB (C8.call_isC T.ic) (by rfl) B.isinstance (by decide +kernel) (pa_cons (pv 1) (pa_cons (pe_glob (v := .ref Cn) (by rfl) T.m rfl) pa_nil))))) (pss_one ps_never) pss_nil)
      (pss_cons (ps_fld (pv 0) (pv 1) rfl) (pss_one (ps_fld (pv 0) (pe_tup pa_nil) rfl))), ?_⟩
    refine ⟨_, rfl, c.1, dp, _, rfl, hp, true, rfl, iteF ?_⟩
    refine ⟨_, rfl, _, rfl, S, Cs, dx, _, rfl, hS, S_.cl, S_.n1, (by decide), ?_⟩
    refine ⟨Nat.zero_le _, fun t ht => ?_⟩
    have nSt : S ≠ t := ne_of_none upd_same ht
    refine ⟨_, rfl, S, Cs, dx, _, rfl, (by rw [upd_ne nSt]; exact upd_same), S_.cl, S_.n2, (by rw [pf_nil]; show 1 < 1000; decide), ?_⟩
    have e : putF "past" (.ref t) (putF "now" (.ref c.1) []) = sf c.1 t := by rw [pf_nil, pf_ne (by decide), pf_nil]; rfl
    rw [e]
    have ht0 : H t = none := by rw [upd_ne (Ne.symm nSt)] at ht; exact ht
    have sb : SameB S H (upd (upd (upd H S (.ins Cs dx (putF "now" (.ref c.1) []))) t (.tup [])) S (.ins Cs dx (sf c.1 t))) := fun b o n e => by
      rw [upd_ne n, upd_ne (ne_of_none e ht0), upd_ne n]
      exact e
    exact q _ sb ⟨⟨dx, t, upd_same, by rw [upd_ne (Ne.symm nSt)]; exact upd_same⟩, hT.sameB sb hS (by decide), fun q hq => (by cases hq), g, fun q hq => (by cases hq)⟩
def spCurrent (Cs Cn Ct : Addr) : Sp := fun vs H Q _ => ∃ (S : Addr) (c : Tn) (past : List Tn), vs = [.ref S] ∧ SessAt Cs Cn Ct H S c past ∧ Q (.ref c.1) H
theorem scCurrent : FnScope ["self"] ["self"] (defScope sSessCurrent) := ⟨rfl, rfl, rfl, by decide +kernel, rfl, by decide +kernel, by decide +kernel⟩
theorem ok_current {f Cs Cn Ct : Addr} {fd : FuncData} (F : Fun K "current" "Session.current" sSessCurrent f fd) (S_ : SessK K mg Cs) : FnOk P w K mg base CX0 1 f fd ["self"] (spCurrent Cs Cn Ct) := by
  refine F.ok scCurrent (fun vs H Q E h => ?_) (fun cdv A outer s H vs Q E hr h => ?_)
  · obtain ⟨S, c, past, rfl, _⟩ := h
    rfl
  · obtain ⟨S, c, past, rfl, ⟨⟨dx, t, hS, ht⟩, _⟩, q⟩ := h
    exact ⟨_, pss_one (ps_ret (pe_fld (pv 0) rfl)), _, rfl, S, Cs, dx, _, _, rfl, hS, S_.cl, S_.n1, sf_now _ _, q⟩
def spSLen (Cs Cn Ct : Addr) : Sp := fun vs H Q _ => ∃ (S : Addr) (c : Tn) (past : List Tn), vs = [.ref S] ∧ SessAt Cs Cn Ct H S c past ∧ Q (.int past.length) H
theorem scSLen : FnScope ["self"] ["self"] (defScope sSessLen) := ⟨rfl, rfl, rfl, by decide +kernel, rfl, by decide +kernel, by decide +kernel⟩
theorem ok_sLen {f Cs Cn Ct : Addr} {fd : FuncData} (F : Fun K "__len__" "Session.__len__" sSessLen f fd) (B : Bl mg) (S_ : SessK K mg Cs) : FnOk P w K mg base CX0 1 f fd ["self"] (spSLen Cs Cn Ct) := by
  refine F.ok scSLen (fun vs H Q E h => ?_) (fun cdv A outer s H vs Q E hr h => ?_)
  · obtain ⟨S, c, past, rfl, _⟩ := h
    rfl
  · obtain ⟨S, c, past, rfl, ⟨⟨dx, t, hS, ht⟩, _⟩, q⟩ := h
    refine ⟨_, pss_one (ps_ret (pe_callB call_len_seq (by rfl) B.len PySem.boot_len (pa_cons (pe_fld (pv 0) rfl) pa_nil))), _, rfl, S, Cs, dx, _, _, rfl, hS, S_.cl, S_.n2, sf_past _ _, t, _, rfl, .inr (SqT.of ht), ?_⟩
    have e : (refs past).length = past.length := by unfold refs; rw [List.length_map]
    rw [e]
    exact q
def spGoOn (Cs Cn Ct : Addr) : Sp := fun vs H Q _ => ∃ (S : Addr) (c : Tn) (past : List Tn) (n : Tn), vs = [.ref S, .ref n.1] ∧ SessAt Cs Cn Ct H S c past ∧ past.length ≤ 100 ∧ TownAt Cn Ct H n.1 n.2 ∧ Good2 n.2 ∧ ∀ H', SameB S H H' → SessAt Cs Cn Ct H' S n (past ++ [c]) → Q .non H'
theorem scGoOn : FnScope ["self", "town"] ["self", "town"] (defScope sSessGoOn) := ⟨rfl, rfl, rfl, by decide +kernel, rfl, by decide +kernel, by decide +kernel⟩
theorem ok_goOn {f Cs Cn Ct : Addr} {fd : FuncData} (F : Fun K "go_on" "Session.go_on" sSessGoOn f fd) (S_ : SessK K mg Cs) : FnOk P w K mg base CX0 1 f fd ["self", "town"] (spGoOn Cs Cn Ct) := by
  refine F.ok scGoOn (fun vs H Q E h => ?_) (fun cdv A outer s H vs Q E hr h => ?_)
  · obtain ⟨S, c, past, n, rfl, _⟩ := h
    rfl
  · obtain ⟨S, c, past, n, rfl, hA, hl, hT, g, q⟩ := h
    obtain ⟨⟨dx, t, hS, ht⟩, hn, ho, gn, go⟩ := id hA
    refine ⟨_, pss_cons (ps_fld (pv 0) (pe_tup (StX.pa_star (pe_fld (pv 0) rfl) (pa_cons (pe_fld (pv 0) rfl) pa_nil))) rfl) (pss_one (ps_fld (pv 0) (pv 1) rfl)), ?_⟩
    refine ⟨_, rfl, S, Cs, dx, _, _, rfl, hS, S_.cl, S_.n2, sf_past _ _, t, _, rfl, .inl (SqT.of ht), _, rfl, S, Cs, dx, _, _, rfl, hS, S_.cl, S_.n1, sf_now _ _, ?_, fun t' ht' => ?_⟩
    · rw [List.length_append]
      have e : (refs past).length = past.length := by unfold refs; rw [List.length_map]
      rw [e]
      exact Nat.le_of_lt (small1000 (by show past.length + 1 ≤ 1000; omega))
    have eT : refs past ++ [V.ref c.1] = refs (past ++ [c]) := by unfold refs; rw [List.map_append]; rfl
    rw [eT]
    have nSt : S ≠ t' := ne_of_none hS ht'
    refine ⟨_, rfl, S, Cs, dx, _, rfl, (by rw [upd_ne nSt]; exact hS), S_.cl, S_.n2, (by show 2 < 1000; decide), ?_⟩
    rw [sf_put_past]
    refine ⟨_, rfl, _, rfl, S, Cs, dx, _, rfl, upd_same, S_.cl, S_.n1, (by show 2 < 1000; decide), ?_⟩
    rw [sf_put_now]
    have sb : SameB S H (upd (upd (upd H t' (.tup (refs (past ++ [c])))) S (.ins Cs dx (sf c.1 t'))) S (.ins Cs dx (sf n.1 t'))) := fun b o n e => by
      rw [upd_ne n, upd_ne n, upd_ne (ne_of_none e ht')]
      exact e
    refine q _ sb ⟨⟨dx, t', upd_same, by rw [upd_ne (Ne.symm nSt), upd_ne (Ne.symm nSt)]; exact upd_same⟩, hT.sameB sb hS (by show 2 ≤ 2; decide), fun x hx => ?_, g, fun x hx => ?_⟩
    · rcases List.mem_append.mp hx with hx | hx
      · exact (ho x hx).sameB sb hS (by show 2 ≤ 2; decide)
      · rw [List.mem_singleton] at hx
        rw [hx]
        exact hn.sameB sb hS (by show 2 ≤ 2; decide)
    · rcases List.mem_append.mp hx with hx | hx
      · exact go x hx
      · rw [List.mem_singleton] at hx
        rw [hx]
        exact gn
def spPut (Cs Cn Ct : Addr) : Sp := fun vs H Q _ => ∃ (S pt : Addr) (t : TillD) (c : Tn) (past : List Tn), vs = [.ref S, .ref pt] ∧ SessAt Cs Cn Ct H S c past ∧ past.length ≤ 100 ∧ TillAt Ct H pt t ∧ GoodT t ∧ t.name ∈ namesOf c.2.rs ∧
  ∀ H' q j ls', SameB S H H' → (namesOf c.2.rs)[j]? = some t.name → SessAt Cs Cn Ct H' S (q, { wD c.2 j pt t with ls := ls' }) (past ++ [c]) → Q .non H'
theorem scPut : FnScope ["self", "till"] ["self", "till"] (defScope sSessPut) := ⟨rfl, rfl, rfl, by decide +kernel, rfl, by decide +kernel, by decide +kernel⟩
theorem good_norm {D : TownD} {ls' : List Lk} (g : GoodD D) (h : NormOf D.ls ls') : GoodD { D with ls := ls' } :=
  ⟨g.l1, g.l4, g.nd, g.gt, fun l hl => g.gl l (h.1.subset hl), (h.1.map _).symm.nodup g.ndl, by show ls'.length ≤ 60; rw [h.1.length_eq]; exact g.l60, g.m0, g.m9, g.mi⟩
theorem ok_put {f fG fW Cs Cn Ct : Addr} {fd fdG fdW : FuncData} (F : Fun K "put" "Session.put" sSessPut f fd) (T : TownK K mg Cn) (S_ : SessK K mg Cs) (GG : FnOk P w K mg base CX0 1 fG fdG ["self", "town"] (spGoOn Cs Cn Ct)) (mG : Mn K Cs "go_on" fG fdG ["self", "town"])
    (GW : FnOk P w K mg base (L2.CX P w) 8 fW fdW ["self", "till"] (spWith Cn Ct)) (mW : Mn K Cn "with_till" fW fdW ["self", "till"]) : FnOk P w K mg base (L2.CX P w) 9 f fd ["self", "till"] (spPut Cs Cn Ct) := by
  refine F.okX scPut (fun vs H Q E h => ?_) (fun cdv A outer s H vs Q E hr h => ?_)
  · obtain ⟨S, pt, t, c, past, rfl, _⟩ := h
    rfl
  · obtain ⟨S, pt, t, c, past, rfl, hA, hl, ht, gt, mt, q⟩ := h
    obtain ⟨⟨dx, tp, hS, htp⟩, hn, ho, gn, go⟩ := id hA
    obtain ⟨dc, row, lk, hc, _⟩ := id hn
    have hr1 : Room 1 _ := hr.mono (by decide)
    refine ⟨_, pss_one (ps_expr (pe_meth (pv 0) S_.cl mG.m GG hr1 mG.b .nil pass0 (pa_cons (pe_meth (E := E0) (pe_fld (pv 0) rfl) T.ic.cl mW.m GW hr mW.b .nil passL (pa_cons (pv 1) pa_nil)) pa_nil))), ?_⟩
    refine ⟨_, rfl, S, dx, _, rfl, hS, sf_no _ _ (by decide), _, rfl, S, Cs, dx, _, _, rfl, hS, S_.cl, S_.n1, sf_now _ _, c.1, dc, _, rfl, hc, nf_no _ _ _ (by decide), _, rfl, c.1, pt, t, c.2, rfl, hn, gn.1, gn.2, ht, gt, mt, fun H1 n j ls' s1 hj hno hT => ?_⟩
    refine ⟨S, c, past, (n, _), rfl, hA.same s1, hl, hT, ⟨good_norm (good_with gn.1 gt hj) hno, gn.2⟩, fun H2 s2 hA2 => q H2 n j ls' (fun b o ne e => s2 b o ne (s1 b o e)) hj hA2⟩
def spAssign (Cs Cn Ct Cb : Addr) : Sp := fun vs H Q E => ∃ (S : Addr) (z : Str) (v : Int) (c : Tn) (past : List Tn), vs = [.ref S, .str z, .int v] ∧ SessAt Cs Cn Ct H S c past ∧ past.length ≤ 100 ∧ ((z = "money" ∧ 0 ≤ v ∧ v ≤ 9) ∨ z = "tops") ∧
  (Tops (chD c.2 z v).tops → ∀ H' q ls', SameB S H H' → SessAt Cs Cn Ct H' S (q, { chD c.2 z v with ls := ls' }) (past ++ [c]) → Q .non H') ∧ (¬ Tops (chD c.2 z v).tops → BadE Cb "part" "tops" H E)
theorem scAssign : FnScope ["self", "part", "value"] ["self", "part", "value"] (defScope sSessAssign) := ⟨rfl, rfl, rfl, by decide +kernel, rfl, by decide +kernel, by decide +kernel⟩
theorem ok_assign {f fG fC Cs Cn Ct Cb : Addr} {fd fdG fdC : FuncData} (F : Fun K "assign" "Session.assign" sSessAssign f fd) (T : TownK K mg Cn) (S_ : SessK K mg Cs) (GG : FnOk P w K mg base CX0 1 fG fdG ["self", "town"] (spGoOn Cs Cn Ct)) (mG : Mn K Cs "go_on" fG fdG ["self", "town"])
    (GC : FnOk P w K mg base (L2.CX P w) 8 fC fdC ["self", "part", "value"] (spChanged Cn Ct Cb)) (mC : Mn K Cn "changed" fC fdC ["self", "part", "value"]) : FnOk P w K mg base (L2.CX P w) 9 f fd ["self", "part", "value"] (spAssign Cs Cn Ct Cb) := by
  refine F.okX scAssign (fun vs H Q E h => ?_) (fun cdv A outer s H vs Q E hr h => ?_)
  · obtain ⟨S, z, v, c, past, rfl, _⟩ := h
    rfl
  · obtain ⟨S, z, v, c, past, rfl, hA, hl, hz, qn, qx⟩ := h
    obtain ⟨⟨dx, tp, hS, htp⟩, hn, ho, gn, go⟩ := id hA
    obtain ⟨dc, row, lk, hc, _⟩ := id hn
    have hr1 : Room 1 _ := hr.mono (by decide)
    refine ⟨_, pss_one (ps_expr (pe_meth (pv 0) S_.cl mG.m GG hr1 mG.b .nil pass0 (pa_cons (pe_meth (pe_fld (pv 0) rfl) T.ic.cl mC.m GC hr mC.b .nil (passes_call (takes_of rfl rfl rfl rfl) (fun _ _ _ _ h => h)) (pa_cons (pv 1) (pa_cons (pv 2) pa_nil))) pa_nil))), ?_⟩
    refine ⟨_, rfl, S, dx, _, rfl, hS, sf_no _ _ (by decide), _, rfl, S, Cs, dx, _, _, rfl, hS, S_.cl, S_.n1, sf_now _ _, c.1, dc, _, rfl, hc, nf_no _ _ _ (by decide), _, rfl, _, rfl, c.1, z, v, c.2, rfl, hn, gn.1, hz, fun ht H1 n ls' s1 hno hT => ?_, qx⟩
    refine ⟨S, c, past, (n, _), rfl, hA.same s1, hl, hT, ⟨good_norm (good_ch gn.1 hz) hno, ht⟩, fun H2 s2 hA2 => qn ht H2 n ls' (fun b o ne e => s2 b o ne (s1 b o e)) hA2⟩
end
end CT
set_option Elab.async false
set_option linter.all false
set_option maxRecDepth 100000
set_option maxHeartbeats 4000000
/-! W10: undo; Trial; attempt -/
namespace CT
open PySem L2
section
variable {P : Program} {w : World} {K : PySem.W.Frag} {mg : Str → Option Value} {base : Heap}
def spUndo (Cs Cn Ct Cu : Addr) : Sp := fun vs H Q E => ∃ (S : Addr) (c : Tn) (past : List Tn), vs = [.ref S] ∧ SessAt Cs Cn Ct H S c past ∧ past.length ≤ 1000 ∧ (past = [] → BadE Cu "name" "undo" H E) ∧
  (∀ past' x, past = past' ++ [x] → ∀ H', SameB S H H' → SessAt Cs Cn Ct H' S x past' → Q .non H')
theorem scUndo : FnScope ["self"] ["self"] (defScope sSessUndo) := ⟨rfl, rfl, rfl, by decide +kernel, rfl, by decide +kernel, by decide +kernel⟩
theorem split_last {α : Type} : ∀ l : List α, l = [] ∨ ∃ a x, l = a ++ [x]
  | [] => .inl rfl
  | y :: l => by
    rcases split_last l with h | ⟨a, x, h⟩
    · exact .inr ⟨[], y, by rw [h]; rfl⟩
    · exact .inr ⟨y :: a, x, by rw [h]; rfl⟩
theorem sIx_m1 (n : Nat) (h : 1 ≤ n) : HT.sIx n n (some (-1)) = n - 1 := by
  show (if (-1 : Int) < 0 then ((-1 : Int) + (n : Int)).toNat else min (-1 : Int).toNat n) = n - 1
  rw [if_pos (by decide)]
  omega
theorem ok_undo {f fI Cs Cn Ct Cu : Addr} {fd fdI : FuncData} {B0 nI iI : String} {bm : List Value} (F : Fun K "undo" "Session.undo" sSessUndo f fd) (S_ : SessK K mg Cs) (X0 : ExK K mg "NothingToUndo" "name" Cu fI fdI B0 nI iI bm) (GX : FnOk P w K mg base CX0 1 fI fdI ["self", "name"] (spExInit Cu "name")) :
    FnOk P w K mg base (L2.CX P w) 3 f fd ["self"] (spUndo Cs Cn Ct Cu) := by
  refine F.okX scUndo (fun vs H Q E h => ?_) (fun cdv A outer s H vs Q E hr h => ?_)
  · obtain ⟨S, c, past, rfl, _⟩ := h
    rfl
  · obtain ⟨S, c, past, rfl, hA, hl, qx, qn⟩ := h
    obtain ⟨⟨dx, t, hS, ht⟩, hn, ho, gn, go⟩ := id hA
    refine ⟨_, pss_cons (ps_if (pt_cmpR (KT.op_eqT0 hr.units0) (pe_fld (pv 0) rfl) (pe_tup pa_nil) (nomark _)) (pss_one (ps_raise rfl (takes_of rfl rfl rfl rfl) (KX.pmk_g X0.T X0.iC X0.tI GX hr X0.b pass0 (by rfl) X0.m (pa_cons pe_str pa_nil)))) pss_nil)
      (pss_cons (ps_fld (pv 0) (pe_ix ix_tup (pe_fld (pv 0) rfl) (pe_un un_neg pe_int) (fun _ _ => rfl)) rfl)
      (pss_one (ps_fld (pv 0) (pe_slice sl_tupA (pe_fld (pv 0) rfl) po_none (po_some (pe_un un_neg pe_int))) rfl))), ?_⟩
    refine ⟨_, rfl, S, Cs, dx, _, _, rfl, hS, S_.cl, S_.n2, sf_past _ _, Nat.zero_le _, fun e he => ?_⟩
    have s1 : Same H (upd H e (.tup [])) := fun b o q => by rw [upd_ne (ne_of_none q he)]; exact q
    refine ⟨t, e, _, rfl, rfl, SqT.of (s1 _ _ ht), SqT.of upd_same, _, rfl, ?_⟩
    have lp : (refs past).length = past.length := by unfold refs; rw [List.length_map]
    rcases split_last past with hp | ⟨past', x, hp⟩
    · rw [lp, hp]
      refine iteT ⟨(by show 1 ≤ 1000; decide), mk_bad fun d H' s2 hd => qx hp d H' (s1.trans s2) hd⟩
    · have n0 : ((refs past).length == 0) = false := by
        rw [lp, hp]
        simp
      rw [n0]
      refine iteF ?_
      have er : refs past = refs past' ++ [V.ref x.1] := by rw [hp]; unfold refs; rw [List.map_append]; rfl
      have hS1 := s1 _ _ hS
      have ht1 := s1 _ _ ht
      refine ⟨_, rfl, S, Cs, dx, _, _, rfl, hS1, S_.cl, S_.n2, sf_past _ _, _, rfl, t, _, _, _, rfl, rfl, SqT.of ht1, (by rw [er]; exact atI_last _ _), ?_⟩
      refine ⟨_, rfl, S, Cs, dx, _, rfl, hS1, S_.cl, S_.n1, (by show 2 < 1000; decide), ?_⟩
      rw [sf_put_now]
      have ht2 : upd (upd H e (.tup [])) S (.ins Cs dx (sf x.1 t)) t = some (.tup (refs past)) := by rw [upd_ne (ne_of ht1 hS1 (by intro z; cases z))]; exact ht1
      refine ⟨_, rfl, S, Cs, dx, _, _, rfl, upd_same, S_.cl, S_.n2, sf_past _ _, _, rfl, _, rfl, t, _, rfl, SqT.of ht2, fun whole => ?_, fun _ u hu => ?_⟩
      · have w2 := whole.2
        have l1 : 1 ≤ (refs past).length := by rw [er]; simp
        rw [show (-1 : Int) = -1 from rfl, sIx_m1 _ l1] at w2
        omega
      have ecut : cutV (refs past) none (some (-1)) = refs past' := by
        have l1 : 1 ≤ (refs past).length := by rw [er]; simp
        unfold cutV
        rw [HT.sIx_none, sIx_m1 _ l1, List.drop_zero, Nat.sub_zero, er]
        simp
      rw [ecut]
      have nSu : S ≠ u := ne_of_none upd_same hu
      refine ⟨_, rfl, S, Cs, dx, _, rfl, (by rw [upd_ne nSu]; exact upd_same), S_.cl, S_.n2, (by show 2 < 1000; decide), ?_⟩
      rw [sf_put_past]
      have sb : SameB S H (upd (upd (upd (upd H e (.tup [])) S (.ins Cs dx (sf x.1 t))) u (.tup (refs past'))) S (.ins Cs dx (sf x.1 u))) := fun b o n q => by
        have q1 := s1 _ _ q
        have q2 : upd (upd H e (.tup [])) S (.ins Cs dx (sf x.1 t)) b = some o := by rw [upd_ne n]; exact q1
        rw [upd_ne n, upd_ne (ne_of_none q2 hu)]
        exact q2
      have hx : x ∈ past := by rw [hp]; exact List.mem_append_right _ List.mem_cons_self
      refine qn past' x hp _ sb ⟨⟨dx, u, upd_same, by rw [upd_ne (Ne.symm nSu)]; exact upd_same⟩, (ho x hx).sameB sb hS (by show 2 ≤ 2; decide), fun y hy => ?_, go x hx, fun y hy => ?_⟩
      · exact (ho y (by rw [hp]; exact List.mem_append_left _ hy)).sameB sb hS (by show 2 ≤ 2; decide)
      · exact go y (by rw [hp]; exact List.mem_append_left _ hy)
/-! ### Trial -/
def rf (S : Addr) (n k : V) : List (Str × V) := [("session", .ref S), ("kept_now", n), ("kept_past", k)]
theorem rf_s (S : Addr) (n k : V) : (rf S n k).lookup ("session" : Str) = some (.ref S) := lk_eq
theorem rf_n (S : Addr) (n k : V) : (rf S n k).lookup ("kept_now" : Str) = some n := (lk_ne (by decide)).trans lk_eq
theorem rf_k (S : Addr) (n k : V) : (rf S n k).lookup ("kept_past" : Str) = some k := (lk_ne (by decide)).trans ((lk_ne (by decide)).trans lk_eq)
theorem rf_put_n (S : Addr) (n n' k : V) : putF "kept_now" n' (rf S n k) = rf S n' k := by
  unfold rf
  rw [pf_ne (by decide), pf_eq]
theorem rf_put_k (S : Addr) (n k k' : V) : putF "kept_past" k' (rf S n k) = rf S n k' := by
  unfold rf
  rw [pf_ne (by decide), pf_ne (by decide), pf_eq]
structure TrialK (K : PySem.W.Frag) (mg : Str → Option Value) (C : Addr) : Prop where
  cl : Cls K C
  n1 : NoAttr K C "session"
  n2 : NoAttr K C "kept_now"
  n3 : NoAttr K C "kept_past"
  m : mg "Trial" = some (.ref C)
def spTrialInit (Cr : Addr) : Sp := fun vs H Q _ => ∃ (R S dx : Addr), vs = [.ref R, .ref S] ∧ H R = some (.ins Cr dx []) ∧ ∀ H' k, SameB R H H' → H' R = some (.ins Cr dx (rf S .non k)) → Q .non H'
theorem scTrialInit : FnScope ["self", "session"] ["self", "session"] (defScope sTrialInit) := ⟨rfl, rfl, rfl, by decide +kernel, rfl, by decide +kernel, by decide +kernel⟩
theorem ok_trialInit {f Cr : Addr} {fd : FuncData} (F : Fun K "__init__" "Trial.__init__" sTrialInit f fd) (R_ : TrialK K mg Cr) : FnOk P w K mg base CX0 1 f fd ["self", "session"] (spTrialInit Cr) := by
  refine F.ok scTrialInit (fun vs H Q E h => ?_) (fun cdv A outer s H vs Q E hr h => ?_)
  · obtain ⟨R, S, dx, rfl, _⟩ := h
    rfl
  · obtain ⟨R, S, dx, rfl, hR, q⟩ := h
    refine ⟨_, pss_cons (ps_fld (pv 0) (pv 1) rfl) (pss_cons (ps_fld (pv 0) pe_non rfl) (pss_one (ps_fld (pv 0) (pe_tup pa_nil) rfl))), ?_⟩
    refine ⟨_, rfl, _, rfl, R, Cr, dx, _, rfl, hR, R_.cl, R_.n1, (by decide), ?_⟩
    refine ⟨_, rfl, R, Cr, dx, _, rfl, upd_same, R_.cl, R_.n2, (Nat.lt_of_le_of_lt (len_put (Nat.le_refl 0)) (by decide)), ?_⟩
    rw [upd_upd]
    refine ⟨Nat.zero_le _, fun t ht => ?_⟩
    have nRt : R ≠ t := ne_of_none upd_same ht
    refine ⟨_, rfl, R, Cr, dx, _, rfl, (by rw [upd_ne nRt]; exact upd_same), R_.cl, R_.n3, (Nat.lt_of_le_of_lt (len_put (len_put (Nat.le_refl 0))) (by decide)), ?_⟩
    have e : putF "kept_past" (.ref t) (putF "kept_now" .non (putF "session" (.ref S) [])) = rf S .non (.ref t) := by rw [pf_nil, pf_ne (by decide), pf_nil, pf_ne (by decide), pf_ne (by decide), pf_nil]; rfl
    rw [e]
    have ht0 : H t = none := by rw [upd_ne (Ne.symm nRt)] at ht; exact ht
    exact q _ (.ref t) (fun b o n q => by rw [upd_ne n, upd_ne (ne_of_none q ht0), upd_ne n]; exact q) upd_same
def spTrial (Cr : Addr) : Sp := fun vs H Q _ => ∃ (S : Addr), vs = [.ref S] ∧ ∀ H' R dx k, Same H H' → H R = none → H' R = some (.ins Cr dx (rf S .non k)) → Q (.ref R) H'
theorem scTrial : FnScope ["self"] ["self"] (defScope sSessTrial) := ⟨rfl, rfl, rfl, by decide +kernel, rfl, by decide +kernel, by decide +kernel⟩
theorem ok_trial {f fI Cr : Addr} {fd fdI : FuncData} (F : Fun K "trial" "Session.trial" sSessTrial f fd) (R_ : TrialK K mg Cr) (M : Mk K Cr fI) (GI : FnOk P w K mg base CX0 1 fI fdI ["self", "session"] (spTrialInit Cr)) (bI : Binds K fdI ["self", "session"] []) : FnOk P w K mg base CX0 3 f fd ["self"] (spTrial Cr) := by
  refine F.ok scTrial (fun vs H Q E h => ?_) (fun cdv A outer s H vs Q E hr h => ?_)
  · obtain ⟨S, rfl, _⟩ := h
    rfl
  · obtain ⟨S, rfl, q⟩ := h
    refine ⟨_, pss_one (ps_ret (pe_make M GI hr (by rfl) R_.m bI .nil pass0 (pa_cons (pv 0) pa_nil))), ?_⟩
    refine ⟨_, rfl, fun R dx nR ndx ne => ?_⟩
    have s0 : Same H (upd (upd H dx (.own R)) R (.ins Cr dx [])) := fun b o e => by rw [upd_ne (ne_of_none e nR), upd_ne (ne_of_none e ndx)]; exact e
    exact ⟨R, S, dx, rfl, upd_same, fun H' k sb hR => ⟨rfl, q H' R dx k (fun b o e => sb b o (ne_of_none e nR) (s0 b o e)) nR hR⟩⟩
def spEnter (Cr Cs : Addr) : Sp := fun vs H Q _ => ∃ (R S dx ds p t : Addr) (n k : V), vs = [.ref R] ∧ H R = some (.ins Cr dx (rf S n k)) ∧ H S = some (.ins Cs ds (sf p t)) ∧ Q (.ref S) (upd H R (.ins Cr dx (rf S (.ref p) (.ref t))))
theorem scEnter : FnScope ["self"] ["self"] (defScope sTrialEnter) := ⟨rfl, rfl, rfl, by decide +kernel, rfl, by decide +kernel, by decide +kernel⟩
theorem rs_ne {Cr Cs R S dx ds p t : Addr} {n k : V} {H : Hp} (hR : H R = some (.ins Cr dx (rf S n k))) (hS : H S = some (.ins Cs ds (sf p t))) : S ≠ R := ne_of hS hR fun z => by
  have e := congrArg List.length (HO.ins.inj z).2.2
  exact absurd e (by show ¬ 2 = 3; decide)
theorem ok_enter {f Cr Cs : Addr} {fd : FuncData} (F : Fun K "__enter__" "Trial.__enter__" sTrialEnter f fd) (R_ : TrialK K mg Cr) (S_ : SessK K mg Cs) : FnOk P w K mg base CX0 1 f fd ["self"] (spEnter Cr Cs) := by
  refine F.ok scEnter (fun vs H Q E h => ?_) (fun cdv A outer s H vs Q E hr h => ?_)
  · obtain ⟨R, S, dx, ds, p, t, n, k, rfl, _⟩ := h
    rfl
  · obtain ⟨R, S, dx, ds, p, t, n, k, rfl, hR, hS, q⟩ := h
    have nSR := rs_ne hR hS
    refine ⟨_, pss_cons (ps_fld (pv 0) (pe_fld (pe_fld (pv 0) rfl) rfl) rfl) (pss_cons (ps_fld (pv 0) (pe_fld (pe_fld (pv 0) rfl) rfl) rfl) (pss_one (ps_ret (pe_fld (pv 0) rfl)))), ?_⟩
    refine ⟨_, rfl, R, Cr, dx, _, _, rfl, hR, R_.cl, R_.n1, rf_s _ _ _, S, Cs, ds, _, _, rfl, hS, S_.cl, S_.n1, sf_now _ _, _, rfl, R, Cr, dx, _, rfl, hR, R_.cl, R_.n2, (by show 3 < 1000; decide), ?_⟩
    rw [rf_put_n]
    have hS1 : upd H R (.ins Cr dx (rf S (.ref p) k)) S = some (.ins Cs ds (sf p t)) := by rw [upd_ne nSR]; exact hS
    refine ⟨_, rfl, R, Cr, dx, _, _, rfl, upd_same, R_.cl, R_.n1, rf_s _ _ _, S, Cs, ds, _, _, rfl, hS1, S_.cl, S_.n2, sf_past _ _, _, rfl, R, Cr, dx, _, rfl, upd_same, R_.cl, R_.n3, (by show 3 < 1000; decide), ?_⟩
    rw [rf_put_k, upd_upd]
    exact ⟨_, rfl, R, Cr, dx, _, _, rfl, upd_same, R_.cl, R_.n1, rf_s _ _ _, q⟩
def spExit (Cr Cs : Addr) : Sp := fun vs H Q _ => ∃ (R S dx ds p t p' t' : Addr) (a b c : V), vs = [.ref R, a, b, c] ∧ H R = some (.ins Cr dx (rf S (.ref p) (.ref t))) ∧ H S = some (.ins Cs ds (sf p' t')) ∧ Q (.bl false) (upd H S (.ins Cs ds (sf p t)))
theorem scExit : FnScope ["self", "kind", "error", "trace"] ["self", "kind", "error", "trace"] (defScope sTrialExit) := ⟨rfl, rfl, rfl, by decide +kernel, rfl, by decide +kernel, by decide +kernel⟩
theorem ok_exit {f Cr Cs : Addr} {fd : FuncData} (F : Fun K "__exit__" "Trial.__exit__" sTrialExit f fd) (R_ : TrialK K mg Cr) (S_ : SessK K mg Cs) : KW.FnA P w K mg base CX0 1 f fd ["self", "kind", "error", "trace"] (spExit Cr Cs) := by
  obtain ⟨oc, od, kV, doc, pm, an, cdv, ct, osl, rfl, lk, hcd⟩ := F.ex
  refine KW.fn_ofA lk hcd scExit (fun vs H Q E h => ?_) (fun A outer s H vs Q E hr h => ?_)
  · obtain ⟨R, S, dx, ds, p, t, p', t', a, b, c, rfl, _⟩ := h
    rfl
  · obtain ⟨R, S, dx, ds, p, t, p', t', a, b, c, rfl, hR, hS, q⟩ := h
    have nSR := rs_ne hR hS
    refine ⟨_, pss_cons (ps_fld (pe_fld (pv 0) rfl) (pe_fld (pv 0) rfl) rfl) (pss_cons (ps_fld (pe_fld (pv 0) rfl) (pe_fld (pv 0) rfl) rfl) (pss_one (ps_ret pe_bl))), ?_⟩
    refine ⟨_, rfl, R, Cr, dx, _, _, rfl, hR, R_.cl, R_.n2, rf_n _ _ _, _, rfl, R, Cr, dx, _, _, rfl, hR, R_.cl, R_.n1, rf_s _ _ _, S, Cs, ds, _, rfl, hS, S_.cl, S_.n1, (by show 2 < 1000; decide), ?_⟩
    rw [sf_put_now]
    have hR1 : upd H S (.ins Cs ds (sf p t')) R = some (.ins Cr dx (rf S (.ref p) (.ref t))) := by rw [upd_ne (Ne.symm nSR)]; exact hR
    refine ⟨_, rfl, R, Cr, dx, _, _, rfl, hR1, R_.cl, R_.n3, rf_k _ _ _, _, rfl, R, Cr, dx, _, _, rfl, hR1, R_.cl, R_.n1, rf_s _ _ _, S, Cs, ds, _, rfl, upd_same, S_.cl, S_.n2, (by show 2 < 1000; decide), ?_⟩
    rw [sf_put_past, upd_upd]
    exact q
/-! ### attempt -/
/-- all stays but the object at S and the tables of code objects -/
def SameN (S : Addr) (H H' : Hp) : Prop := ∀ b o, b ≠ S → H b = some o → (∀ ps, o ≠ .tbl ps) → H' b = some o
theorem SameN.of {S : Addr} {H H' : Hp} (s : Same H H') : SameN S H H' := fun b o _ e _ => s b o e
theorem SameN.ofB {S : Addr} {H H' : Hp} (s : SameB S H H') : SameN S H H' := fun b o n e _ => s b o n e
theorem SameN.trans {S : Addr} {H H1 H2 : Hp} (a : SameN S H H1) (b : SameN S H1 H2) : SameN S H H2 := fun c o n e h => b c o n (a c o n e h) h
/-- what a visitor leaves of the session at S -/
def VisEnd (Cs ds S : Addr) (H1 H2 : Hp) : Prop := SameN S H1 H2 ∧ ∃ p' t', H2 S = some (.ins Cs ds (sf p' t'))
open KL in
def spAttempt (P : Program) (w : World) (K : PySem.W.Frag) (mg : Str → Option Value) (base : Heap) (k : Nat) (Cs : Addr) : SpS := fun outer s vs H Q E => ∃ (S f ds p t : Addr) (F : LF) (N ps fr : List Str) (ws : List (Option V)) (tl : TL),
  vs = [.ref S, .ref f] ∧ LamOk P w K mg base k F f N ps fr ws tl ∧ VisAt F f fr ws outer s H ∧ H S = some (.ins Cs ds (sf p t)) ∧
  ∀ H1 E1 Q1, Same H H1 → (∀ v H2 ds', VisEnd Cs ds' S H1 H2 → Q v (upd H2 S (.ins Cs ds' (sf p t))) → Q1 v H2) → (∀ c d H2 ds', VisEnd Cs ds' S H1 H2 → E (.ref c) d (upd H2 S (.ins Cs ds' (sf p t))) → E1 (.ref c) d H2) → tl E1 [.ref S] H1 Q1
theorem scAttempt : FnScope ["self", "visitor", "session", "found"] ["self", "visitor"] (defScope sSessAttempt) := ⟨rfl, rfl, rfl, by decide +kernel, rfl, by decide +kernel, by decide +kernel⟩
theorem ok_attempt {k : Nat} {f fT fE fX Cr Cs : Addr} {fd fdT fdE fdX : FuncData} (hk : 3 ≤ k) (F : Fun K "attempt" "Session.attempt" sSessAttempt f fd) (R_ : TrialK K mg Cr) (S_ : SessK K mg Cs) (GT : FnOk P w K mg base CX0 3 fT fdT ["self"] (spTrial Cr)) (mT : Mn K Cs "trial" fT fdT ["self"])
    (GE : FnOk P w K mg base CX0 1 fE fdE ["self"] (spEnter Cr Cs)) (mE : Mn K Cr "__enter__" fE fdE ["self"]) (GX : KW.FnA P w K mg base CX0 1 fX fdX ["self", "kind", "error", "trace"] (spExit Cr Cs)) (mX : Mn K Cr "__exit__" fX fdX ["self", "kind", "error", "trace"]) :
    KL.FnS P w K mg base (k + 2) f fd ["self", "visitor"] (spAttempt P w K mg base k Cs) := by
  refine KL.okS F scAttempt (fun outer s vs H Q E h => ?_) (fun cdv A outer s H vs Q E hr e0 h => ?_)
  · obtain ⟨S, f, ds, p, t, F, N, ps, fr, ws, tl, rfl, _⟩ := h
    rfl
  · obtain ⟨S, vf, ds, p, t, VF, N, ps, fr, ws, tl, rfl, L, V0, hS, hv⟩ := h
    have hr1 : Room 1 _ := hr.mono (by omega)
    have hr3 : Room 3 _ := hr.mono (by omega)
    refine ⟨_, pss_cons (KW.ps_with (C := Cr) (CX := CX0) (i := 2) rfl rfl rfl (takes_of rfl rfl rfl rfl) (pe_meth0 (pv 0) S_.cl mT.m GT hr3 mT.b .nil pass0) mE.m.at_ mE.m.fn mX.m.at_ mX.m.fn GE hr1 mE.b pass0 GX hr1 mX.b scAttempt.nd rfl (Or.inl rfl) (Or.inl rfl)
        (tb := fun W => tAsg (KL.tVis 1 vf VF tl (fun cls d H => ∀ σ, W cls d σ H) (tCons (tVar 2) tNil)) (gName 3))
        (fun W pn xe tk _ => pss_one (ps_set (i := 3) scAttempt.nd rfl (Or.inl rfl) (by exact (KL.pe_vis L V0 rfl rfl rfl hr (passes_call tk (fun cls d σ H h => h σ)) rfl (Or.inl rfl) (by exact (pa_cons (pv 2) pa_nil)))))))
      (pss_one (ps_ret (pv 3))), ?_⟩
    refine ⟨_, rfl, S, ds, _, rfl, hS, sf_no _ _ (by decide), S, rfl, fun H1 R dx kk s1 nR hR => ?_⟩
    have hS1 := s1 _ _ hS
    refine ⟨R, dx, _, rfl, hR, R, S, dx, ds, p, t, _, _, rfl, hR, hS1, ?_⟩
    have s2 : Same H (upd H1 R (.ins Cr dx (rf S (.ref p) (.ref t)))) := fun b o e => by rw [upd_ne (ne_of_none e nR)]; exact s1 _ _ e
    have hR2 : upd H1 R (.ins Cr dx (rf S (.ref p) (.ref t))) R = some (.ins Cr dx (rf S (.ref p) (.ref t))) := upd_same
    generalize upd H1 R (.ins Cr dx (rf S (.ref p) (.ref t))) = H2 at s2 hR2
    have nRS : R ≠ S := fun z => by rw [z, hS] at nR; cases nR
    have back : ∀ {H3 : Hp} {ds' : Addr}, VisEnd Cs ds' S H2 H3 → H3 R = some (.ins Cr dx (rf S (.ref p) (.ref t))) := fun {H3 ds'} h => h.1 R _ nRS hR2 (by intro ps z; cases z)
    refine ⟨rfl, _, rfl, s2 _ _ V0.code, ?_⟩
    refine hv H2 _ _ s2 (fun v H3 ds' ve q => ?_) fun c d H3 ds' ve q σ => ?_
    · obtain ⟨hS3, p', t', e3⟩ := id ve
      exact ⟨R, S, dx, ds', p, t, p', t', _, _, _, rfl, back ve, e3, _, rfl, q⟩
    · obtain ⟨hS3, p', t', e3⟩ := id ve
      exact ⟨c, rfl, fun e tb he => ⟨R, S, dx, ds', p, t, p', t', _, _, _, rfl, back ve, e3, rfl, q⟩⟩
end
end CT
set_option Elab.async false
set_option linter.all false
set_option maxRecDepth 100000
set_option maxHeartbeats 4000000
/-! W11: the draws -/
namespace CT
open PySem L2
section
variable {P : Program} {w : World} {K : PySem.W.Frag} {mg : Str → Option Value} {base : Heap}
def PoolAt (H : Hp) (q : Addr) : Prop := ∃ A B : Int, H q = some (.lst [.int A, .int B]) ∧ 0 ≤ A ∧ 0 ≤ B ∧ B < 2147483647
theorem PoolAt.same {H H' : Hp} {q : Addr} (h : PoolAt H q) (s : ∀ o, H q = some o → H' q = some o) : PoolAt H' q := let ⟨A, B, e, r⟩ := h; ⟨A, B, s _ e, r⟩
def spPool (K : PySem.W.Frag) : Sp := fun vs H Q _ => ∃ (a : Addr) (k : Int) (ns : List Int), vs = [.ref a, .int k] ∧ SqL K H a (ns.map V.int) ∧ ns.length ≤ 63 ∧ 0 ≤ k ∧ k ≤ 2 ∧ ∀ H' q, Same H H' → PoolAt H' q → H q = none → Q (.ref q) H'
abbrev nPool : List Str := ["_law_script", "_law_k", "_law_cell", "_law_size", "_law_mixed"]
theorem scPool : FnScope nPool ["_law_script", "_law_k"] (defScope sPool) := ⟨rfl, rfl, rfl, by decide +kernel, rfl, by decide +kernel, by decide +kernel⟩
theorem bnd {n : Int} (h0 : 0 ≤ n) (h1 : n < 2147483647) : -(2 ^ 64) < n ∧ n < 2 ^ 64 := ⟨by omega, by omega⟩
theorem atI_z {xs : List V} {r : Int} {v : V} (h0 : 0 ≤ r) (h : xs[r.toNat]? = some v) : atI xs r = some v := by
  obtain ⟨n, rfl⟩ := Int.eq_ofNat_of_zero_le h0
  exact atI_nat h
theorem cut63 {ns : List Int} : cutV (ns.map V.int) none (some 63) = (ns.take 63).map V.int := by
  unfold cutV
  rw [HT.sIx_none, show (63 : Int) = ((63 : Nat) : Int) from rfl, HT.sIx_nat, List.length_map, List.drop_zero, Nat.sub_zero, ← List.map_take]
  congr 1
  by_cases h : 63 ≤ ns.length
  · rw [Nat.min_eq_left h]
  · rw [Nat.min_eq_right (by omega), List.take_of_length_le (Nat.le_refl _), List.take_of_length_le (by omega)]
theorem ok_pool {f : Addr} {fd : FuncData} (F : Fun K "_law_pool" "_law_pool" sPool f fd) (B : Bl mg) : FnOk P w K mg base CX0 1 f fd ["_law_script", "_law_k"] (spPool K) := by
  refine F.ok scPool (fun vs H Q E h => ?_) (fun cdv A outer s H vs Q E hr h => ?_)
  · obtain ⟨a, k, ns, rfl, _⟩ := h
    rfl
  · obtain ⟨a, k, ns, rfl, hS, hl, k0, k2, q⟩ := h
    refine ⟨_, C8.pss_cut (ps_set (i := 2) scPool.nd rfl (Or.inl rfl) (pe_ifExp (pt_cmpR op_lt (pv 1) (pe_callB call_len_seq (by rfl) B.len PySem.boot_len (pa_cons (pv 0) pa_nil)) (nomark _)) (pe_ix ix_list (pv 0) (pv 1) (fun _ _ => rfl))
        (pe_op op_add (pe_op op_mul pe_int (pe_callB (cr_sum rfl) (by rfl) B.sum (by decide +kernel) (pa_cons (pe_slice sl_list (pv 0) po_none (po_some pe_int)) pa_nil))) (pv 1))))
      (pss_cons (ps_set (i := 3) scPool.nd rfl (Or.inl rfl) (pe_callB call_abs (by rfl) B.abs (by decide +kernel) (pa_cons (pv 2) pa_nil)))
      (pss_cons (ps_set (i := 4) scPool.nd rfl (Or.inl rfl) (pe_op op_add (pe_op op_add (pe_op op_add (pe_op op_mod (pe_callTy call_int1 (by rfl) B.int (by decide +kernel) (pa_cons (pv 3) pa_nil)) pe_int) (pe_op op_mul (pe_op op_mul pe_int (pv 1)) (pv 1))) (pe_op op_mul pe_int (pv 1))) pe_int))
      (pss_cons (ps_set (i := 4) scPool.nd rfl (Or.inl rfl) (pe_op op_mod (pe_callTy call_int1 (by rfl) B.int (by decide +kernel) (pa_cons (pe_op op_mul (pv 4) pe_int) pa_nil)) pe_int))
      (pss_one (ps_ret (pe_lst (pa_cons (pe_op op_mul (pv 3) (pe_callTy call_int1 (by rfl) B.int (by decide +kernel) (pa_cons (pe_cmpR op_ge (pv 3) (pe_op op_pow pe_int pe_int) (nomark _)) pa_nil)))
        (pa_cons (pe_op op_mod (pe_callTy call_int1 (by rfl) B.int (by decide +kernel) (pa_cons (pe_op op_mul (pv 4) (pv 4)) pa_nil)) pe_int) pa_nil)))))))), ?_⟩
    -- the rest, from the cell's value on
    have fin : ∀ (c m : Int) (H1 : Hp), Same H H1 → 0 ≤ c → 0 ≤ m → m < 2147483647 → ∀ d, H1 d = none → Q (.ref d) (upd H1 d (.lst [.int (c * (if decide ((10 : Int) ^ (18 : Int).toNat ≤ c) = true then 1 else 0)), .int (m * m % 2147483629)])) := fun c m H1 s1 c0 m0 m1 d hd => by
      refine q _ d (fun b o e => by rw [upd_ne (ne_of_none (s1 _ _ e) hd)]; exact s1 _ _ e) ⟨_, _, upd_same, ?_, ?_, ?_⟩ (Same.free s1 hd)
      · split
        · omega
        · omega
      · exact Int.emod_nonneg _ (by decide)
      · have := Int.emod_lt_of_pos (m * m) (show (0 : Int) < 2147483629 by decide)
        omega
    have lenE : (ns.map V.int).length = ns.length := List.length_map ..
    refine ⟨fun σ H1 => ∃ c : Int, σ = [some (.ref a), some (.int k), some (.int c), none, none] ∧ Same H H1, ?_, ?_⟩
    · refine ⟨_, rfl, _, rfl, a, _, rfl, .inl hS, _, _, rfl, rfl, _, rfl, ?_⟩
      refine ite2 (fun h => ?_) (fun h => ?_)
      · have h' : k < (ns.length : Int) := by
          have := of_decide_eq_true h
          rw [lenE] at this
          exact this
        have hk : k.toNat < ns.length := by omega
        have hg : atI (ns.map V.int) k = some (.int ns[k.toNat]) := atI_z k0 (by rw [List.getElem?_map]; simp [hk])
        exact ⟨_, rfl, _, rfl, a, _, _, _, rfl, rfl, hS, hg, _, rfl, Same.refl H⟩
      · refine ⟨_, rfl, _, rfl, a, _, rfl, hS, fun d hd => ?_⟩
        rw [cut63]
        refine ⟨d, _, rfl, .inl (.inl upd_same), _, _, rfl, rfl, .inl (by decide), _, rfl, _, _, rfl, rfl, _, rfl, fun b o e => by rw [upd_ne (ne_of_none e hd)]; exact e⟩
    · rintro σ H1 ⟨c, rfl, s1⟩
      refine ⟨_, rfl, c, rfl, ?_⟩
      have z0 : 0 ≤ (if c < 0 then -c else c) := by split <;> omega
      generalize (if c < 0 then -c else c) = z at z0
      refine ⟨_, rfl, .inl ⟨z, rfl, _, _, rfl, rfl, (by show (0 : Int) < 2147483629; decide), _, rfl, _, _, rfl, rfl, .inl (by decide), _, rfl, _, _, rfl, rfl, .inr ⟨by omega, by omega⟩, _, _, rfl, rfl, _, rfl, _, _, rfl, rfl, .inl (by decide), _, _, rfl, rfl, _, _, rfl, rfl, ?_⟩⟩
      have m0 : 0 ≤ z % 2147483629 + 7919 * k * k + 31 * k + 17 := by
        have h1 := Int.emod_nonneg z (show (2147483629 : Int) ≠ 0 by decide)
        have h2 : 0 ≤ 7919 * k * k := Int.mul_nonneg (by omega) k0
        omega
      refine ⟨_, rfl, _, _, rfl, rfl, .inr (by decide), .inl ⟨_, rfl, _, _, rfl, rfl, (by show (0 : Int) < 2147483647; decide), ?_⟩⟩
      have n0 : 0 ≤ (z % 2147483629 + 7919 * k * k + 31 * k + 17) * 48271 % 2147483647 := Int.emod_nonneg _ (by decide)
      have n1 := Int.emod_lt_of_pos ((z % 2147483629 + 7919 * k * k + 31 * k + 17) * 48271) (show (0 : Int) < 2147483647 by decide)
      refine ⟨_, rfl, _, rfl, _, _, rfl, rfl, ⟨by decide, by decide, by decide⟩, _, _, rfl, rfl, .inr ⟨_, rfl, _, _, rfl, rfl, .inr ?_, ?_⟩⟩
      · split <;> decide
      · exact ⟨_, rfl, _, rfl, _, _, rfl, rfl, .inl (bnd n0 n1), .inl ⟨_, rfl, _, _, rfl, rfl, (by show (0 : Int) < 2147483629; decide), (by show 2 ≤ sizeLine; decide), fun d hd => fin z _ H1 s1 z0 n0 n1 d hd⟩⟩
/-! ### _law_draw, _law_pick -/
def spDraw : Sp := fun vs H Q _ => ∃ (q : Addr) (m : Int), vs = [.ref q, .int m] ∧ PoolAt H q ∧ 1 ≤ m ∧ m ≤ 1000 ∧ ∀ H' r, SameB q H H' → PoolAt H' q → 0 ≤ r → r < m → Q (.int r) H'
abbrev nDraw : List Str := ["_law_pool_here", "_law_many", "_law_found"]
theorem scDraw : FnScope nDraw ["_law_pool_here", "_law_many"] (defScope sDraw) := ⟨rfl, rfl, rfl, by decide +kernel, rfl, by decide +kernel, by decide +kernel⟩
theorem at0 {x y : V} : atI [x, y] 0 = some x := atI_nat (j := 0) rfl
theorem at1 {x y : V} : atI [x, y] 1 = some y := atI_nat (j := 1) rfl
theorem ok_draw {f : Addr} {fd : FuncData} (F : Fun K "_law_draw" "_law_draw" sDraw f fd) (B : Bl mg) : FnOk P w K mg base CX0 1 f fd ["_law_pool_here", "_law_many"] spDraw := by
  refine F.ok scDraw (fun vs H Q E h => ?_) (fun cdv A outer s H vs Q E hr h => ?_)
  · obtain ⟨q, m, rfl, _⟩ := h
    rfl
  · obtain ⟨p, m, rfl, ⟨X, Y, hp, x0, y0, y1⟩, m1, m9, q⟩ := h
    refine ⟨_, pss_cons (ps_if (pt_cmpR op_gt (pe_ix ix_list (pv 0) pe_int (fun _ _ => rfl)) pe_int (nomark _))
        (pss_cons (ps_set (i := 2) scDraw.nd rfl (Or.inl rfl) (pe_op op_mod (pe_callTy call_int1 (by rfl) B.int (by decide +kernel) (pa_cons (pe_ix ix_list (pv 0) pe_int (fun _ _ => rfl)) pa_nil)) (pv 1)))
        (pss_cons (ps_asg (pe_op op_fdiv (pe_ix ix_list (pv 0) pe_int (fun _ _ => rfl)) (pv 1)) (pg_sub (pv 0) pe_int set_list))
        (pss_one (ps_ret (pv 2))))) pss_nil)
      (pss_cons (ps_asg (pe_op op_mod (pe_callTy call_int1 (by rfl) B.int (by decide +kernel) (pa_cons (pe_op op_add (pe_op op_mul (pe_ix ix_list (pv 0) pe_int (fun _ _ => rfl)) pe_int) pe_int) pa_nil)) pe_int) (pg_sub (pv 0) pe_int set_list))
      (pss_one (ps_ret (pe_op op_mod (pe_callTy call_int1 (by rfl) B.int (by decide +kernel) (pa_cons (pe_op op_fdiv (pe_op op_mod (pe_callTy call_int1 (by rfl) B.int (by decide +kernel) (pa_cons (pe_op op_mul (pe_ix ix_list (pv 0) pe_int (fun _ _ => rfl)) (pe_ix ix_list (pv 0) pe_int (fun _ _ => rfl))) pa_nil)) pe_int) pe_int) pa_nil)) (pv 1))))), ?_⟩
    refine ⟨_, rfl, p, _, _, _, rfl, rfl, SqL.of hp, at0, _, _, rfl, rfl, _, rfl, ?_⟩
    refine ite2 (fun h => ?_) (fun h => ?_)
    · refine ⟨_, rfl, p, _, _, _, rfl, rfl, SqL.of hp, at0, .inl ⟨X, rfl, _, rfl, _, _, rfl, rfl, (by show 0 < m; omega), ?_⟩⟩
      refine ⟨_, rfl, p, _, _, _, rfl, rfl, SqL.of hp, at0, _, rfl, _, _, rfl, rfl, ⟨by omega, by omega⟩, _, rfl, p, _, _, 0, rfl, rfl, hp, rfl, ?_⟩
      refine ⟨_, rfl, q _ _ (fun b o n e => by rw [upd_ne n]; exact e) ⟨X / m, Y, upd_same, Int.ediv_nonneg x0 (by omega), y0, y1⟩ (Int.emod_nonneg _ (by omega)) (Int.emod_lt_of_pos _ (by omega))⟩
    · refine ⟨_, rfl, p, _, _, _, rfl, rfl, SqL.of hp, at1, _, _, rfl, rfl, .inr (by decide), _, _, rfl, rfl, .inl ⟨_, rfl, _, _, rfl, rfl, (by show (0 : Int) < 2147483647; decide), _, rfl, p, _, _, 1, rfl, rfl, hp, rfl, ?_⟩⟩
      have n0 : 0 ≤ (Y * 48271 + 11) % 2147483647 := Int.emod_nonneg _ (by decide)
      have n1 := Int.emod_lt_of_pos (Y * 48271 + 11) (show (0 : Int) < 2147483647 by decide)
      have hp2 : upd H p (.lst ([V.int X, V.int Y].set 1 (.int ((Y * 48271 + 11) % 2147483647)))) p = some (.lst [.int X, .int ((Y * 48271 + 11) % 2147483647)]) := upd_same
      refine ⟨_, rfl, p, _, _, _, rfl, rfl, SqL.of hp2, at1, _, rfl, p, _, _, _, rfl, rfl, SqL.of hp2, at1, _, _, rfl, rfl, .inl (bnd n0 n1), .inl ⟨_, rfl, _, _, rfl, rfl, (by show (0 : Int) < 2147483629; decide), _, _, rfl, rfl, ⟨by decide, by decide⟩, .inl ⟨_, rfl, _, rfl, _, _, rfl, rfl, (by show 0 < m; omega), ?_⟩⟩⟩
      exact q _ _ (fun b o ne e => by rw [upd_ne ne]; exact e) ⟨X, _, hp2, x0, n0, n1⟩ (Int.emod_nonneg _ (by omega)) (Int.emod_lt_of_pos _ (by omega))
def spPick : Sp := fun vs H Q _ => ∃ (q l : Addr) (xs : List V), vs = [.ref q, .ref l] ∧ PoolAt H q ∧ l ≠ q ∧ H l = some (.lst xs) ∧ 1 ≤ xs.length ∧ xs.length ≤ 100 ∧ ∀ H' x, SameB q H H' → PoolAt H' q → x ∈ xs → Q x H'
theorem scPick : FnScope ["_law_pool_here", "_law_row"] ["_law_pool_here", "_law_row"] (defScope sPick) := ⟨rfl, rfl, rfl, by decide +kernel, rfl, by decide +kernel, by decide +kernel⟩
theorem ok_pick {f fD : Addr} {fd fdD : FuncData} (F : Fun K "_law_pick" "_law_pick" sPick f fd) (B : Bl mg) (GD : FnOk P w K mg base CX0 1 fD fdD ["_law_pool_here", "_law_many"] spDraw) (dD : Dn K mg "_law_draw" fD fdD ["_law_pool_here", "_law_many"]) : FnOk P w K mg base CX0 2 f fd ["_law_pool_here", "_law_row"] spPick := by
  refine F.ok scPick (fun vs H Q E h => ?_) (fun cdv A outer s H vs Q E hr h => ?_)
  · obtain ⟨q, l, xs, rfl, _⟩ := h
    rfl
  · obtain ⟨p, l, xs, rfl, hP, nlp, hl, l1, l9, q⟩ := h
    refine ⟨_, pss_one (ps_ret (pe_ix ix_list (pv 1) (pe_call GD hr (by rfl) dD.m dD.k dD.b .nil pass0 (pa_cons (pv 0) (pa_cons (pe_callB call_len_seq (by rfl) B.len PySem.boot_len (pa_cons (pv 1) pa_nil)) pa_nil))) (fun _ _ => rfl))), ?_⟩
    refine ⟨_, rfl, _, rfl, _, rfl, l, _, rfl, .inl (SqL.of hl), p, _, rfl, hP, by omega, by omega, fun H1 r s1 hP1 r0 r1 => ?_⟩
    have hr' : r.toNat < xs.length := by omega
    have hg : atI xs r = some xs[r.toNat] := atI_z r0 (by simp [hr'])
    exact ⟨l, xs, r, _, rfl, rfl, SqL.of (s1 _ _ nlp hl), hg, q H1 _ s1 hP1 (List.getElem_mem _)⟩
end
end CT
set_option Elab.async false
set_option linter.all false
set_option maxRecDepth 100000
set_option maxHeartbeats 4000000
/-! W12: _law_names (the rows of tuples are printed by genW12.py) -/
namespace CT
open PySem L2
def rAddS : R2 := fun x y H Q => ∃ i j, x = .str i ∧ y = .str j ∧ i.length + j.length ≤ sizeLine ∧ Q (.str (i ++ j)) H
def rInt1 : List V → Hp → VK → Prop := fun xs H Q => (∃ i, xs = [.int i] ∧ Q (.int i) H) ∨ ∃ k, xs = [.bl k] ∧ Q (.int (if k then 1 else 0)) H
/-! ### the names -/
def nm (h t : Str) (c : Nat) : Str := (h ++ ⟨#[c]⟩) ++ t
def End (h t : Str) : Prop := (h = "" ∧ t = "") ∨ (h = "" ∧ t = "q") ∨ (h = "ab" ∧ t = "") ∨ (h = "abcdefg" ∧ t = "") ∨ (h = "" ∧ t = "abcdefg")
def code (o s : Int) (i : Nat) : Nat := 97 + ((o + s * i) % 26).toNat
def nms (h t : Str) (o s : Int) (n : Nat) : List Str := (List.range n).map fun i => nm h t (code o s i)
theorem SameB.free {p l : Addr} {H H' : Hp} (s : SameB p H H') (hp : ∃ o, H' p = some o) (h : H' l = none) : H l = none := by
  cases e : H l with
  | none => rfl
  | some o =>
    by_cases n : l = p
    · obtain ⟨u, hu⟩ := hp
      rw [n, hu] at h
      cases h
    · rw [s l o n e] at h
      cases h
theorem code_lt (o s : Int) (i : Nat) : 97 ≤ code o s i ∧ code o s i < 123 := by
  have h1 := Int.emod_nonneg (o + s * i) (show (26 : Int) ≠ 0 by decide)
  have h2 := Int.emod_lt_of_pos (o + s * i) (show (0 : Int) < 26 by decide)
  unfold code
  omega
theorem letter_at : ∀ n, n < 26 → letters.cps.toList[n]? = some (97 + n) := by decide
theorem letter_mem {c : Nat} (h : 97 ≤ c ∧ c < 123) : c ∈ letters.cps.toList := by
  have e := letter_at (c - 97) (by omega)
  have : 97 + (c - 97) = c := by omega
  rw [this] at e
  exact List.mem_of_getElem? e
theorem nm_cps (h t : Str) (c : Nat) : (nm h t c).cps.toList = h.cps.toList ++ c :: t.cps.toList := by
  show ((h.cps ++ #[c]) ++ t.cps).toList = _
  simp
theorem end_good {h t : Str} (e : End h t) : h.cps.size + t.cps.size ≤ 7 ∧ (∀ c ∈ h.cps.toList, c ∈ letters.cps.toList) ∧ ∀ c ∈ t.cps.toList, c ∈ letters.cps.toList := by
  rcases e with ⟨rfl, rfl⟩ | ⟨rfl, rfl⟩ | ⟨rfl, rfl⟩ | ⟨rfl, rfl⟩ | ⟨rfl, rfl⟩ <;> decide
theorem nm_good {h t : Str} (e : End h t) {c : Nat} (hc : 97 ≤ c ∧ c < 123) : GoodN (nm h t c) := by
  obtain ⟨h1, h2, h3⟩ := end_good e
  have hsz : (nm h t c).cps.size = h.cps.size + 1 + t.cps.size := by
    show ((h.cps ++ #[c]) ++ t.cps).size = _
    simp
  refine ⟨by rw [hsz]; omega, by rw [hsz]; omega, fun x hx => ?_⟩
  rw [nm_cps, List.mem_append, List.mem_cons] at hx
  rcases hx with hx | rfl | hx
  · exact h2 x hx
  · exact letter_mem hc
  · exact h3 x hx
theorem nm_inj {h t : Str} {c d : Nat} (e : nm h t c = nm h t d) : c = d := by
  have e' := congrArg (fun z : Str => z.cps.toList) e
  simp only [nm_cps] at e'
  exact (List.cons.inj (List.append_cancel_left e')).1
theorem nms_good {h t : Str} (e : End h t) (o s : Int) (n : Nat) : ∀ z ∈ nms h t o s n, GoodN z := fun z hz => by
  obtain ⟨i, _, rfl⟩ := List.mem_map.mp hz
  exact nm_good e (code_lt o s i)
theorem nms_len (h t : Str) (o s : Int) (n : Nat) : (nms h t o s n).length = n := by
  unfold nms
  rw [List.length_map, List.length_range]
theorem code_ne {o r : Int} (r0 : 0 ≤ r) (r6 : r < 6) {i j : Nat} (hij : i < j) (hj : j < 3) : code o (1 + 2 * r) i ≠ code o (1 + 2 * r) j := by
  intro h
  unfold code at h
  have c1 : r = 0 ∨ r = 1 ∨ r = 2 ∨ r = 3 ∨ r = 4 ∨ r = 5 := by omega
  have c2 : (i = 0 ∧ j = 1) ∨ (i = 0 ∧ j = 2) ∨ (i = 1 ∧ j = 2) := by omega
  rcases c1 with rfl | rfl | rfl | rfl | rfl | rfl <;> rcases c2 with ⟨rfl, rfl⟩ | ⟨rfl, rfl⟩ | ⟨rfl, rfl⟩ <;> omega
theorem nms_nodup {h t : Str} {o r : Int} (r0 : 0 ≤ r) (r6 : r < 6) {n : Nat} (hn : n ≤ 3) : (nms h t o (1 + 2 * r) n).Nodup := by
  unfold nms
  refine List.pairwise_map.mpr (List.pairwise_lt_range.imp_of_mem fun {i j} hi hj hij e => ?_)
  have hj' := List.mem_range.mp hj
  exact code_ne r0 r6 hij (by omega) (nm_inj e)
section
variable {P : Program} {w : World} {K : PySem.W.Frag} {mg : Str → Option Value} {base : Heap}
def spLNames : Sp := fun vs H Q _ => ∃ (q : Addr) (c : Int), vs = [.ref q, .int c] ∧ PoolAt H q ∧ 1 ≤ c ∧ c ≤ 3 ∧ ∀ (H' : Hp) (l : Addr) (ns : List Str), SameB q H H' → PoolAt H' q → H l = none → H' l = some (.lst (ns.map V.str)) → ns.length = c.toNat → ns.Nodup → (∀ z ∈ ns, GoodN z) → Q (.ref l) H'
abbrev nLN : List Str := ["_law_pool_here", "_law_count", "_law_signs", "_law_origin", "_law_step", "_law_ends", "_law_head", "_law_tail", "_law_k"]
theorem scLN : FnScope nLN ["_law_pool_here", "_law_count"] (defScope sNames) := ⟨rfl, rfl, rfl, by decide +kernel, rfl, by decide +kernel, by decide +kernel⟩
theorem ok_lNames {f fD fP : Addr} {fd fdD fdP : FuncData} (F : Fun K "_law_names" "_law_names" sNames f fd) (B : Bl mg) (GD : FnOk P w K mg base CX0 1 fD fdD ["_law_pool_here", "_law_many"] spDraw) (dD : Dn K mg "_law_draw" fD fdD ["_law_pool_here", "_law_many"])
    (GP : FnOk P w K mg base CX0 2 fP fdP ["_law_pool_here", "_law_row"] spPick) (dP : Dn K mg "_law_pick" fP fdP ["_law_pool_here", "_law_row"]) : FnOk P w K mg base CX0 3 f fd ["_law_pool_here", "_law_count"] spLNames := by
  refine F.ok scLN (fun vs H Q E h => ?_) (fun cdv A outer s H vs Q E hr h => ?_)
  · obtain ⟨q, c, rfl, _⟩ := h
    rfl
  · obtain ⟨p, c, rfl, hP, c1, c3, q⟩ := h
    have hr1 : Room 1 _ := hr.mono (by decide)
    refine ⟨_, pss_cons (ps_set (i := 2) scLN.nd rfl (Or.inr rfl) pe_str)
      (pss_cons (ps_asg (pe_tup (pa_cons (pe_call GD hr1 (by rfl) dD.m dD.k dD.b .nil pass0 (pa_cons (pv 0) (pa_cons pe_int pa_nil))) (pa_cons (pe_op op_add pe_int (pe_op op_mul pe_int (pe_call GD hr1 (by rfl) dD.m dD.k dD.b .nil pass0 (pa_cons (pv 0) (pa_cons pe_int pa_nil))))) pa_nil)))
          (pg_tup rfl (pgs_cons (pg_name (i := 3) scLN.nd rfl (.inr rfl)) (pgs_cons (pg_name (i := 4) scLN.nd rfl (.inr rfl)) pgs_nil))))
      (pss_cons (ps_set (i := 5) scLN.nd rfl (Or.inl rfl) (pe_lst (pa_cons (pe_tup (pa_cons pe_str (pa_cons pe_str pa_nil))) (pa_cons (pe_tup (pa_cons pe_str (pa_cons pe_str pa_nil))) (pa_cons (pe_tup (pa_cons pe_str (pa_cons pe_str pa_nil))) (pa_cons (pe_tup (pa_cons pe_str (pa_cons pe_str pa_nil))) (pa_cons (pe_tup (pa_cons pe_str (pa_cons pe_str pa_nil))) pa_nil)))))))
      (pss_cons (ps_asg (pe_call GP hr (by rfl) dP.m dP.k dP.b .nil pass0 (pa_cons (pv 0) (pa_cons (pv 5) pa_nil))) (pg_tup rfl (pgs_cons (pg_name (i := 6) scLN.nd rfl (.inr rfl)) (pgs_cons (pg_name (i := 7) scLN.nd rfl (.inr rfl)) pgs_nil))))
      (pss_one (ps_ret (pe_lc (own := [("_law_k", 8)]) (g := gName 8) (te := tOp rAddS (tOp rAddS (tVar 6) (tOp rIxS (tVar 2) (tOp (rI (fun _ j => 0 < j) fun i j => .int (i % j)) (tCB rInt1 (tCons (tOp (rI0 fun i j => .int (i + j)) (tVar 3) (tOp (rI CMul fun i j => .int (i * j)) (tVar 4) (tVar 8))) tNil)) (tC (.int 26))))) (tVar 7)) (by rfl) scLN.nd
        (pi_range1 (by rfl) B.range (pa_cons (pv 1) pa_nil)) (blkOk_by (own := [("_law_k", 8)]) (N := nLN) (sc := defScope sNames) (by decide +kernel))
        (fun _ _ _ _ _ => pg_name (i := 8) scLN.nd rfl (Or.inl rfl)) (fun _ _ _ _ _ => pts_nil)
        (fun _ _ _ _ _ => pe_op (r := rAddS) op_add_str (pe_op (r := rAddS) op_add_str (pv 6) (pe_ix ix_str (pv 2) (pe_op op_mod (pe_callTy (T := "int") (r := rInt1) call_int1 (by rfl) B.int (by decide +kernel) (pa_cons (pe_op op_add (pv 3) (pe_op op_mul (pv 4) (pv 8))) pa_nil)) pe_int) (fun _ _ => rfl))) (pv 7)))))))), ?_⟩
    refine ⟨_, rfl, p, 26, rfl, hP, by decide, by decide, fun H1 o s1 hP1 o0 o1 => ?_⟩
    refine ⟨_, rfl, p, 6, rfl, hP1, by decide, by decide, fun H2 r s2 hP2 r0 r1 => ?_⟩
    have s02 : SameB p H H2 := s1.then s2
    refine ⟨_, _, rfl, rfl, .inl (by decide), _, _, rfl, rfl, (by show 2 ≤ sizeLine; decide), fun u hu => ?_⟩
    have s3 : SameB p H (upd H2 u (.tup [.int o, .int (1 + 2 * r)])) := fun b x n e => by rw [upd_ne (ne_of_none (s02 _ _ n e) hu)]; exact s02 _ _ n e
    have hP3 : PoolAt (upd H2 u (.tup [.int o, .int (1 + 2 * r)])) p := hP2.same fun x e => by rw [upd_ne (ne_of_none e hu)]; exact e
    refine ⟨u, _, rfl, SqT.of upd_same, rfl, _, _, rfl, _, _, rfl, rfl, ?_⟩
    generalize upd H2 u (.tup [.int o, .int (1 + 2 * r)]) = H3 at s3 hP3
    refine ⟨(by show 2 ≤ sizeLine; decide), fun a0 ha0 => ?_⟩
    have sE0 : SameB p H (upd H3 a0 (.tup [.str "", .str ""])) := fun b x n e => by rw [upd_ne (ne_of_none (s3 _ _ n e) ha0)]; exact s3 _ _ n e
    have pE0 : PoolAt (upd H3 a0 (.tup [.str "", .str ""])) p := hP3.same fun x e => by rw [upd_ne (ne_of_none e ha0)]; exact e
    have eE0 : upd H3 a0 (.tup [.str "", .str ""]) a0 = some (.tup [.str "", .str ""]) := upd_same
    generalize upd H3 a0 (.tup [.str "", .str ""]) = E0 at sE0 pE0 eE0
    refine ⟨(by show 2 ≤ sizeLine; decide), fun a1 ha1 => ?_⟩
    have sE1 : SameB p H (upd E0 a1 (.tup [.str "", .str "q"])) := fun b x n e => by rw [upd_ne (ne_of_none (sE0 _ _ n e) ha1)]; exact sE0 _ _ n e
    have pE1 : PoolAt (upd E0 a1 (.tup [.str "", .str "q"])) p := pE0.same fun x e => by rw [upd_ne (ne_of_none e ha1)]; exact e
    have eE1 : upd E0 a1 (.tup [.str "", .str "q"]) a1 = some (.tup [.str "", .str "q"]) := upd_same
    have e0_1 : upd E0 a1 (.tup [.str "", .str "q"]) a0 = some (.tup [.str "", .str ""]) := by rw [upd_ne (ne_of_none eE0 ha1)]; exact eE0
    generalize upd E0 a1 (.tup [.str "", .str "q"]) = E1 at sE1 pE1 e0_1 eE1
    refine ⟨(by show 2 ≤ sizeLine; decide), fun a2 ha2 => ?_⟩
    have sE2 : SameB p H (upd E1 a2 (.tup [.str "ab", .str ""])) := fun b x n e => by rw [upd_ne (ne_of_none (sE1 _ _ n e) ha2)]; exact sE1 _ _ n e
    have pE2 : PoolAt (upd E1 a2 (.tup [.str "ab", .str ""])) p := pE1.same fun x e => by rw [upd_ne (ne_of_none e ha2)]; exact e
    have eE2 : upd E1 a2 (.tup [.str "ab", .str ""]) a2 = some (.tup [.str "ab", .str ""]) := upd_same
    have e0_2 : upd E1 a2 (.tup [.str "ab", .str ""]) a0 = some (.tup [.str "", .str ""]) := by rw [upd_ne (ne_of_none e0_1 ha2)]; exact e0_1
    have e1_2 : upd E1 a2 (.tup [.str "ab", .str ""]) a1 = some (.tup [.str "", .str "q"]) := by rw [upd_ne (ne_of_none eE1 ha2)]; exact eE1
    generalize upd E1 a2 (.tup [.str "ab", .str ""]) = E2 at sE2 pE2 e0_2 e1_2 eE2
    refine ⟨(by show 2 ≤ sizeLine; decide), fun a3 ha3 => ?_⟩
    have sE3 : SameB p H (upd E2 a3 (.tup [.str "abcdefg", .str ""])) := fun b x n e => by rw [upd_ne (ne_of_none (sE2 _ _ n e) ha3)]; exact sE2 _ _ n e
    have pE3 : PoolAt (upd E2 a3 (.tup [.str "abcdefg", .str ""])) p := pE2.same fun x e => by rw [upd_ne (ne_of_none e ha3)]; exact e
    have eE3 : upd E2 a3 (.tup [.str "abcdefg", .str ""]) a3 = some (.tup [.str "abcdefg", .str ""]) := upd_same
    have e0_3 : upd E2 a3 (.tup [.str "abcdefg", .str ""]) a0 = some (.tup [.str "", .str ""]) := by rw [upd_ne (ne_of_none e0_2 ha3)]; exact e0_2
    have e1_3 : upd E2 a3 (.tup [.str "abcdefg", .str ""]) a1 = some (.tup [.str "", .str "q"]) := by rw [upd_ne (ne_of_none e1_2 ha3)]; exact e1_2
    have e2_3 : upd E2 a3 (.tup [.str "abcdefg", .str ""]) a2 = some (.tup [.str "ab", .str ""]) := by rw [upd_ne (ne_of_none eE2 ha3)]; exact eE2
    generalize upd E2 a3 (.tup [.str "abcdefg", .str ""]) = E3 at sE3 pE3 e0_3 e1_3 e2_3 eE3
    refine ⟨(by show 2 ≤ sizeLine; decide), fun a4 ha4 => ?_⟩
    have sE4 : SameB p H (upd E3 a4 (.tup [.str "", .str "abcdefg"])) := fun b x n e => by rw [upd_ne (ne_of_none (sE3 _ _ n e) ha4)]; exact sE3 _ _ n e
    have pE4 : PoolAt (upd E3 a4 (.tup [.str "", .str "abcdefg"])) p := pE3.same fun x e => by rw [upd_ne (ne_of_none e ha4)]; exact e
    have eE4 : upd E3 a4 (.tup [.str "", .str "abcdefg"]) a4 = some (.tup [.str "", .str "abcdefg"]) := upd_same
    have e0_4 : upd E3 a4 (.tup [.str "", .str "abcdefg"]) a0 = some (.tup [.str "", .str ""]) := by rw [upd_ne (ne_of_none e0_3 ha4)]; exact e0_3
    have e1_4 : upd E3 a4 (.tup [.str "", .str "abcdefg"]) a1 = some (.tup [.str "", .str "q"]) := by rw [upd_ne (ne_of_none e1_3 ha4)]; exact e1_3
    have e2_4 : upd E3 a4 (.tup [.str "", .str "abcdefg"]) a2 = some (.tup [.str "ab", .str ""]) := by rw [upd_ne (ne_of_none e2_3 ha4)]; exact e2_3
    have e3_4 : upd E3 a4 (.tup [.str "", .str "abcdefg"]) a3 = some (.tup [.str "abcdefg", .str ""]) := by rw [upd_ne (ne_of_none eE3 ha4)]; exact eE3
    generalize upd E3 a4 (.tup [.str "", .str "abcdefg"]) = E4 at sE4 pE4 e0_4 e1_4 e2_4 e3_4 eE4
    refine ⟨(by show 5 ≤ sizeLine; decide), fun l hlN => ?_⟩
    have sl : SameB p H (upd E4 l (.lst [.ref a0, .ref a1, .ref a2, .ref a3, .ref a4])) := fun b x n e => by rw [upd_ne (ne_of_none (sE4 _ _ n e) hlN)]; exact sE4 _ _ n e
    have hPl : PoolAt (upd E4 l (.lst [.ref a0, .ref a1, .ref a2, .ref a3, .ref a4])) p := pE4.same fun x e => by rw [upd_ne (ne_of_none e hlN)]; exact e
    have hl : upd E4 l (.lst [.ref a0, .ref a1, .ref a2, .ref a3, .ref a4]) l = some (.lst [.ref a0, .ref a1, .ref a2, .ref a3, .ref a4]) := upd_same
    have f0 : upd E4 l (.lst [.ref a0, .ref a1, .ref a2, .ref a3, .ref a4]) a0 = some (.tup [.str "", .str ""]) := by rw [upd_ne (ne_of_none e0_4 hlN)]; exact e0_4
    have f1 : upd E4 l (.lst [.ref a0, .ref a1, .ref a2, .ref a3, .ref a4]) a1 = some (.tup [.str "", .str "q"]) := by rw [upd_ne (ne_of_none e1_4 hlN)]; exact e1_4
    have f2 : upd E4 l (.lst [.ref a0, .ref a1, .ref a2, .ref a3, .ref a4]) a2 = some (.tup [.str "ab", .str ""]) := by rw [upd_ne (ne_of_none e2_4 hlN)]; exact e2_4
    have f3 : upd E4 l (.lst [.ref a0, .ref a1, .ref a2, .ref a3, .ref a4]) a3 = some (.tup [.str "abcdefg", .str ""]) := by rw [upd_ne (ne_of_none e3_4 hlN)]; exact e3_4
    have f4 : upd E4 l (.lst [.ref a0, .ref a1, .ref a2, .ref a3, .ref a4]) a4 = some (.tup [.str "", .str "abcdefg"]) := by rw [upd_ne (ne_of_none eE4 hlN)]; exact eE4
    generalize upd E4 l (.lst [.ref a0, .ref a1, .ref a2, .ref a3, .ref a4]) = Hl at sl hPl hl f0 f1 f2 f3 f4
    have np : ∀ u xs, Hl u = some (.tup xs) → u ≠ p := fun u xs e z => by
      obtain ⟨A1, B1, e1, _⟩ := id hPl
      rw [z, e1] at e
      cases e
    refine ⟨_, rfl, _, rfl, p, l, _, rfl, hPl, ?_, hl, (by show 1 ≤ 5; decide), (by show 5 ≤ 100; decide), fun H5 x s5 hP5 hx => ?_⟩
    · intro z
      obtain ⟨A1, B1, e1, _⟩ := hPl
      rw [z, e1] at hl
      cases hl
    have hxt : ∃ h t, End h t ∧ ∃ u, x = .ref u ∧ u ≠ p ∧ Hl u = some (.tup [.str h, .str t]) := by
      simp only [List.mem_cons, List.not_mem_nil, or_false] at hx
      rcases hx with rfl | rfl | rfl | rfl | rfl
      · exact ⟨_, _, (.inl ⟨rfl, rfl⟩), _, rfl, np _ _ f0, f0⟩
      · exact ⟨_, _, (.inr (.inl ⟨rfl, rfl⟩)), _, rfl, np _ _ f1, f1⟩
      · exact ⟨_, _, (.inr (.inr (.inl ⟨rfl, rfl⟩))), _, rfl, np _ _ f2, f2⟩
      · exact ⟨_, _, (.inr (.inr (.inr (.inl ⟨rfl, rfl⟩)))), _, rfl, np _ _ f3, f3⟩
      · exact ⟨_, _, (.inr (.inr (.inr (.inr ⟨rfl, rfl⟩)))), _, rfl, np _ _ f4, f4⟩
    obtain ⟨h, t, he, u2, rfl, nu, hu2⟩ := hxt
    refine ⟨u2, _, rfl, SqT.of (s5 _ _ nu hu2), rfl, _, _, rfl, _, _, rfl, rfl, ?_⟩
    have s05 : SameB p H H5 := sl.then s5
    refine ⟨_, rfl, c, rfl, by omega, by omega, fun D hD => lc_range (lo := 0) (n := c.toNat) (fun i H6 => H6 = upd H5 D (.lst ((nms h t o (1 + 2 * r) i).map V.str))) rfl ?_ ?_⟩
    · rintro i H6 hi rfl
      refine ⟨rfl, yesT ?_⟩
      have hs : sizeLine = 16777216 := sizeLine_eq
      obtain ⟨g1, g2, g3⟩ := end_good he
      have k0 := Int.emod_nonneg (o + (1 + 2 * r) * (0 + (i : Int))) (show (26 : Int) ≠ 0 by decide)
      have k1 := Int.emod_lt_of_pos (o + (1 + 2 * r) * (0 + (i : Int))) (show (0 : Int) < 26 by decide)
      have ec : atI letters.cps.toList ((o + (1 + 2 * r) * (0 + (i : Int))) % 26) = some (code o (1 + 2 * r) i) := by
        have e2 : 97 + ((o + (1 + 2 * r) * (0 + (i : Int))) % 26).toNat = code o (1 + 2 * r) i := by
          unfold code
          rw [Int.zero_add]
        rw [← e2]
        obtain ⟨n, hn⟩ := Int.eq_ofNat_of_zero_le k0
        rw [hn]
        refine atI_nat ?_
        rw [letter_at n (by omega)]
        simp
      refine ⟨_, rfl, _, rfl, _, rfl, _, rfl, _, rfl, _, _, rfl, rfl, .inl ⟨by omega, by omega⟩, _, _, rfl, rfl, .inl ⟨_, rfl, _, _, rfl, rfl, (by show (0 : Int) < 26; decide), letters, _, _, rfl, rfl, (by rw [hs]; decide), ec, ?_⟩⟩
      refine ⟨_, _, rfl, rfl, ?_, _, rfl, _, _, rfl, rfl, ?_, _, upd_same, ?_, ?_⟩
      · show h.cps.size + 1 ≤ sizeLine
        omega
      · show (h.cps ++ #[_]).size + t.cps.size ≤ sizeLine
        rw [Array.size_append]
        show h.cps.size + 1 + t.cps.size ≤ sizeLine
        omega
      · rw [List.length_map, nms_len]
        exact small1000 (by omega)
      · rw [upd_upd]
        unfold nms
        rw [List.range_succ, List.map_append, List.map_append]
        rfl
    · rintro H6 rfl
      refine q _ D _ (fun b x n e => by rw [upd_ne (ne_of_none (s05 _ _ n e) hD)]; exact s05 _ _ n e) (hP5.same fun x e => by rw [upd_ne (ne_of_none e hD)]; exact e) (s05.free (let ⟨_, _, e, _⟩ := hP5; ⟨_, e⟩) hD) upd_same (nms_len _ _ _ _ _) (nms_nodup r0 r1 (by omega)) (nms_good he _ _ _)
end
end CT
set_option Elab.async false
set_option linter.all false
set_option maxRecDepth 100000
set_option maxHeartbeats 4000000
/-! W13: _law_plan (the row of tuples is printed by genW13.py) -/
namespace CT
open PySem L2
structure PlanD where
  names : List Str
  lims : List Int
  hds : List Bool
  ls : List Lk
  money : Int
  tops : Int
  mem : Addr
  memx : List V
  nb : Bool
/-- the four first entries of the plan's dict -/
structure Base4 (kvs : List (Key × V)) (ln ll lh lk : Addr) : Prop where
  n : valV kvs (.inr "names") = some (.ref ln)
  l : valV kvs (.inr "limits") = some (.ref ll)
  h : valV kvs (.inr "heeds") = some (.ref lh)
  k : valV kvs (.inr "links") = some (.ref lk)
theorem Base4.put {kvs : List (Key × V)} {ln ll lh lk : Addr} (b : Base4 kvs ln ll lh lk) {z : Str} {v : V} (hz : ¬ ("names" : Str) = z ∧ ¬ ("limits" : Str) = z ∧ ¬ ("heeds" : Str) = z ∧ ¬ ("links" : Str) = z) : Base4 (putK kvs (.inr z) v) ln ll lh lk := by
  obtain ⟨h1, h2, h3, h4⟩ := hz
  refine ⟨?_, ?_, ?_, ?_⟩
  · rw [valV_put, if_neg fun e => h1 (Sum.inr.inj e)]; exact b.n
  · rw [valV_put, if_neg fun e => h2 (Sum.inr.inj e)]; exact b.l
  · rw [valV_put, if_neg fun e => h3 (Sum.inr.inj e)]; exact b.h
  · rw [valV_put, if_neg fun e => h4 (Sum.inr.inj e)]; exact b.k
theorem Base4.links {kvs : List (Key × V)} {ln ll lh lk nl : Addr} (b : Base4 kvs ln ll lh lk) : Base4 (putK kvs (.inr "links") (.ref nl)) ln ll lh nl := by
  refine ⟨?_, ?_, ?_, ?_⟩
  · rw [valV_put, if_neg (by decide)]; exact b.n
  · rw [valV_put, if_neg (by decide)]; exact b.l
  · rw [valV_put, if_neg (by decide)]; exact b.h
  · rw [valV_put, if_pos rfl]
theorem len_putK_same {kvs : List (Key × V)} {k : Key} {v x : V} (h : valV kvs k = some x) : (putK kvs k v).length = kvs.length := by
  unfold putK
  rw [valV_any, h]
  simp
/-- the plan's dict stands at d -/
def PlanAt (H : Hp) (d : Addr) (p : PlanD) : Prop := ∃ kvs ln ll lh lk, H d = some (.dK kvs) ∧ Base4 kvs ln ll lh lk ∧ H ln = some (.lst (p.names.map V.str)) ∧ H ll = some (.lst (p.lims.map V.int)) ∧ H lh = some (.lst (p.hds.map V.bl)) ∧ H lk = some (.lst (refs p.ls)) ∧ LsAt H p.ls ∧
  valV kvs (.inr "money") = some (.int p.money) ∧ valV kvs (.inr "tops") = some (.int p.tops) ∧ valV kvs (.inr "memory") = some (.ref p.mem) ∧ H p.mem = some (.tup p.memx) ∧ valV kvs (.inr "numbered") = some (.bl p.nb)
structure GoodPlan (p : PlanD) : Prop where
  n1 : 1 ≤ p.names.length
  n3 : p.names.length ≤ 3
  nd : p.names.Nodup
  ng : ∀ z ∈ p.names, GoodN z
  ll : p.lims.length = p.names.length
  lg : ∀ z ∈ p.lims, 0 ≤ z ∧ z ≤ 9
  hl : p.hds.length = p.names.length
  gl : ∀ l ∈ p.ls, GoodL p.names l
  ndl : (p.ls.map (·.2)).Nodup
  l60 : p.ls.length ≤ 60
  m0 : 0 ≤ p.money
  m9 : p.money ≤ 9
  to : Tops p.tops
  mi : MemIs p.memx
/-! ### the links so far -/
structure LI (ns : List Str) (one other : Nat) (ls : List Lk) : Prop where
  ok : ∀ l ∈ ls, ∃ i j x y, i < j ∧ ns[i]? = some x ∧ ns[j]? = some y ∧ (i < one ∨ (i = one ∧ j < other)) ∧ l.2.1.cps.toList < l.2.2.cps.toList ∧ ((l.2.1 = x ∧ l.2.2 = y) ∨ (l.2.1 = y ∧ l.2.2 = x))
  nd : (ls.map (·.2)).Nodup
  len : ls.length ≤ 4 * one + other
theorem LI.nil (ns : List Str) : LI ns 0 0 [] := ⟨fun l hl => (by cases hl), .nil, Nat.zero_le _⟩
theorem LI.skip {ns : List Str} {one other : Nat} {ls : List Lk} (h : LI ns one other ls) : LI ns one (other + 1) ls := by
  refine ⟨fun l hl => ?_, h.nd, by have := h.len; omega⟩
  obtain ⟨i, j, x, y, h1, h2, h3, h4, h5, h6⟩ := h.ok l hl
  exact ⟨i, j, x, y, h1, h2, h3, by omega, h5, h6⟩
theorem LI.begin {ns : List Str} {one : Nat} {ls : List Lk} (h : LI ns one 0 ls) : LI ns one (one + 1) ls := by
  refine ⟨fun l hl => ?_, h.nd, by have := h.len; omega⟩
  obtain ⟨i, j, x, y, h1, h2, h3, h4, h5, h6⟩ := h.ok l hl
  exact ⟨i, j, x, y, h1, h2, h3, by omega, h5, h6⟩
theorem LI.next {ns : List Str} {one other : Nat} {ls : List Lk} (h : LI ns one other ls) (ho : other ≤ 4) : LI ns (one + 1) 0 ls := by
  refine ⟨fun l hl => ?_, h.nd, by have := h.len; omega⟩
  obtain ⟨i, j, x, y, h1, h2, h3, h4, h5, h6⟩ := h.ok l hl
  exact ⟨i, j, x, y, h1, h2, h3, by omega, h5, h6⟩
theorem nodup_ix {ns : List Str} (nd : ns.Nodup) {i j : Nat} {x : Str} (hi : ns[i]? = some x) (hj : ns[j]? = some x) : i = j := by
  obtain ⟨h1, e1⟩ := List.getElem?_eq_some_iff.mp hi
  obtain ⟨h2, e2⟩ := List.getElem?_eq_some_iff.mp hj
  rcases Nat.lt_trichotomy i j with h | h | h
  · exact absurd (e1.trans e2.symm) ((List.pairwise_iff_getElem.mp nd) i j h1 h2 h)
  · exact h
  · exact absurd (e2.trans e1.symm) ((List.pairwise_iff_getElem.mp nd) j i h2 h1 h)
theorem LI.add {ns : List Str} (nd : ns.Nodup) {one other : Nat} {ls : List Lk} (h : LI ns one other ls) {l : Lk} {x y : Str} (hx : ns[one]? = some x) (hy : ns[other]? = some y) (hlt : one < other) (ho : l.2.1.cps.toList < l.2.2.cps.toList) (hxy : (l.2.1 = x ∧ l.2.2 = y) ∨ (l.2.1 = y ∧ l.2.2 = x)) :
    LI ns one (other + 1) (ls ++ [l]) := by
  refine ⟨fun m hm => ?_, ?_, by rw [List.length_append]; have := h.len; show ls.length + 1 ≤ _; omega⟩
  · rcases List.mem_append.mp hm with hm | hm
    · exact h.skip.ok m hm
    · rw [List.mem_singleton] at hm
      subst hm
      exact ⟨one, other, x, y, hlt, hx, hy, .inr ⟨rfl, Nat.lt_succ_self _⟩, ho, hxy⟩
  · rw [List.map_append]
    refine List.nodup_append.mpr ⟨h.nd, List.pairwise_singleton _ _, fun a ha b hb e => ?_⟩
    obtain ⟨m, hm, rfl⟩ := List.mem_map.mp ha
    have hb' : b = l.2 := by simpa using hb
    rw [hb'] at e
    obtain ⟨i, j, x', y', h1, h2, h3, h4, h5, h6⟩ := h.ok m hm
    have e1 : m.2.1 = l.2.1 := congrArg Prod.fst e
    have e2 : m.2.2 = l.2.2 := congrArg Prod.snd e
    rw [e1, e2] at h6
    rcases hxy with ⟨a1, a2⟩ | ⟨a1, a2⟩ <;> rcases h6 with ⟨b1, b2⟩ | ⟨b1, b2⟩
    · have q1 := nodup_ix nd (h2.trans (by rw [← b1, a1])) hx
      have q2 := nodup_ix nd (h3.trans (by rw [← b2, a2])) hy
      omega
    · have q1 := nodup_ix nd (h3.trans (by rw [← b1, a1])) hx
      have q2 := nodup_ix nd (h2.trans (by rw [← b2, a2])) hy
      omega
    · have q1 := nodup_ix nd (h2.trans (by rw [← b1, a1])) hy
      have q2 := nodup_ix nd (h3.trans (by rw [← b2, a2])) hx
      omega
    · have q1 := nodup_ix nd (h3.trans (by rw [← b1, a1])) hy
      have q2 := nodup_ix nd (h2.trans (by rw [← b2, a2])) hx
      omega
theorem LI.good {ns : List Str} (ng : ∀ z ∈ ns, GoodN z) {one other : Nat} {ls : List Lk} (h : LI ns one other ls) : ∀ l ∈ ls, GoodL ns l := fun l hl => by
  obtain ⟨i, j, x, y, h1, h2, h3, h4, h5, h6⟩ := h.ok l hl
  have mx := List.mem_of_getElem? h2
  have my := List.mem_of_getElem? h3
  rcases h6 with ⟨a, b⟩ | ⟨a, b⟩
  · exact ⟨a ▸ ng x mx, b ▸ ng y my, a ▸ mx, b ▸ my, h5⟩
  · exact ⟨a ▸ ng y my, b ▸ ng x mx, a ▸ my, b ▸ mx, h5⟩
/-- the sorted pair of two unlike texts -/
theorem sorted2 {x y : Str} (hne : x ≠ y) {ys : List Str} (hp : ys.Perm [x, y]) (hs : PyProof.Rows.sortedS ys = true) : ∃ a b, ys = [a, b] ∧ a.cps.toList < b.cps.toList ∧ ((a = x ∧ b = y) ∨ (a = y ∧ b = x)) := by
  have hl := hp.length_eq
  match ys, hl, hp, hs with
  | [a, b], _, hp, hs =>
    have hpw := sorted_pw [a, b] hs
    have hle : ¬ b.cps.toList < a.cps.toList := (List.pairwise_cons.mp hpw).1 b List.mem_cons_self
    have key : (a = x ∧ b = y) ∨ (a = y ∧ b = x) := by
      have ma : a ∈ [x, y] := hp.subset List.mem_cons_self
      have mb : b ∈ [x, y] := hp.subset (List.mem_cons_of_mem _ List.mem_cons_self)
      have nd : [a, b].Nodup := hp.symm.nodup (List.pairwise_cons.mpr ⟨fun z hz => by rw [List.mem_singleton] at hz; rw [hz]; exact hne, List.pairwise_singleton _ _⟩)
      have nab : a ≠ b := (List.pairwise_cons.mp nd).1 b List.mem_cons_self
      simp only [List.mem_cons, List.not_mem_nil, or_false] at ma mb
      rcases ma with rfl | rfl <;> rcases mb with rfl | rfl
      · exact absurd rfl nab
      · exact .inl ⟨rfl, rfl⟩
      · exact .inr ⟨rfl, rfl⟩
      · exact absurd rfl nab
    have nab : a ≠ b := by rcases key with ⟨rfl, rfl⟩ | ⟨rfl, rfl⟩; exact hne; exact hne.symm
    refine ⟨a, b, rfl, ?_, key⟩
    rcases Classical.em (a.cps.toList < b.cps.toList) with h | h
    · exact h
    · exact absurd (str_ext (List.le_antisymm (show a.cps.toList ≤ b.cps.toList from hle) (show b.cps.toList ≤ a.cps.toList from h))) nab
/-- the heap while the plan is made -/
structure PS (H0 H : Hp) (p d ln ll lh : Addr) (ns : List Str) (lims : List Int) (hds : List Bool) (ls : List Lk) (m : Nat) : Prop where
  sb : SameB p H0 H
  pool : PoolAt H p
  f : (∃ o, H0 p = some o) ∧ H0 d = none ∧ H0 ln = none ∧ H0 ll = none ∧ H0 lh = none
  dict : ∃ kvs lk, H d = some (.dK kvs) ∧ kvs.length ≤ m ∧ Base4 kvs ln ll lh lk ∧ H lk = some (.lst (refs ls)) ∧ H0 lk = none
  n : H ln = some (.lst (ns.map V.str))
  l : H ll = some (.lst (lims.map V.int))
  h : H lh = some (.lst (hds.map V.bl))
  la : LsAt H ls
theorem ne_old {H0 : Hp} {p x : Addr} (hp : ∃ o, H0 p = some o) (hx : H0 x = none) : x ≠ p := fun e => by
  obtain ⟨o, ho⟩ := hp
  rw [e, ho] at hx
  cases hx
theorem PS.move {H0 H H' : Hp} {p d ln ll lh : Addr} {ns : List Str} {lims : List Int} {hds : List Bool} {ls : List Lk} {m : Nat} (h : PS H0 H p d ln ll lh ns lims hds ls m) (s : SameB p H H') (hp : PoolAt H' p) : PS H0 H' p d ln ll lh ns lims hds ls m := by
  obtain ⟨f0, f1, f2, f3, f4⟩ := h.f
  obtain ⟨kvs, lk, d1, d2, d3, d4, d5⟩ := h.dict
  refine ⟨h.sb.then s, hp, h.f, ⟨kvs, lk, s _ _ (ne_old f0 f1) d1, d2, d3, s _ _ (ne_old f0 d5) d4, d5⟩, s _ _ (ne_old f0 f2) h.n, s _ _ (ne_old f0 f3) h.l, s _ _ (ne_old f0 f4) h.h, fun l hl => s _ _ (fun e => ?_) (h.la l hl)⟩
  obtain ⟨A, B, e1, _⟩ := h.pool
  have := h.la l hl
  rw [e, e1] at this
  cases this
theorem PS.grow {H0 H H' : Hp} {p d ln ll lh : Addr} {ns : List Str} {lims : List Int} {hds : List Bool} {ls : List Lk} {m : Nat} (h : PS H0 H p d ln ll lh ns lims hds ls m) (s : Same H H') : PS H0 H' p d ln ll lh ns lims hds ls m :=
  h.move (SameB.of s) (h.pool.same (s _))
/-- the dict is written -/
theorem PS.put {H0 H : Hp} {p d ln ll lh lk : Addr} {ns : List Str} {lims : List Int} {hds : List Bool} {ls : List Lk} {m m2 : Nat} {kvs kvs' : List (Key × V)} (h : PS H0 H p d ln ll lh ns lims hds ls m) (hd : H d = some (.dK kvs)) (hl : kvs'.length ≤ m2) (hb : Base4 kvs' ln ll lh lk) (hk : H lk = some (.lst (refs ls))) (hk0 : H0 lk = none) :
    PS H0 (upd H d (.dK kvs')) p d ln ll lh ns lims hds ls m2 := by
  obtain ⟨f0, f1, f2, f3, f4⟩ := h.f
  have off : ∀ {x : Addr} {o : HO}, H x = some o → (∀ k, o ≠ .dK k) → upd H d (.dK kvs') x = some o := fun {x o} e n => by
    rw [upd_ne (ne_of e hd (n _))]
    exact e
  refine ⟨fun b o n e => ?_, ?_, h.f, ⟨kvs', lk, upd_same, hl, hb, off hk (by intro k z; cases z), hk0⟩, off h.n (by intro k z; cases z), off h.l (by intro k z; cases z), off h.h (by intro k z; cases z), fun l hl => off (h.la l hl) (by intro k z; cases z)⟩
  · rw [upd_ne (ne_of_none e f1)]
    exact h.sb b o n e
  · obtain ⟨A, B, e1, r⟩ := h.pool
    exact ⟨A, B, off e1 (by intro k z; cases z), r⟩
theorem PS.relink {H0 H : Hp} {p d ln ll lh lk nl : Addr} {ns : List Str} {lims : List Int} {hds : List Bool} {ls ls' : List Lk} {m : Nat} {kvs : List (Key × V)} (h : PS H0 H p d ln ll lh ns lims hds ls m) (hd : H d = some (.dK kvs)) (hl : kvs.length ≤ m) (hb : Base4 kvs ln ll lh lk) (hk : H nl = some (.lst (refs ls'))) (hk0 : H0 nl = none) (hla : LsAt H ls') :
    PS H0 (upd H d (.dK (putK kvs (.inr "links") (.ref nl)))) p d ln ll lh ns lims hds ls' m := by
  obtain ⟨f0, f1, f2, f3, f4⟩ := h.f
  have off : ∀ {x : Addr} {o : HO}, H x = some o → (∀ k, o ≠ .dK k) → upd H d (.dK (putK kvs (.inr "links") (.ref nl))) x = some o := fun {x o} e n => by
    rw [upd_ne (ne_of e hd (n _))]
    exact e
  refine ⟨fun b o n e => ?_, ?_, h.f, ⟨_, nl, upd_same, by rw [len_putK_same hb.k]; exact hl, hb.links, off hk (by intro k z; cases z), hk0⟩, off h.n (by intro k z; cases z), off h.l (by intro k z; cases z), off h.h (by intro k z; cases z), fun l hl => off (hla l hl) (by intro k z; cases z)⟩
  · rw [upd_ne (ne_of_none e f1)]
    exact h.sb b o n e
  · obtain ⟨A, B, e1, r⟩ := h.pool
    exact ⟨A, B, off e1 (by intro k z; cases z), r⟩
section
variable {P : Program} {w : World} {K : PySem.W.Frag} {mg : Str → Option Value} {base : Heap}
def spPlan : Sp := fun vs H Q _ => ∃ (q : Addr), vs = [.ref q, .int 3, .int 3] ∧ PoolAt H q ∧ ∀ H' d pl, SameB q H H' → PoolAt H' q → H d = none → (∀ H'', SameB q H' H'' → PlanAt H'' d pl) → GoodPlan pl → Q (.ref d) H'
abbrev nPl : List Str := ["_law_pool_here", "_law_many", "_law_most", "_law_names_here", "_law_t", "_law_one", "_law_other", "_law_pair", "_law_name"]
theorem scPl : FnScope nPl ["_law_pool_here", "_law_many", "_law_most"] (defScope sPlan) := ⟨rfl, rfl, rfl, by decide +kernel, rfl, by decide +kernel, by decide +kernel⟩
theorem ok_plan {f fD fP fN : Addr} {fd fdD fdP fdN : FuncData} (F : Fun K "_law_plan" "_law_plan" sPlan f fd) (B : Bl mg) (GD : FnOk P w K mg base CX0 1 fD fdD ["_law_pool_here", "_law_many"] spDraw) (dD : Dn K mg "_law_draw" fD fdD ["_law_pool_here", "_law_many"])
    (GP : FnOk P w K mg base CX0 2 fP fdP ["_law_pool_here", "_law_row"] spPick) (dP : Dn K mg "_law_pick" fP fdP ["_law_pool_here", "_law_row"]) (GN : FnOk P w K mg base CX0 3 fN fdN ["_law_pool_here", "_law_count"] spLNames) (dN : Dn K mg "_law_names" fN fdN ["_law_pool_here", "_law_count"]) :
    FnOk P w K mg base CX0 4 f fd ["_law_pool_here", "_law_many", "_law_most"] spPlan := by
  refine F.ok scPl (fun vs H Q E h => ?_) (fun cdv A outer s H vs Q E hr h => ?_)
  · obtain ⟨q, rfl, _⟩ := h
    rfl
  · obtain ⟨p, rfl, hP, q⟩ := h
    have hr1 : Room 1 _ := hr.mono (by decide)
    have hr2 : Room 2 _ := hr.mono (by decide)
    have hu : (A.deeper (PyProof.Rows.envOfC "_law_plan" (defScope sPlan) s.heap.objs.size f cdv)).units + 1 < cLine := hu_of hr
    have hs : sizeLine = 16777216 := sizeLine_eq
    have hp0 : ∃ o, H p = some o := let ⟨_, _, e, _⟩ := hP; ⟨_, e⟩
    refine ⟨_, pss_cons (ps_set (i := 3) scPl.nd rfl (Or.inl rfl) (pe_call GN hr (by rfl) dN.m dN.k dN.b .nil pass0 (pa_cons (pv 0) (pa_cons (pe_op op_add pe_int (pe_call GD hr1 (by rfl) dD.m dD.k dD.b .nil pass0 (pa_cons (pv 0) (pa_cons (pv 1) pa_nil)))) pa_nil))))
      (pss_cons (ps_set (i := 4) scPl.nd rfl (Or.inl rfl) (pe_disp (pps_cons pe_str (pv 3) (pps_cons pe_str
          (pe_lc (own := [("_law_name", 8)]) (g := gName 8) (te := tCall spDraw [] E0 (tCons (tVar 0) (tCons (tOp (rI0 fun i j => .int (i + j)) (tVar 2) (tC (.int 1))) tNil))) (by rfl) scPl.nd (pi_list (pv 3)) (blkOk_by (own := [("_law_name", 8)]) (N := nPl) (sc := defScope sPlan) (by decide +kernel))
            (fun _ _ _ _ _ => pg_name (i := 8) scPl.nd rfl (Or.inl rfl)) (fun _ _ _ _ _ => pts_nil) (fun _ _ _ _ _ => pe_call GD hr1 (by rfl) dD.m dD.k dD.b .nil pass0 (pa_cons (pv 0) (pa_cons (pe_op op_add (pv 2) pe_int) pa_nil)))) (pps_cons pe_str (pe_lst pa_nil) pps_nil))) (by rfl) (by rfl) (fun z => by cases z) (by decide)))
      (pss_cons (ps_dput hu (pv 4) pe_str (pe_lc (own := [("_law_name", 8)]) (g := gName 8) (te := tOp (rI0 fun i j => .bl (decide (j < i))) (tCall spDraw [] E0 (tCons (tVar 0) (tCons (tC (.int 4)) tNil))) (tC (.int 0))) (by rfl) scPl.nd (pi_list (pv 3)) (blkOk_by (own := [("_law_name", 8)]) (N := nPl) (sc := defScope sPlan) (by decide +kernel))
            (fun _ _ _ _ _ => pg_name (i := 8) scPl.nd rfl (Or.inl rfl)) (fun _ _ _ _ _ => pts_nil) (fun _ _ _ _ _ => pe_cmpR op_gt (pe_call GD hr1 (by rfl) dD.m dD.k dD.b .nil pass0 (pa_cons (pv 0) (pa_cons pe_int pa_nil))) pe_int (nomark _))) rfl)
      (C8.pss_cut (ps_for PassesOwn.never rfl (pi_range1 (by rfl) B.range (pa_cons (pe_callB call_len_seq (by rfl) B.len PySem.boot_len (pa_cons (pv 3) pa_nil)) pa_nil)) (pg_name (i := 5) scPl.nd rfl (Or.inl rfl))
        (pss_one (ps_for PassesOwn.never rfl (pi_range2 (by rfl) B.range (pa_cons (pe_op op_add (pv 5) pe_int) (pa_cons (pe_callB call_len_seq (by rfl) B.len PySem.boot_len (pa_cons (pv 3) pa_nil)) pa_nil))) (pg_name (i := 6) scPl.nd rfl (Or.inl rfl))
          (pss_cons (ps_set (i := 7) scPl.nd rfl (Or.inl rfl) (pe_callTy call_tuple_of (by rfl) B.tuple (by decide +kernel) (pa_cons (pe_callB cr_sortedS (by rfl) B.sorted (by decide +kernel) (pa_cons (pe_lst (pa_cons (pe_callTy SkE.call_str_str (by rfl) B.str (by decide +kernel) (pa_cons (pe_ix ix_list (pv 3) (pv 5) (fun _ _ => rfl)) pa_nil)) (pa_cons (pe_callTy SkE.call_str_str (by rfl) B.str (by decide +kernel) (pa_cons (pe_ix ix_list (pv 3) (pv 6) (fun _ _ => rfl)) pa_nil)) pa_nil))) pa_nil)) pa_nil)))
          (pss_one (ps_dput hu (pv 4) pe_str (pe_op op_cat (pe_dget hu (pv 4) pe_str (fun _ _ => rfl)) (pe_ifExp (pt_cmpR op_eq (pe_call GD hr1 (by rfl) dD.m dD.k dD.b .nil pass0 (pa_cons (pv 0) (pa_cons pe_int pa_nil))) pe_int (nomark _)) (pe_lst (pa_cons (pv 7) pa_nil)) (pe_lst pa_nil))) rfl))))))
      (pss_cons (ps_asg (pe_tup (pa_cons (pe_call GD hr1 (by rfl) dD.m dD.k dD.b .nil pass0 (pa_cons (pv 0) (pa_cons (pe_op op_add (pv 2) pe_int) pa_nil))) (pa_cons (pe_call GD hr1 (by rfl) dD.m dD.k dD.b .nil pass0 (pa_cons (pv 0) (pa_cons pe_int pa_nil))) pa_nil))) (pg_tup rfl (pgs_cons (pg_sub (pv 4) pe_str (set_dict hu)) (pgs_cons (pg_sub (pv 4) pe_str (set_dict hu)) pgs_nil))))
      (pss_cons (ps_dput hu (pv 4) pe_str (pe_call GP hr2 (by rfl) dP.m dP.k dP.b .nil pass0 (pa_cons (pv 0) (pa_cons (pe_lst (pa_cons (pe_tup (pa_cons pe_str pa_nil)) (pa_cons (pe_tup (pa_cons pe_str (pa_cons pe_int pa_nil))) (pa_cons (pe_tup (pa_cons pe_str (pa_cons pe_int pa_nil))) (pa_cons (pe_tup (pa_cons pe_str (pa_cons pe_int pa_nil))) (pa_cons (pe_tup (pa_cons pe_str (pa_cons pe_int pa_nil))) (pa_cons (pe_tup (pa_cons pe_str (pa_cons pe_int pa_nil))) pa_nil))))))) pa_nil))) rfl)
      (pss_cons (ps_dput hu (pv 4) pe_str (pe_cmpR op_gt (pe_call GD hr1 (by rfl) dD.m dD.k dD.b .nil pass0 (pa_cons (pv 0) (pa_cons pe_int pa_nil))) pe_int (nomark _)) rfl)
      (pss_one (ps_ret (pv 4))))))))), ?_⟩
    refine ⟨_, rfl, _, rfl, _, rfl, p, 3, rfl, hP, by decide, by decide, fun H1 c s1 hP1 c0 c1 => ?_⟩
    refine ⟨_, _, rfl, rfl, p, _, rfl, hP1, by omega, by omega, fun H2 ln ns s2 hP2 ln0 hln nsl nd ng => ?_⟩
    have s02 : SameB p H H2 := s1.then s2
    have ln00 : H ln = none := s1.free (let ⟨_, _, e, _⟩ := hP1; ⟨_, e⟩) ln0
    have nlp : ln ≠ p := ne_old hp0 ln00
    have nl3 : ns.length ≤ 3 := by omega
    have nl1 : 1 ≤ ns.length := by omega
    have lnm : (ns.map V.str).length = ns.length := List.length_map ..
    -- the dict, empty
    intro d hd
    have d0 : H d = none := s02.free (let ⟨_, _, e, _⟩ := hP2; ⟨_, e⟩) hd
    have ndp : d ≠ p := ne_old hp0 d0
    have s3 : SameB p H (upd H2 d (.dK [])) := fun b o n e => by rw [upd_ne (ne_of_none (s02 _ _ n e) hd)]; exact s02 _ _ n e
    have hP3 : PoolAt (upd H2 d (.dK [])) p := hP2.same fun o e => by rw [upd_ne (ne_of_none e hd)]; exact e
    have d3 : upd H2 d (.dK []) d = some (.dK []) := upd_same
    have n3 : upd H2 d (.dK []) ln = some (.lst (ns.map V.str)) := by rw [upd_ne (ne_of_none hln hd)]; exact hln
    generalize upd H2 d (.dK []) = H3 at s3 hP3 d3 n3
    refine ⟨_, rfl, _, rfl, ln, rfl, ⟨_, SqL.of n3⟩, fun ll hll => lc_list (K := K) (a := ln) (xs := ns.map V.str) (fun i H' => ∃ zs : List Int, zs.length = i ∧ (∀ z ∈ zs, 0 ≤ z ∧ z ≤ 9) ∧ SameB p H3 H' ∧ PoolAt H' p ∧ H' ll = some (.lst (zs.map V.int)))
      ⟨[], rfl, fun z hz => (by cases hz), fun b o n e => by rw [upd_ne (ne_of_none e hll)]; exact e, hP3.same fun o e => by rw [upd_ne (ne_of_none e hll)]; exact e, upd_same⟩ (fun i H' _ ⟨_, _, _, s, _⟩ => SqL.of (s _ _ nlp n3)) ?_ ?_⟩
    · rintro i x H' hx ⟨zs, zl, zg, s4, hP4, e4⟩
      have hi := (List.getElem?_eq_some_iff.mp hx).1
      rw [lnm] at hi
      have nllp : ll ≠ p := fun e => by
        obtain ⟨_, _, e1, _⟩ := hP3
        rw [e, e1] at hll
        cases hll
      refine ⟨rfl, yesT ?_⟩
      refine ⟨_, rfl, _, rfl, _, _, rfl, rfl, p, _, rfl, hP4, by decide, by decide, fun H5 r s5 hP5 r0 r1 => ?_⟩
      refine ⟨_, s5 _ _ nllp e4, by rw [List.length_map]; exact small1000 (by omega), zs ++ [r], by rw [List.length_append, zl]; rfl, fun z hz => ?_, fun b o n e => ?_, ?_, by rw [List.map_append]; exact upd_same⟩
      · rcases List.mem_append.mp hz with hz | hz
        · exact zg z hz
        · rw [List.mem_singleton] at hz
          omega
      · rw [upd_ne (ne_of_none e hll)]
        exact s5 _ _ n (s4 _ _ n e)
      · refine hP5.same fun o e => ?_
        rw [upd_ne (Ne.symm nllp)]
        exact e
    rintro H4 ⟨lims, ll1, lg, s4, hP4, e4⟩
    rw [lnm] at ll1
    have ll0 : H3 ll = none := hll
    have ll00 : H ll = none := s3.free (let ⟨_, _, e, _⟩ := hP3; ⟨_, e⟩) ll0
    have s04 : SameB p H H4 := s3.then s4
    refine ⟨Nat.zero_le _, fun lk hlk => ?_⟩
    have d4 : upd H4 lk (.lst []) d = some (.dK []) := by rw [upd_ne (ne_of_none (s4 _ _ ndp d3) hlk)]; exact s4 _ _ ndp d3
    have lk00 : H lk = none := s04.free (let ⟨_, _, e, _⟩ := hP4; ⟨_, e⟩) hlk
    refine ⟨d4, [(.inr "names", .ref ln), (.inr "limits", .ref ll), (.inr "links", .ref lk)], rfl, (by show 3 ≤ 15; decide), ?_⟩
    have s5 : SameB p H (upd (upd H4 lk (.lst [])) d (.dK (mergeK [] [(.inr "names", .ref ln), (.inr "limits", .ref ll), (.inr "links", .ref lk)]))) := fun b o n e => by
      rw [upd_ne (ne_of_none e d0), upd_ne (ne_of_none (s04 _ _ n e) hlk)]
      exact s04 _ _ n e
    have keep5 : ∀ {x o}, H4 x = some o → x ≠ d → upd (upd H4 lk (.lst [])) d (.dK (mergeK [] [(.inr "names", .ref ln), (.inr "limits", .ref ll), (.inr "links", .ref lk)])) x = some o := fun {x o} e n => by
      rw [upd_ne n, upd_ne (ne_of_none e hlk)]
      exact e
    have hP5 := hP4.same fun o e => keep5 e (Ne.symm ndp)
    have n5 := keep5 (s4 _ _ nlp n3) (ne_of n3 d3 (by intro z; cases z))
    have l5 := keep5 e4 (fun e => by rw [e, s4 _ _ ndp d3] at e4; cases e4)
    have k5 : upd (upd H4 lk (.lst [])) d (.dK (mergeK [] [(.inr "names", .ref ln), (.inr "limits", .ref ll), (.inr "links", .ref lk)])) lk = some (.lst []) := by
      rw [upd_ne (fun e => by rw [← e, upd_same] at d4; cases d4)]
      exact upd_same
    have d5 : upd (upd H4 lk (.lst [])) d (.dK (mergeK [] [(.inr "names", .ref ln), (.inr "limits", .ref ll), (.inr "links", .ref lk)])) d = some (.dK (mergeK [] [(.inr "names", .ref ln), (.inr "limits", .ref ll), (.inr "links", .ref lk)])) := upd_same
    generalize upd (upd H4 lk (.lst [])) d (.dK (mergeK [] [(.inr "names", .ref ln), (.inr "limits", .ref ll), (.inr "links", .ref lk)])) = H5 at s5 hP5 n5 l5 k5 d5
    -- heeds
    refine ⟨_, rfl, ln, rfl, ⟨_, SqL.of n5⟩, fun lh hlh => lc_list (K := K) (a := ln) (xs := ns.map V.str) (fun i H' => ∃ zs : List Bool, zs.length = i ∧ SameB p H5 H' ∧ PoolAt H' p ∧ H' lh = some (.lst (zs.map V.bl)))
      ⟨[], rfl, fun b o n e => by rw [upd_ne (ne_of_none e hlh)]; exact e, hP5.same fun o e => by rw [upd_ne (ne_of_none e hlh)]; exact e, upd_same⟩ (fun i H' _ ⟨_, _, s, _⟩ => SqL.of (s _ _ nlp n5)) ?_ ?_⟩
    · rintro i x H' hx ⟨zs, zl, s6, hP6, e6⟩
      have hi := (List.getElem?_eq_some_iff.mp hx).1
      rw [lnm] at hi
      have nlhp : lh ≠ p := fun e => by
        obtain ⟨_, _, e1, _⟩ := hP5
        rw [e, e1] at hlh
        cases hlh
      refine ⟨rfl, yesT ?_⟩
      refine ⟨_, rfl, p, _, rfl, hP6, by decide, by decide, fun H7 r s7 hP7 r0 r1 => ?_⟩
      refine ⟨_, _, rfl, rfl, _, s7 _ _ nlhp e6, by rw [List.length_map]; exact small1000 (by omega), zs ++ [decide (0 < r)], by rw [List.length_append, zl]; rfl, fun b o n e => ?_, ?_, by rw [List.map_append]; exact upd_same⟩
      · rw [upd_ne (ne_of_none e hlh)]
        exact s7 _ _ n (s6 _ _ n e)
      · refine hP7.same fun o e => ?_
        rw [upd_ne (Ne.symm nlhp)]
        exact e
    rintro H6 ⟨hds, hl1, s6, hP6, e6⟩
    rw [lnm] at hl1
    have nllp : ll ≠ p := ne_old hp0 ll00
    have nlkp : lk ≠ p := ne_old hp0 lk00
    have lh00 : H lh = none := s5.free (let ⟨_, _, e, _⟩ := hP5; ⟨_, e⟩) hlh
    have d6 := s6 _ _ ndp d5
    refine ⟨_, rfl, d, _, rfl, DPut.k (k := .inr "heeds") d6 (by show 3 < sizeLine; decide), ?_⟩
    have off : ∀ {x : Addr} {o : HO}, H6 x = some o → (∀ k, o ≠ .dK k) → upd H6 d (.dK (putK (mergeK [] [(.inr "names", .ref ln), (.inr "limits", .ref ll), (.inr "links", .ref lk)]) (.inr "heeds") (.ref lh))) x = some o := fun {x o} e n => by
      rw [upd_ne (ne_of e d6 (n _))]
      exact e
    have b4 : Base4 (putK (mergeK [] [(.inr "names", .ref ln), (.inr "limits", .ref ll), (.inr "links", .ref lk)]) (.inr "heeds") (.ref lh)) ln ll lh lk := by
      have e : mergeK [] [((.inr "names" : Key), V.ref ln), (.inr "limits", .ref ll), (.inr "links", .ref lk)] = putK (putK (putK ([] : List (Key × V)) (Sum.inr "names" : Key) (V.ref ln)) (Sum.inr "limits" : Key) (V.ref ll)) (Sum.inr "links" : Key) (V.ref lk) := rfl
      rw [e]
      refine ⟨?_, ?_, ?_, ?_⟩
      · rw [valV_put, if_neg (by decide), valV_put, if_neg (by decide), valV_put, if_neg (by decide), valV_put, if_pos rfl]
      · rw [valV_put, if_neg (by decide), valV_put, if_neg (by decide), valV_put, if_pos rfl]
      · rw [valV_put, if_pos rfl]
      · rw [valV_put, if_neg (by decide), valV_put, if_pos rfl]
    have ps0 : PS H (upd H6 d (.dK (putK (mergeK [] [(.inr "names", .ref ln), (.inr "limits", .ref ll), (.inr "links", .ref lk)]) (.inr "heeds") (.ref lh)))) p d ln ll lh ns lims hds [] 4 := by
      refine ⟨fun b o n e => ?_, ?_, ⟨hp0, d0, ln00, ll00, lh00⟩, ⟨_, lk, upd_same, (by show 4 ≤ 4; decide), b4, off (s6 _ _ nlkp k5) (by intro k z; cases z), lk00⟩, off (s6 _ _ nlp n5) (by intro k z; cases z), off (s6 _ _ nllp l5) (by intro k z; cases z), off e6 (by intro k z; cases z), fun l hl => (by cases hl)⟩
      · rw [upd_ne (ne_of_none e d0)]
        exact s6 _ _ n (s5 _ _ n e)
      · obtain ⟨X, Y, e1, r⟩ := hP6
        exact ⟨X, Y, off e1 (by intro k z; cases z), r⟩
    generalize upd H6 d (.dK (putK (mergeK [] [(.inr "names", .ref ln), (.inr "limits", .ref ll), (.inr "links", .ref lk)]) (.inr "heeds") (.ref lh))) = H7 at ps0
    -- the links
    refine ⟨fun σ H' => (∃ v5 v6 v7, σ = [some (.ref p), some (.int 3), some (.int 3), some (.ref ln), some (.ref d), v5, v6, v7, none]) ∧ ∃ ls, PS H H' p d ln ll lh ns lims hds ls 4 ∧ LI ns ns.length 0 ls, ?_, ?_⟩
    · refine ⟨_, rfl, ln, _, rfl, .inl (SqL.of ps0.n), _, rfl, by omega, by omega, ?_⟩
      have en : ((((ns.map V.str).length : Nat) : Int)).toNat = ns.length := by rw [lnm]; omega
      rw [en]
      refine for_range (lo := 0) (n := ns.length) (fun one σ H' => (∃ v5 v6 v7, σ = [some (.ref p), some (.int 3), some (.int 3), some (.ref ln), some (.ref d), v5, v6, v7, none]) ∧ ∃ ls, PS H H' p d ln ll lh ns lims hds ls 4 ∧ LI ns one 0 ls)
        ⟨⟨none, none, none, rfl⟩, [], ps0, LI.nil ns⟩ ?_ fun σ H' h => h
      rintro one σ H' hone ⟨⟨v5, v6, v7, rfl⟩, ls0, ps, li⟩
      refine ⟨_, rfl, _, _, rfl, rfl, _, rfl, ln, _, rfl, .inl (SqL.of ps.n), _, _, rfl, ⟨by omega, by omega, by omega, by omega⟩, ?_⟩
      have em : ((((ns.map V.str).length : Nat) : Int) - ((0 + (one : Int)) + 1)).toNat = ns.length - (one + 1) := by rw [lnm]; omega
      rw [em]
      refine for_range (lo := (0 + (one : Int)) + 1) (n := ns.length - (one + 1)) (fun k σ H' => (∃ v6 v7, σ = [some (.ref p), some (.int 3), some (.int 3), some (.ref ln), some (.ref d), some (.int (0 + (one : Int))), v6, v7, none]) ∧ ∃ ls, PS H H' p d ln ll lh ns lims hds ls 4 ∧ LI ns one (one + 1 + k) ls)
        ⟨⟨v6, v7, rfl⟩, ls0, ps, li.begin⟩ ?_ ?_
      · rintro k σ H1 hk ⟨⟨v6, v7, rfl⟩, ls, ps, li⟩
        have ho : one + 1 + k < ns.length := by omega
        obtain ⟨x, hx⟩ : ∃ x, ns[one]? = some x := ⟨_, List.getElem?_eq_getElem hone⟩
        obtain ⟨y, hy⟩ : ∃ y, ns[one + 1 + k]? = some y := ⟨_, List.getElem?_eq_getElem ho⟩
        have nxy : x ≠ y := fun e => by
          rw [e] at hx
          have := nodup_ix nd hx hy
          omega
        have gx : atI (ns.map V.str) (0 + (one : Int)) = some (.str x) := atI_z (by omega) (by rw [List.getElem?_map, show (0 + (one : Int)).toNat = one from by omega, hx]; rfl)
        have gy : atI (ns.map V.str) ((0 + (one : Int)) + 1 + (k : Int)) = some (.str y) := atI_z (by omega) (by rw [List.getElem?_map, show ((0 + (one : Int)) + 1 + (k : Int)).toNat = one + 1 + k from by omega, hy]; rfl)
        refine ⟨_, rfl, _, rfl, ln, _, _, _, rfl, rfl, SqL.of ps.n, gx, _, rfl, _, rfl, _, rfl, ln, _, _, _, rfl, rfl, SqL.of ps.n, gy, _, rfl, (by show 2 ≤ sizeLine; decide), fun l1 h1 => ?_⟩
        have q1 : Same H1 (upd H1 l1 (.lst [.str x, .str y])) := fun b o e => by rw [upd_ne (ne_of_none e h1)]; exact e
        have f1 : upd H1 l1 (.lst [.str x, .str y]) l1 = some (.lst [.str x, .str y]) := upd_same
        have ps1 := ps.grow q1
        clear q1
        generalize upd H1 l1 (.lst [.str x, .str y]) = G1 at f1 ps1
        refine ⟨l1, [x, y], rfl, SqL.of f1, (by show 2 < 64; decide), fun ys l2 hperm hsort h2 => ?_⟩
        obtain ⟨a, b, rfl, hab, hcase⟩ := sorted2 nxy hperm hsort
        have q2 : Same G1 (upd G1 l2 (.lst [.str a, .str b])) := fun c o e => by rw [upd_ne (ne_of_none e h2)]; exact e
        have f2 : upd G1 l2 (.lst [.str a, .str b]) l2 = some (.lst [.str a, .str b]) := upd_same
        have ps2 := ps1.grow q2
        clear q2
        show ∃ p_1 ys, _
        refine ⟨l2, _, rfl, .inl ⟨SqL.of upd_same, fun tp htp => ?_⟩⟩
        have q3 : Same (upd G1 l2 (.lst ([a, b].map V.str))) (upd (upd G1 l2 (.lst ([a, b].map V.str))) tp (.tup ([a, b].map V.str))) := fun c o e => by rw [upd_ne (ne_of_none e htp)]; exact e
        have f3 : upd (upd G1 l2 (.lst ([a, b].map V.str))) tp (.tup ([a, b].map V.str)) tp = some (.tup [.str a, .str b]) := upd_same
        have ps3 := PS.grow (show PS H (upd G1 l2 (.lst ([a, b].map V.str))) p d ln ll lh ns lims hds ls 4 from ps2) q3
        clear q3
        generalize upd (upd G1 l2 (.lst ([a, b].map V.str))) tp (.tup ([a, b].map V.str)) = G3 at f3 ps3
        obtain ⟨kvs, lk3, d3', dl3, b3, k3, k30⟩ := ps3.dict
        have dg := DGet.k (k := .inr "links") d3'
        rw [b3.k] at dg
        refine ⟨_, rfl, d, _, rfl, dg, _, rfl, p, 3, rfl, ps3.pool, by decide, by decide, fun G4 r s4' hP4' r0 r1 => ?_⟩
        have ps4 := ps3.move s4' hP4'
        have d4' := s4' _ _ ndp d3'
        have k4 := s4' _ _ (ne_old hp0 k30) k3
        have f4 : G4 tp = some (.tup [.str a, .str b]) := s4' _ _ (fun e => by
          obtain ⟨_, _, e1, _⟩ := ps3.pool
          rw [e, e1] at f3
          cases f3) f3
        have lrf : (refs ls).length = ls.length := by unfold refs; rw [List.length_map]
        have ll4 : ls.length ≤ 100 := by have := li.len; omega
        -- behind the choice: a list zl of the new links
        have step : ∀ (ls' : List Lk) (b4 : Addr), H b4 = none → b4 ≠ d → LsAt G4 (ls ++ ls') → ls'.length ≤ 1 → LI ns one (one + 1 + (k + 1)) (ls ++ ls') → ∀ G5, Same G4 G5 → G5 b4 = some (.lst (refs ls')) →
            rCat (.ref lk3) (.ref b4) G5 (fun v G6 => ∃ v2, (([some (V.ref p), some (V.int 3), some (V.int 3), some (V.ref ln), some (V.ref d), some (V.int (0 + (one : Int))), some (V.int ((0 + (one : Int)) + 1 + (k : Int))), some (V.ref tp), none] : L2.St)[4]? = some (some v2)) ∧ ∃ a' H4', v2 = .ref a' ∧ DPut G6 a' (.str "links") v H4' ∧
              (∃ v6 v7, ([some (V.ref p), some (V.int 3), some (V.int 3), some (V.ref ln), some (V.ref d), some (V.int (0 + (one : Int))), some (V.int ((0 + (one : Int)) + 1 + (k : Int))), some (V.ref tp), none] : L2.St) = [some (.ref p), some (.int 3), some (.int 3), some (.ref ln), some (.ref d), some (.int (0 + (one : Int))), v6, v7, none]) ∧
              ∃ ls, PS H H4' p d ln ll lh ns lims hds ls 4 ∧ LI ns one (one + 1 + (k + 1)) ls) := fun ls' b4 hb40 nb4 hla hl1 hli G5 s5' e5 => by
          refine ⟨lk3, b4, _, _, rfl, rfl, s5' _ _ k4, e5, ?_, fun nl hnl => ?_⟩
          · have e1 : (refs ls').length = ls'.length := by unfold refs; rw [List.length_map]
            rw [lrf, e1, hs]
            omega
          · have er : refs ls ++ refs ls' = refs (ls ++ ls') := by unfold refs; rw [List.map_append]
            rw [er]
            have ps5 := ps4.grow s5'
            have nl0 : H nl = none := ps5.sb.free (let ⟨_, _, e, _⟩ := ps5.pool; ⟨_, e⟩) hnl
            have q6 : Same G5 (upd G5 nl (.lst (refs (ls ++ ls')))) := fun c o e => by rw [upd_ne (ne_of_none e hnl)]; exact e
            have ps6 := ps5.grow q6
            have d6' := q6 _ _ (s5' _ _ d4')
            exact ⟨_, rfl, d, _, rfl, DPut.k (k := .inr "links") d6' (small1000 (by omega)), ⟨_, _, rfl⟩, ls ++ ls', ps6.relink d6' dl3 b3 upd_same nl0 ((hla.same s5').same q6), hli⟩
        have la4 : LsAt G4 ls := ps4.la
        refine ⟨rfl, _, rfl, ite2 (fun hyes => ?_) (fun hno => ?_)⟩
        · refine ⟨_, rfl, (by show 1 ≤ sizeLine; decide), fun b4 h4 => ?_⟩
          have b40 : H b4 = none := ps4.sb.free (let ⟨_, _, e, _⟩ := ps4.pool; ⟨_, e⟩) h4
          refine step [(tp, a, b)] b4 b40 (fun e => by rw [e, d4'] at h4; cases h4) (fun l hl => ?_) (Nat.le_refl _) ?_ _ (fun c o e => by rw [upd_ne (ne_of_none e h4)]; exact e) upd_same
          · rcases List.mem_append.mp hl with hl | hl
            · exact la4 l hl
            · rw [List.mem_singleton] at hl
              rw [hl]
              exact f4
          · have hadd := li.add nd (l := (tp, a, b)) hx hy (by omega) hab hcase
            have e1 : one + 1 + (k + 1) = one + 1 + k + 1 := by omega
            rw [e1]
            exact hadd
        · refine ⟨Nat.zero_le _, fun b4 h4 => ?_⟩
          have b40 : H b4 = none := ps4.sb.free (let ⟨_, _, e, _⟩ := ps4.pool; ⟨_, e⟩) h4
          refine step [] b4 b40 (fun e => by rw [e, d4'] at h4; cases h4) (by rw [List.append_nil]; exact la4) (Nat.zero_le _) ?_ _ (fun c o e => by rw [upd_ne (ne_of_none e h4)]; exact e) upd_same
          rw [List.append_nil]
          have e1 : one + 1 + (k + 1) = one + 1 + k + 1 := by omega
          rw [e1]
          exact li.skip
      · rintro σ H1 ⟨⟨v6, v7, rfl⟩, ls, ps, li⟩
        exact ⟨⟨_, _, _, rfl⟩, ls, ps, li.next (by omega)⟩
    · rintro σ H1 ⟨⟨v5, v6, v7, rfl⟩, ls, ps, li⟩
      -- money, tops
      refine ⟨_, rfl, _, rfl, _, _, rfl, rfl, p, 4, rfl, ps.pool, by decide, by decide, fun H2 mo s2 hP2 m0 m1 => ?_⟩
      have ps2 := ps.move s2 hP2
      refine ⟨_, rfl, p, 3, rfl, hP2, by decide, by decide, fun H3 to s3 hP3 t0 t1 => ?_⟩
      have ps3 := ps2.move s3 hP3
      refine ⟨(by show 2 ≤ sizeLine; decide), fun u hu' => ?_⟩
      have q4 : Same H3 (upd H3 u (.tup [.int mo, .int to])) := fun c o e => by rw [upd_ne (ne_of_none e hu')]; exact e
      have ps4 := ps3.grow q4
      refine ⟨u, _, rfl, SqT.of upd_same, rfl, _, _, rfl, ?_⟩
      generalize upd H3 u (.tup [.int mo, .int to]) = H4 at ps4
      obtain ⟨kvs, lk', d4, dl4, b4, k4, k40⟩ := ps4.dict
      have l5 : (putK kvs (.inr "money") (.int mo)).length ≤ kvs.length + 1 := length_putK _ _ _
      refine ⟨_, rfl, d, _, rfl, DPut.k (k := .inr "money") d4 (small1000 (by omega)), _, _, rfl, _, rfl, d, _, rfl, DPut.k (k := .inr "tops") upd_same (small1000 (by omega)), rfl, ?_⟩
      rw [upd_upd]
      have l6 : (putK (putK kvs (.inr "money") (.int mo)) (.inr "tops") (.int to)).length ≤ 6 := Nat.le_trans (length_putK _ _ _) (by omega)
      have b6 : Base4 (putK (putK kvs (.inr "money") (.int mo)) (.inr "tops") (.int to)) ln ll lh lk' := (b4.put (by decide)).put (by decide)
      have ps6 := ps4.put d4 l6 b6 k4 k40
      have d6 : upd H4 d (.dK (putK (putK kvs (.inr "money") (.int mo)) (.inr "tops") (.int to))) d = some (.dK (putK (putK kvs (.inr "money") (.int mo)) (.inr "tops") (.int to))) := upd_same
      generalize upd H4 d (.dK (putK (putK kvs (.inr "money") (.int mo)) (.inr "tops") (.int to))) = H6 at ps6 d6
      have vm : valV (putK (putK kvs (.inr "money") (.int mo)) (.inr "tops") (.int to)) (.inr "money") = some (.int mo) := by rw [valV_put, if_neg (by decide), valV_put, if_pos rfl]
      have vt : valV (putK (putK kvs (.inr "money") (.int mo)) (.inr "tops") (.int to)) (.inr "tops") = some (.int to) := by rw [valV_put, if_pos rfl]
      generalize putK (putK kvs (.inr "money") (.int mo)) (.inr "tops") (.int to) = kv6 at d6 l6 b6 vm vt
      -- memory
      refine ⟨_, rfl, ?_⟩
      refine ⟨(by show 1 ≤ sizeLine; decide), fun a0 ha0 => ?_⟩
      have qE0 : Same H6 (upd H6 a0 (.tup [.str "nothing"])) := fun c o e => by rw [upd_ne (ne_of_none e ha0)]; exact e
      have psE0 := ps6.grow qE0
      have dE0 := qE0 _ _ d6
      have eE0 : upd H6 a0 (.tup [.str "nothing"]) a0 = some (.tup [.str "nothing"]) := upd_same
      clear qE0
      generalize upd H6 a0 (.tup [.str "nothing"]) = E0 at psE0 dE0 eE0
      refine ⟨(by show 2 ≤ sizeLine; decide), fun a1 ha1 => ?_⟩
      have qE1 : Same E0 (upd E0 a1 (.tup [.str "times", .int 1])) := fun c o e => by rw [upd_ne (ne_of_none e ha1)]; exact e
      have psE1 := psE0.grow qE1
      have dE1 := qE1 _ _ dE0
      have eE1 : upd E0 a1 (.tup [.str "times", .int 1]) a1 = some (.tup [.str "times", .int 1]) := upd_same
      have e0_1 := qE1 _ _ eE0
      clear qE1
      generalize upd E0 a1 (.tup [.str "times", .int 1]) = E1 at psE1 dE1 e0_1 eE1
      refine ⟨(by show 2 ≤ sizeLine; decide), fun a2 ha2 => ?_⟩
      have qE2 : Same E1 (upd E1 a2 (.tup [.str "times", .int 2])) := fun c o e => by rw [upd_ne (ne_of_none e ha2)]; exact e
      have psE2 := psE1.grow qE2
      have dE2 := qE2 _ _ dE1
      have eE2 : upd E1 a2 (.tup [.str "times", .int 2]) a2 = some (.tup [.str "times", .int 2]) := upd_same
      have e0_2 := qE2 _ _ e0_1
      have e1_2 := qE2 _ _ eE1
      clear qE2
      generalize upd E1 a2 (.tup [.str "times", .int 2]) = E2 at psE2 dE2 e0_2 e1_2 eE2
      refine ⟨(by show 2 ≤ sizeLine; decide), fun a3 ha3 => ?_⟩
      have qE3 : Same E2 (upd E2 a3 (.tup [.str "sum", .int 1])) := fun c o e => by rw [upd_ne (ne_of_none e ha3)]; exact e
      have psE3 := psE2.grow qE3
      have dE3 := qE3 _ _ dE2
      have eE3 : upd E2 a3 (.tup [.str "sum", .int 1]) a3 = some (.tup [.str "sum", .int 1]) := upd_same
      have e0_3 := qE3 _ _ e0_2
      have e1_3 := qE3 _ _ e1_2
      have e2_3 := qE3 _ _ eE2
      clear qE3
      generalize upd E2 a3 (.tup [.str "sum", .int 1]) = E3 at psE3 dE3 e0_3 e1_3 e2_3 eE3
      refine ⟨(by show 2 ≤ sizeLine; decide), fun a4 ha4 => ?_⟩
      have qE4 : Same E3 (upd E3 a4 (.tup [.str "sum", .int 2])) := fun c o e => by rw [upd_ne (ne_of_none e ha4)]; exact e
      have psE4 := psE3.grow qE4
      have dE4 := qE4 _ _ dE3
      have eE4 : upd E3 a4 (.tup [.str "sum", .int 2]) a4 = some (.tup [.str "sum", .int 2]) := upd_same
      have e0_4 := qE4 _ _ e0_3
      have e1_4 := qE4 _ _ e1_3
      have e2_4 := qE4 _ _ e2_3
      have e3_4 := qE4 _ _ eE3
      clear qE4
      generalize upd E3 a4 (.tup [.str "sum", .int 2]) = E4 at psE4 dE4 e0_4 e1_4 e2_4 e3_4 eE4
      refine ⟨(by show 2 ≤ sizeLine; decide), fun a5 ha5 => ?_⟩
      have qE5 : Same E4 (upd E4 a5 (.tup [.str "sum", .int 3])) := fun c o e => by rw [upd_ne (ne_of_none e ha5)]; exact e
      have psE5 := psE4.grow qE5
      have dE5 := qE5 _ _ dE4
      have eE5 : upd E4 a5 (.tup [.str "sum", .int 3]) a5 = some (.tup [.str "sum", .int 3]) := upd_same
      have e0_5 := qE5 _ _ e0_4
      have e1_5 := qE5 _ _ e1_4
      have e2_5 := qE5 _ _ e2_4
      have e3_5 := qE5 _ _ e3_4
      have e4_5 := qE5 _ _ eE4
      clear qE5
      generalize upd E4 a5 (.tup [.str "sum", .int 3]) = E5 at psE5 dE5 e0_5 e1_5 e2_5 e3_5 e4_5 eE5
      refine ⟨(by show 6 ≤ sizeLine; decide), fun l hlN => ?_⟩
      have ql : Same E5 (upd E5 l (.lst [.ref a0, .ref a1, .ref a2, .ref a3, .ref a4, .ref a5])) := fun c o e => by rw [upd_ne (ne_of_none e hlN)]; exact e
      have psl := psE5.grow ql
      have dl := ql _ _ dE5
      have hl : upd E5 l (.lst [.ref a0, .ref a1, .ref a2, .ref a3, .ref a4, .ref a5]) l = some (.lst [.ref a0, .ref a1, .ref a2, .ref a3, .ref a4, .ref a5]) := upd_same
      have f0 := ql _ _ e0_5
      have f1 := ql _ _ e1_5
      have f2 := ql _ _ e2_5
      have f3 := ql _ _ e3_5
      have f4 := ql _ _ e4_5
      have f5 := ql _ _ eE5
      clear ql
      generalize upd E5 l (.lst [.ref a0, .ref a1, .ref a2, .ref a3, .ref a4, .ref a5]) = Hl at psl dl hl f0 f1 f2 f3 f4 f5
      have np : ∀ u xs, Hl u = some (.tup xs) → u ≠ p := fun u xs e z => by
        obtain ⟨A1, B1, e1, _⟩ := psl.pool
        rw [z, e1] at e
        cases e
      refine ⟨p, l, _, rfl, psl.pool, ?_, hl, (by show 1 ≤ 6; decide), (by show 6 ≤ 100; decide), fun H7 x s7 hP7 hx => ?_⟩
      · intro z
        obtain ⟨A1, B1, e1, _⟩ := psl.pool
        rw [z, e1] at hl
        cases hl
      have hxt : ∃ xs, MemIs xs ∧ ∃ u, x = .ref u ∧ u ≠ p ∧ Hl u = some (.tup xs) := by
        simp only [List.mem_cons, List.not_mem_nil, or_false] at hx
        rcases hx with rfl | rfl | rfl | rfl | rfl | rfl
        · exact ⟨_, .inl rfl, _, rfl, np _ _ f0, f0⟩
        · exact ⟨_, .inr ⟨"times", 1, .inl rfl, by decide, by decide, rfl⟩, _, rfl, np _ _ f1, f1⟩
        · exact ⟨_, .inr ⟨"times", 2, .inl rfl, by decide, by decide, rfl⟩, _, rfl, np _ _ f2, f2⟩
        · exact ⟨_, .inr ⟨"sum", 1, .inr rfl, by decide, by decide, rfl⟩, _, rfl, np _ _ f3, f3⟩
        · exact ⟨_, .inr ⟨"sum", 2, .inr rfl, by decide, by decide, rfl⟩, _, rfl, np _ _ f4, f4⟩
        · exact ⟨_, .inr ⟨"sum", 3, .inr rfl, by decide, by decide, rfl⟩, _, rfl, np _ _ f5, f5⟩
      obtain ⟨memx, hmi, mem, rfl, nmp, hmem⟩ := hxt
      have ps7 := psl.move s7 hP7
      have d7 := s7 _ _ ndp dl
      have m7 := s7 _ _ nmp hmem
      obtain ⟨kq, lq, e7, dl7, b7, k7, k70⟩ := ps7.dict
      cases HO.dK.inj (Option.some.inj (d7.symm.trans e7))
      have l8 : (putK kv6 (.inr "memory") (.ref mem)).length ≤ 7 := Nat.le_trans (length_putK _ _ _) (by omega)
      refine ⟨_, rfl, d, _, rfl, DPut.k (k := .inr "memory") d7 (small1000 (by omega)), ?_⟩
      have b8 : Base4 (putK kv6 (.inr "memory") (.ref mem)) ln ll lh lq := b7.put (by decide)
      have ps8 := ps7.put d7 l8 b8 k7 k70
      have d8 : upd H7 d (.dK (putK kv6 (.inr "memory") (.ref mem))) d = some (.dK (putK kv6 (.inr "memory") (.ref mem))) := upd_same
      have m8 : upd H7 d (.dK (putK kv6 (.inr "memory") (.ref mem))) mem = some (.tup memx) := by rw [upd_ne (ne_of m7 d7 (by intro z; cases z))]; exact m7
      generalize upd H7 d (.dK (putK kv6 (.inr "memory") (.ref mem))) = H8 at ps8 d8 m8
      -- numbered
      refine ⟨_, rfl, p, 3, rfl, ps8.pool, by decide, by decide, fun H9 nb s9 hP9 nb0 nb1 => ?_⟩
      have ps9 := ps8.move s9 hP9
      have d9 := s9 _ _ ndp d8
      have m9' := s9 _ _ nmp m8
      obtain ⟨kq9, lq9, e9, dl9, b9, k9, k90⟩ := ps9.dict
      cases HO.dK.inj (Option.some.inj (d9.symm.trans e9))
      have l10 : (putK (putK kv6 (.inr "memory") (.ref mem)) (.inr "numbered") (.bl (decide (0 < nb)))).length ≤ 8 := Nat.le_trans (length_putK _ _ _) (by omega)
      refine ⟨_, _, rfl, rfl, _, rfl, d, _, rfl, DPut.k (k := .inr "numbered") d9 (small1000 (by omega)), _, rfl, ?_⟩
      have b10 : Base4 (putK (putK kv6 (.inr "memory") (.ref mem)) (.inr "numbered") (.bl (decide (0 < nb)))) ln ll lh lq9 := b9.put (by decide)
      have ps10 := ps9.put d9 l10 b10 k9 k90
      obtain ⟨kq10, lq10, e10, dl10, b11, k11, k110⟩ := ps10.dict
      cases HO.dK.inj (Option.some.inj (upd_same.symm.trans e10))
      have off10 : ∀ {H'' : Hp}, SameB p (upd H9 d (.dK (putK (putK kv6 (.inr "memory") (.ref mem)) (.inr "numbered") (.bl (decide (0 < nb)))))) H'' → PlanAt H'' d ⟨ns, lims, hds, ls, mo, to, mem, memx, decide (0 < nb)⟩ := fun {H''} s'' => by
        refine ⟨_, ln, ll, lh, lq10, s'' _ _ ndp upd_same, b11, s'' _ _ nlp ps10.n, s'' _ _ nllp ps10.l, s'' _ _ (ne_old hp0 lh00) ps10.h, s'' _ _ (ne_old hp0 k110) k11, fun l hl => s'' _ _ (fun e => ?_) (ps10.la l hl), ?_, ?_, ?_, s'' _ _ nmp ?_, ?_⟩
        · obtain ⟨_, _, e1, _⟩ := ps10.pool
          have e2 := ps10.la l hl
          rw [e, e1] at e2
          cases e2
        · rw [valV_put, if_neg (by decide), valV_put, if_neg (by decide)]; exact vm
        · rw [valV_put, if_neg (by decide), valV_put, if_neg (by decide)]; exact vt
        · rw [valV_put, if_neg (by decide), valV_put, if_pos rfl]
        · rw [upd_ne (ne_of m9' d9 (by intro z; cases z))]; exact m9'
        · rw [valV_put, if_pos rfl]
      refine q _ d ⟨ns, lims, hds, ls, mo, to, mem, memx, decide (0 < nb)⟩ ps10.sb ps10.pool d0 (fun H'' s'' => off10 s'')
        ⟨nl1, nl3, nd, ng, ll1, lg, hl1, li.good ng, li.nd, ?_, m0, ?_, ⟨t0, ?_⟩, hmi⟩
      · have := li.len
        show ls.length ≤ 60
        omega
      · show mo ≤ 9
        omega
      · show to ≤ 5
        omega
end
end CT
set_option Elab.async false
set_option linter.all false
set_option maxRecDepth 100000
set_option maxHeartbeats 4000000
/-! W14: the law's defs but for those with visitors -/
namespace CT
open PySem L2
def ptAt (pl : PlanD) (i : Nat) : TillD := ⟨pl.names.getD i Str.empty, pl.lims.getD i 0, pl.hds.getD i true⟩
def tillsOf (pl : PlanD) : List TillD := (List.range pl.names.length).map (ptAt pl)
structure FromPlan (pl : PlanD) (D : TownD) : Prop where
  r : D.rs.map (·.2) = tillsOf pl
  l : NormOf pl.ls D.ls
  mo : D.money = pl.money
  me : D.mem = pl.mem
  mx : D.memx = pl.memx
  to : D.tops = pl.tops
  nb : D.nb = pl.nb
theorem FromPlan.sameD {pl : PlanD} {D D' : TownD} (g : GoodPlan pl) (h : FromPlan pl D) (h' : FromPlan pl D') : SameD D D' :=
  ⟨h.r.trans h'.r.symm, by rw [norm_unique g.gl g.ndl h.l h'.l], h.mo.trans h'.mo.symm, h.me.trans h'.me.symm, h.to.trans h'.to.symm, h.nb.trans h'.nb.symm⟩
theorem names_tills (pl : PlanD) : (tillsOf pl).map (·.name) = pl.names := by
  unfold tillsOf
  rw [List.map_map]
  refine List.ext_getElem? fun i => ?_
  rw [List.getElem?_map]
  by_cases h : i < pl.names.length
  · rw [List.getElem?_range h]
    simp [ptAt, h]
  · rw [List.getElem?_eq_none (by rw [List.length_range]; omega), List.getElem?_eq_none (by omega)]
    rfl
theorem FromPlan.names {pl : PlanD} {D : TownD} (h : D.rs.map (·.2) = tillsOf pl) : namesOf D.rs = pl.names := by
  rw [← names_tills pl, ← h]
  unfold namesOf
  rw [List.map_map]
  rfl
section
variable {P : Program} {w : World} {K : PySem.W.Frag} {mg : Str → Option Value} {base : Heap}
theorem ok_tillInit {f fN fB C : Addr} {fd fdN fdB : FuncData} (F : Fun K "__init__" "Till.__init__" sTillInit f fd) (T : TillK K mg C) (B : Bl mg) (Cc : Cn mg) (GN : FnOk P w K mg base CX0 1 fN fdN ["value"] spIsName) (dN : Dn K mg "is_name" fN fdN ["value"])
    (GB : FnOk P w K mg base CX0 2 fB fdB ["value", "least", "most"] spIsBetween) (dB : Dn K mg "is_between" fB fdB ["value", "least", "most"]) : FnOk P w K mg base CX0 3 f fd ["self", "name", "limit", "heeds"] (spTillInit C) := by
  refine F.ok scTillInit (fun vs H Q E h => ?_) (fun cdv A outer s H vs Q E hr h => body_tillInit T B Cc GN dN GB dB A outer s H vs Q E hr h)
  obtain ⟨p, dx, t, rfl, _⟩ := h
  rfl
theorem ok_townInit {f fT fL fP fN Cn Ct Cb : Addr} {fd fdT fdL fdP fdN : FuncData} (F : Fun K "__init__" "Town.__init__" sTownInit f fd) (T : TownK K mg Cn) (GT : FnOk P w K mg base CX0 1 fT fdT ["tills"] (spCheckedTills Ct)) (dT : Dn K mg "checked_tills" fT fdT ["tills"])
    (GL : FnOk P w K mg base CX0 2 fL fdL ["links", "names"] spCheckedLinks) (dL : Dn K mg "checked_links" fL fdL ["links", "names"])
    (GP : FnOk P w K mg base (L2.CX P w) 4 fP fdP ["money", "memory", "tops", "numbered"] (spCheckParts Cb)) (dP : Dn K mg "check_parts" fP fdP ["money", "memory", "tops", "numbered"])
    (GN : FnOk P w K mg base CX0 1 fN fdN ["self"] (spNames Cn Ct)) (mN : Mn K Cn "names" fN fdN ["self"]) : FnOk P w K mg base (L2.CX P w) 5 f fd nTI (spTownInit Cn Ct Cb) := by
  refine F.okX scTownInit (fun vs H Q E h => ?_) (fun cdv A outer s H vs Q E hr h => body_townInit T GT dT GL dL GP dP GN mN A outer s H vs Q E hr h)
  obtain ⟨p, dx, a, b, D, rfl, _⟩ := h
  rfl
/-! ### _law_made -/
def spLMade (Cn Ct : Addr) : Sp := fun vs H Q _ => ∃ (d : Addr) (pl : PlanD), vs = [.ref d] ∧ PlanAt H d pl ∧ GoodPlan pl ∧ ∀ H' q D, Same H H' → TownAt Cn Ct H' q D → Good2 D → FromPlan pl D → Q (.ref q) H'
abbrev nLM : List Str := ["_law_t", "_law_tills", "_law_some", "_law_k"]
theorem scLM : FnScope nLM ["_law_t"] (defScope sMade) := ⟨rfl, rfl, rfl, by decide +kernel, rfl, by decide +kernel, by decide +kernel⟩
theorem ok_lMade {f fI fJ Cn Ct Cb : Addr} {fd fdI fdJ : FuncData} (F : Fun K "_law_made" "_law_made" sMade f fd) (B : Bl mg) (T : TownK K mg Cn) (TT : TillK K mg Ct) (MT : Mk K Ct fI) (GI : FnOk P w K mg base CX0 3 fI fdI ["self", "name", "limit", "heeds"] (spTillInit Ct)) (kt : KBn K fdI ["self", "name", "limit", "heeds"] 3 ["heeds"] (fun us ws => us ++ ws) (fun vs zs => vs ++ zs))
    (MN : Mk K Cn fJ) (GJ : FnOk P w K mg base (L2.CX P w) 5 fJ fdJ nTI (spTownInit Cn Ct Cb)) (kn : KBn K fdJ nTI 2 ["links", "money", "memory", "tops", "numbered"] (fun us ws => us ++ ws) (fun vs zs => vs ++ zs)) : FnOk P w K mg base CX0 7 f fd ["_law_t"] (spLMade Cn Ct) := by
  refine F.ok scLM (fun vs H Q E h => ?_) (fun cdv A outer s H vs Q E hr h => ?_)
  · obtain ⟨d, pl, rfl, _⟩ := h
    rfl
  · obtain ⟨d, pl, rfl, ⟨kvs, ln, ll, lh, lk, hd, b4, hn, hl, hh, hk, hla, vm, vt, ve, hme, vn⟩, g, q⟩ := h
    have hr4 : Room 4 _ := hr.mono (by decide)
    have hu : (A.deeper (PyProof.Rows.envOfC "_law_made" (defScope sMade) s.heap.objs.size f cdv)).units + 1 < cLine := hu_of hr
    refine ⟨_, pss_cons (ps_setLc (i := 1) (own := [("_law_k", 3)]) (g := gName 3) (te := tMakeK Ct 2 1 (spTillInit Ct) (fun vs zs => vs ++ zs) E0 (tCons (tOp (rIxL K) (tDGet (tVar 0) (tC (.str "names"))) (tVar 3)) (tCons (tOp (rIxL K) (tDGet (tVar 0) (tC (.str "limits"))) (tVar 3)) tNil)) (tCons (tOp (rIxL K) (tDGet (tVar 0) (tC (.str "heeds"))) (tVar 3)) tNil)) (by rfl) scLM.nd rfl rfl (sw_true rfl rfl rfl (by decide +kernel))
        (pi_range1 (by rfl) B.range (pa_cons (pe_callB call_len_seq (by rfl) B.len PySem.boot_len (pa_cons (pe_dget hu (pv 0) pe_str (fun _ _ => rfl)) pa_nil)) pa_nil)) (blkOk_by (own := [("_law_k", 3)]) (N := nLM) (sc := defScope sMade) (by decide +kernel))
        (fun _ _ _ _ _ => pg_name (i := 3) scLM.nd rfl (Or.inl rfl)) (fun _ _ _ _ _ => pts_nil)
        (fun _ _ _ _ _ => pe_makeK (n := 2) (ks := ["heeds"]) MT GI hr4 (by rfl) TT.m kt pass0 (pa_cons (pe_ix (r := rIxL K) ix_list (pe_dget hu (pv 0) pe_str (fun _ _ => rfl)) (pv 3) (fun _ _ => rfl)) (pa_cons (pe_ix (r := rIxL K) ix_list (pe_dget hu (pv 0) pe_str (fun _ _ => rfl)) (pv 3) (fun _ _ => rfl)) pa_nil)) (pk_cons (pe_ix (r := rIxL K) ix_list (pe_dget hu (pv 0) pe_str (fun _ _ => rfl)) (pv 3) (fun _ _ => rfl)) pk_nil)))
      (pss_cons (ps_set (i := 2) scLM.nd rfl (Or.inl rfl) (pe_lst (pa_cons (pe_dget hu (pv 0) pe_str (fun _ _ => rfl)) (pa_cons (pe_dget hu (pv 0) pe_str (fun _ _ => rfl)) (pa_cons (pe_dget hu (pv 0) pe_str (fun _ _ => rfl)) pa_nil)))))
      (pss_one (ps_ret (pe_makeK (E := E0) MN GJ hr (by rfl) T.m kn passL (pa_cons (pv 1) pa_nil)
        (pk_cons (pe_callTy call_list_of (by rfl) B.list (by decide +kernel) (pa_cons (pe_dget hu (pv 0) pe_str (fun _ _ => rfl)) pa_nil)) (pk_cons (pe_ix ix_list (pv 2) pe_int (fun _ _ => rfl)) (pk_cons (pe_ix ix_list (pv 2) pe_int (fun _ _ => rfl)) (pk_cons (pe_ix ix_list (pv 2) pe_int (fun _ _ => rfl)) (pk_cons (pe_dget hu (pv 0) pe_str (fun _ _ => rfl)) pk_nil))))))))), ?_⟩
    have dg : ∀ {H1 : Hp} (k : Str) (v : V), Same H H1 → valV kvs (.inr k) = some v → DGet H1 d (.str k) (some v) := fun {H1} k v s1 e => by
      have := DGet.k (k := .inr k) (s1 _ _ hd)
      rw [e] at this
      exact this
    have lnm : (pl.names.map V.str).length = pl.names.length := List.length_map ..
    refine ⟨_, rfl, d, _, rfl, dg "names" _ (Same.refl H) b4.n, ln, _, rfl, .inl (SqL.of hn), _, rfl, by have := g.n3; omega, by have := g.n3; omega, fun L hL => ?_⟩
    have en : ((((pl.names.map V.str).length : Nat) : Int)).toNat = pl.names.length := by rw [lnm]; omega
    rw [en]
    refine lc_range (lo := 0) (n := pl.names.length) (fun i H' => ∃ rs : Rs, Same H H' ∧ RsAt Ct H' rs ∧ H' L = some (.lst (refs rs)) ∧ rs.map (·.2) = (List.range i).map (ptAt pl))
      ⟨[], fun b o e => by rw [upd_ne (ne_of_none e hL)]; exact e, fun r hr => (by cases hr), upd_same, rfl⟩ ?_ ?_
    · rintro i H' hi ⟨rs, s1, hR, eL, em⟩
      have lrs : rs.length = i := by
        have := congrArg List.length em
        simpa using this
      have gN : atI (pl.names.map V.str) (0 + (i : Int)) = some (.str (ptAt pl i).name) := atI_z (by omega) (by rw [List.getElem?_map, show (0 + (i : Int)).toNat = i from by omega]; simp [ptAt, hi])
      have hi2 : i < pl.lims.length := by rw [g.ll]; exact hi
      have hi3 : i < pl.hds.length := by rw [g.hl]; exact hi
      have gL : atI (pl.lims.map V.int) (0 + (i : Int)) = some (.int (ptAt pl i).limit) := atI_z (by omega) (by rw [List.getElem?_map, show (0 + (i : Int)).toNat = i from by omega]; simp [ptAt, hi2])
      have gH : atI (pl.hds.map V.bl) (0 + (i : Int)) = some (.bl (ptAt pl i).heeds) := atI_z (by omega) (by rw [List.getElem?_map, show (0 + (i : Int)).toNat = i from by omega]; simp [ptAt, hi3])
      have gt : GoodT (ptAt pl i) := by
        refine ⟨?_, ?_⟩
        · have : (ptAt pl i).name = pl.names[i] := by simp [ptAt, hi]
          rw [this]
          exact g.ng _ (List.getElem_mem _)
        · have : (ptAt pl i).limit = pl.lims[i] := by simp [ptAt, hi2]
          rw [this]
          exact g.lg _ (List.getElem_mem _)
      refine ⟨rfl, yesT ?_⟩
      refine ⟨_, rfl, d, _, rfl, dg "names" _ s1 b4.n, _, rfl, ln, _, _, _, rfl, rfl, SqL.of (s1 _ _ hn), gN, _, rfl, d, _, rfl, dg "limits" _ s1 b4.l, _, rfl, ll, _, _, _, rfl, rfl, SqL.of (s1 _ _ hl), gL,
        _, rfl, d, _, rfl, dg "heeds" _ s1 b4.h, _, rfl, lh, _, _, _, rfl, rfl, SqL.of (s1 _ _ hh), gH, rfl, rfl, fun x dx nx ndx ne => ?_⟩
      have s2 : Same H' (upd (upd H' dx (.own x)) x (.ins Ct dx [])) := fun b o e => by rw [upd_ne (ne_of_none e nx), upd_ne (ne_of_none e ndx)]; exact e
      refine ⟨x, dx, ptAt pl i, rfl, gt, upd_same, fun H2 sb ex => ⟨rfl, ?_⟩⟩
      have s3 : Same H' H2 := fun b o e => sb b o (ne_of_none e nx) (s2 b o e)
      have eL2 := s3 _ _ eL
      refine ⟨_, eL2, ?_, rs ++ [(x, ptAt pl i)], fun b o e => ?_, fun r hr => ?_, ?_, ?_⟩
      · unfold refs
        rw [List.length_map]
        exact small1000 (by have := g.n3; omega)
      · rw [upd_ne (ne_of_none e hL)]
        exact s3 _ _ (s1 _ _ e)
      · have off : ∀ {a : Addr} {o : HO}, H2 a = some o → (∀ xs, o ≠ .lst xs) → upd H2 L (.lst (refs rs ++ [.ref x])) a = some o := fun {a o} e n => by rw [upd_ne (ne_of e eL2 (n _))]; exact e
        rcases List.mem_append.mp hr with hr | hr
        · obtain ⟨dr, e⟩ := hR r hr
          exact ⟨dr, off (s3 _ _ e) (by intro xs z; cases z)⟩
        · rw [List.mem_singleton] at hr
          rw [hr]
          exact ⟨dx, off ex (by intro xs z; cases z)⟩
      · have er : refs rs ++ [V.ref x] = refs (rs ++ [(x, ptAt pl i)]) := by unfold refs; rw [List.map_append]; rfl
        rw [er]
        exact upd_same
      · rw [List.map_append, em, List.range_succ, List.map_append]
        rfl
    · rintro H1 ⟨rs, s1, hR, eL, em⟩
      have hnm : namesOf rs = pl.names := FromPlan.names (D := ⟨rs, [], 0, 0, [], 0, true⟩) em
      have lrs : rs.length = pl.names.length := by
        have := congrArg List.length em
        simpa using this
      refine ⟨_, rfl, d, _, rfl, dg "money" _ s1 vm, _, rfl, d, _, rfl, dg "memory" _ s1 ve, _, rfl, d, _, rfl, dg "tops" _ s1 vt, (by show 3 ≤ sizeLine; decide), fun u hu' => ?_⟩
      have q2 : Same H1 (upd H1 u (.lst [.int pl.money, .ref pl.mem, .int pl.tops])) := fun b o e => by rw [upd_ne (ne_of_none e hu')]; exact e
      have s2 := s1.trans q2
      have e2 : upd H1 u (.lst [.int pl.money, .ref pl.mem, .int pl.tops]) u = some (.lst [.int pl.money, .ref pl.mem, .int pl.tops]) := upd_same
      have eL2 := q2 _ _ eL
      have hR2 := hR.same q2
      clear q2
      generalize upd H1 u (.lst [.int pl.money, .ref pl.mem, .int pl.tops]) = H2 at s2 e2 eL2 hR2
      refine ⟨_, rfl, _, rfl, d, _, rfl, dg "links" _ s2 b4.k, lk, _, rfl, .inl (SqL.of (s2 _ _ hk)), fun l hl' => ?_⟩
      have q3 : Same H2 (upd H2 l (.lst (refs pl.ls))) := fun b o e => by rw [upd_ne (ne_of_none e hl')]; exact e
      have s3 := s2.trans q3
      have e3 : upd H2 l (.lst (refs pl.ls)) l = some (.lst (refs pl.ls)) := upd_same
      have e2' := q3 _ _ e2
      have eL3 := q3 _ _ eL2
      have hR3 := hR2.same q3
      clear q3
      generalize upd H2 l (.lst (refs pl.ls)) = H3 at s3 e3 e2' eL3 hR3
      refine ⟨_, rfl, u, _, _, _, rfl, rfl, SqL.of e2', atI_nat (j := 0) rfl, _, rfl, u, _, _, _, rfl, rfl, SqL.of e2', atI_nat (j := 1) rfl, _, rfl, u, _, _, _, rfl, rfl, SqL.of e2', atI_nat (j := 2) rfl, _, rfl, d, _, rfl, dg "numbered" _ s3 vn, rfl, rfl, fun x dx nx ndx _ => ?_⟩
      have gd : GoodD ⟨rs, pl.ls, pl.money, pl.mem, pl.memx, pl.tops, pl.nb⟩ := ⟨by show 1 ≤ rs.length; rw [lrs]; exact g.n1, by show rs.length ≤ 4; rw [lrs]; have := g.n3; omega, by show (namesOf rs).Nodup; rw [hnm]; exact g.nd,
        fun r hr => by
          have hm : r.2 ∈ (List.range pl.names.length).map (ptAt pl) := by rw [← em]; exact List.mem_map.mpr ⟨r, hr, rfl⟩
          obtain ⟨i, hi, e⟩ := List.mem_map.mp hm
          have hi' := List.mem_range.mp hi
          rw [← e]
          have hi2 : i < pl.lims.length := by rw [g.ll]; exact hi'
          refine ⟨?_, ?_⟩
          · have : (ptAt pl i).name = pl.names[i] := by simp [ptAt, hi']
            rw [this]
            exact g.ng _ (List.getElem_mem _)
          · have : (ptAt pl i).limit = pl.lims[i] := by simp [ptAt, hi2]
            rw [this]
            exact g.lg _ (List.getElem_mem _),
        fun l hl => by show GoodL (namesOf rs) l; rw [hnm]; exact g.gl l hl, g.ndl, g.l60, g.m0, g.m9, g.mi⟩
      refine made_of (Cb := Cb) gd ⟨.inl eL3, .inl e3, hR3, hla.same s3, s3 _ _ hme⟩ nx ndx ⟨fun ht H' q' ls' s' hno hT => q H' q' _ (s3.trans s') hT ⟨good_norm gd hno, ht⟩ ⟨em, hno, rfl, rfl, rfl, rfl, rfl⟩, fun ht => absurd g.to ht⟩
/-! ### _law_state -/
def spState (Cs Cn Ct : Addr) : Sp := fun vs H Q _ => ∃ (S : Addr) (c : Tn) (past : List Tn), vs = [.ref S] ∧ SessAt Cs Cn Ct H S c past ∧ past.length ≤ 1000 ∧ ∀ l, H l = none → Q (.ref l) (upd H l (.lst [.ref c.1, .int past.length]))
theorem scState : FnScope ["_law_session"] ["_law_session"] (defScope sState) := ⟨rfl, rfl, rfl, by decide +kernel, rfl, by decide +kernel, by decide +kernel⟩
theorem ok_state {f fC fL Cs Cn Ct : Addr} {fd fdC fdL : FuncData} (F : Fun K "_law_state" "_law_state" sState f fd) (B : Bl mg) (S_ : SessK K mg Cs) (GC : FnOk P w K mg base CX0 1 fC fdC ["self"] (spCurrent Cs Cn Ct)) (mC : Mn K Cs "current" fC fdC ["self"]) (GL : FnOk P w K mg base CX0 1 fL fdL ["self"] (spSLen Cs Cn Ct)) (mL : Mn K Cs "__len__" fL fdL ["self"]) :
    FnOk P w K mg base CX0 3 f fd ["_law_session"] (spState Cs Cn Ct) := by
  refine F.ok scState (fun vs H Q E h => ?_) (fun cdv A outer s H vs Q E hr h => ?_)
  · obtain ⟨S, c, past, rfl, _⟩ := h
    rfl
  · obtain ⟨S, c, past, rfl, hA, hl, q⟩ := h
    obtain ⟨dx, t, hS, ht⟩ := hA.at_
    have hr1 : Room 1 _ := hr.mono (by decide)
    refine ⟨_, pss_one (ps_ret (pe_lst (pa_cons (pe_meth0 (pv 0) S_.cl mC.m GC hr1 mC.b .nil pass0) (pa_cons (pe_callB (KO.call_lenO (E := E0) GL mL.m hr mL.b pass0) (by rfl) B.len PySem.boot_len (pa_cons (pv 0) pa_nil)) pa_nil)))), ?_⟩
    refine ⟨_, rfl, S, dx, _, rfl, hS, sf_no _ _ (by decide), S, c, past, rfl, hA, _, rfl, S, dx, _, rfl, hS, S, c, past, rfl, hA, _, rfl, ⟨by omega, by omega⟩, (by show 2 ≤ sizeLine; decide), fun l hl' => q l hl'⟩
/-! ### _law_visit -/
theorem uniq_name {rs : Rs} (nd : (namesOf rs).Nodup) {a b : Addr × TillD} (ha : a ∈ rs) (hb : b ∈ rs) (e : a.2.name = b.2.name) : a = b := by
  induction rs with
  | nil => cases ha
  | cons x r ih =>
    have nd' : x.2.name ∉ namesOf r ∧ (namesOf r).Nodup := List.nodup_cons.mp nd
    rcases List.mem_cons.mp ha with ea | ha
    · rcases List.mem_cons.mp hb with eb | hb
      · rw [ea, eb]
      · rw [ea] at e
        exact absurd (List.mem_map.mpr ⟨b, hb, e.symm⟩) nd'.1
    · rcases List.mem_cons.mp hb with eb | hb
      · rw [eb] at e
        exact absurd (List.mem_map.mpr ⟨a, ha, e⟩) nd'.1
      · exact ih nd'.2 ha hb
def told5 : List V := [.bl true, .bl true, .bl true, .int 9, .int 9]
def spVisit (Cs Cn Ct : Addr) : Sp := fun vs H Q _ => ∃ (S : Addr) (z : Str) (c : Tn) (past : List Tn), vs = [.ref S, .ref S, .str z] ∧ SessAt Cs Cn Ct H S c past ∧ past.length ≤ 90 ∧ GoodN z ∧ z ∈ namesOf c.2.rs ∧
  ∀ H' l c' past', SameB S H H' → SessAt Cs Cn Ct H' S c' past' → past'.length = past.length + 2 → H' l = some (.lst told5) → Q (.ref l) H'
abbrev nVi : List Str := ["_law_session", "_law_one", "_law_name", "_law_same"]
theorem scVi : FnScope nVi ["_law_session", "_law_one", "_law_name"] (defScope sVisit) := ⟨rfl, rfl, rfl, by decide +kernel, rfl, by decide +kernel, by decide +kernel⟩
structure SessG (P : Program) (w : World) (K : PySem.W.Frag) (mg : Str → Option Value) (base : Heap) (Cs Cn Ct Cb : Addr) (fC fL fP fA : Addr) (fdC fdL fdP fdA : FuncData) : Prop where
  S_ : SessK K mg Cs
  GC : FnOk P w K mg base CX0 1 fC fdC ["self"] (spCurrent Cs Cn Ct)
  mC : Mn K Cs "current" fC fdC ["self"]
  GL : FnOk P w K mg base CX0 1 fL fdL ["self"] (spSLen Cs Cn Ct)
  mL : Mn K Cs "__len__" fL fdL ["self"]
  GP : FnOk P w K mg base (L2.CX P w) 9 fP fdP ["self", "till"] (spPut Cs Cn Ct)
  mP : Mn K Cs "put" fP fdP ["self", "till"]
  GA : FnOk P w K mg base (L2.CX P w) 9 fA fdA ["self", "part", "value"] (spAssign Cs Cn Ct Cb)
  mA : Mn K Cs "assign" fA fdA ["self", "part", "value"]
theorem ok_visit {f fI fE fG Cs Cn Ct Cb fC fL fP fA : Addr} {fd fdI fdE fdG fdC fdL fdP fdA : FuncData} {ds : List Value} (F : Fun K "_law_visit" "_law_visit" sVisit f fd) (B : Bl mg) (G : SessG P w K mg base Cs Cn Ct Cb fC fL fP fA fdC fdL fdP fdA) (T : TownK K mg Cn) (TT : TillK K mg Ct)
    (MT : Mk K Ct fI) (GI : FnOk P w K mg base CX0 3 fI fdI ["self", "name", "limit", "heeds"] (spTillInit Ct)) (bI : Binds K fdI ["self", "name", "limit", "heeds"] ds) (vI : Vals [V.bl true] ds)
    (GE : FnOk P w K mg base CX0 4 fE fdE ["self", "other"] (spEq (NEq Cn Ct))) (mE : Mn K Cn "__eq__" fE fdE ["self", "other"]) (GG : FnOk P w K mg base CX0 1 fG fdG ["self", "name"] (spGet Cn Ct)) (mG : Mn K Cn "__getitem__" fG fdG ["self", "name"]) (hfn : PySem.W.fnIn K fG = true) :
    FnOk P w K mg base CX0 10 f fd ["_law_session", "_law_one", "_law_name"] (spVisit Cs Cn Ct) := by
  refine F.ok scVi (fun vs H Q E h => ?_) (fun cdv A outer s H vs Q E hr h => ?_)
  · obtain ⟨S, z, c, past, rfl, _⟩ := h
    rfl
  · obtain ⟨S, z, c, past, rfl, hA, hl, gz, mz, q⟩ := h
    have hr1 : Room 1 _ := hr.mono (by decide)
    have hr2 : Room 2 _ := hr.mono (by decide)
    have hr4 : Room 4 _ := hr.mono (by decide)
    have S_ := G.S_
    refine ⟨_, pss_cons (ps_expr (pe_meth (E := E0) (pv 1) S_.cl G.mP.m G.GP hr G.mP.b .nil passL (pa_cons (pe_make MT GI hr4 (by rfl) TT.m bI vI pass0 (pa_cons (pv 2) (pa_cons pe_int pa_nil))) pa_nil)))
      (pss_cons (ps_set (i := 3) scVi.nd rfl (Or.inl rfl) (pe_lst (pa_cons (pe_cmpR op_eq (pe_callB (KO.call_lenO (E := E0) G.GL G.mL.m hr2 G.mL.b pass0) (by rfl) B.len PySem.boot_len (pa_cons (pv 1) pa_nil)) (pe_callB (KO.call_lenO (E := E0) G.GL G.mL.m hr2 G.mL.b pass0) (by rfl) B.len PySem.boot_len (pa_cons (pv 0) pa_nil)) (nomark _))
        (pa_cons (pe_cmpR (op_eqG (rcG_ins (E := E0) GE mE.m.at_ mE.m.fn mE.b pass0) hr4) (pe_meth0 (pv 1) S_.cl G.mC.m G.GC hr1 G.mC.b .nil pass0) (pe_meth0 (pv 0) S_.cl G.mC.m G.GC hr1 G.mC.b .nil pass0) (nomark _)) pa_nil))))
      (pss_cons (ps_expr (pe_meth (E := E0) (pv 0) S_.cl G.mA.m G.GA hr G.mA.b .nil passL (pa_cons pe_str (pa_cons pe_int pa_nil))))
      (pss_one (ps_ret (pe_op op_cat (pv 3) (pe_lst (pa_cons (pe_cmpR (op_eqG (rcG_ins (E := E0) GE mE.m.at_ mE.m.fn mE.b pass0) hr4) (pe_meth0 (pv 1) S_.cl G.mC.m G.GC hr1 G.mC.b .nil pass0) (pe_meth0 (pv 0) S_.cl G.mC.m G.GC hr1 G.mC.b .nil pass0) (nomark _))
        (pa_cons (pe_fld (pe_meth0 (pv 1) S_.cl G.mC.m G.GC hr1 G.mC.b .nil pass0) rfl) (pa_cons (pe_fld (KO.pe_subO (E := E0) GG mG.m hfn hr2 mG.b pass0 (pe_meth0 (pv 1) S_.cl G.mC.m G.GC hr1 G.mC.b .nil pass0) (pv 2)) rfl) pa_nil))))))))), ?_⟩
    obtain ⟨dS, t, hS, ht⟩ := hA.at_
    -- put
    refine ⟨_, rfl, S, dS, _, rfl, hS, sf_no _ _ (by decide), _, rfl, fun x dx nx ndx ne => ?_⟩
    have s2 : Same H (upd (upd H dx (.own x)) x (.ins Ct dx [])) := fun b o e => by rw [upd_ne (ne_of_none e nx), upd_ne (ne_of_none e ndx)]; exact e
    refine ⟨x, dx, ⟨z, 9, true⟩, rfl, ⟨gz, (by show (0 : Int) ≤ 9; decide), (by show (9 : Int) ≤ 9; decide)⟩, upd_same, fun H1 sb ex => ⟨rfl, ?_⟩⟩
    have s1 : Same H H1 := fun b o e => sb b o (ne_of_none e nx) (s2 b o e)
    refine ⟨S, x, ⟨z, 9, true⟩, c, past, rfl, hA.same s1, by omega, ⟨dx, ex⟩, ⟨gz, (by show (0 : Int) ≤ 9; decide), (by show (9 : Int) ≤ 9; decide)⟩, mz, fun H2 n j ls' sb2 hj hA2 => ?_⟩
    have sb02 : SameB S H H2 := (SameB.of s1).then sb2
    generalize hc2 : ((n, { wD c.2 j x ⟨z, 9, true⟩ with ls := ls' }) : Tn) = c2 at hA2
    have hrs2 : c2.2.rs = c.2.rs.set j (x, ⟨z, 9, true⟩) := by rw [← hc2]; rfl
    obtain ⟨d2, t2, hS2, ht2⟩ := hA2.at_
    obtain ⟨dn, row2, lk2, hn2, _⟩ := hA2.now
    have lp2 : (past ++ [c]).length = past.length + 1 := by rw [List.length_append]; rfl
    -- the first comparisons
    refine ⟨_, rfl, S, d2, _, rfl, hS2, S, c2, _, rfl, hA2, _, rfl, ⟨by omega, by omega⟩, _, rfl, S, d2, _, rfl, hS2, S, c2, _, rfl, hA2, _, rfl, ⟨by omega, by omega⟩, rfl, ?_⟩
    rw [decide_eq_true rfl]
    refine ⟨_, rfl, S, d2, _, rfl, hS2, sf_no _ _ (by decide), S, c2, _, rfl, hA2, _, rfl, S, d2, _, rfl, hS2, sf_no _ _ (by decide), S, c2, _, rfl, hA2,
      ⟨c2.1, c2.1, dn, dn, _, _, rfl, rfl, hn2, hn2, c2.2, c2.2, hA2.now, hA2.now, ⟨rfl, rfl, rfl, rfl, rfl, rfl⟩⟩, fun H3 s3 => ⟨(by show 2 ≤ sizeLine; decide), fun l1 hl1 => ?_⟩⟩
    have q4 : Same H2 (upd H3 l1 (.lst [.bl true, .bl true])) := fun b o e => by rw [upd_ne (ne_of_none (s3 _ _ e) hl1)]; exact s3 _ _ e
    have e4 : upd H3 l1 (.lst [.bl true, .bl true]) l1 = some (.lst [.bl true, .bl true]) := upd_same
    generalize upd H3 l1 (.lst [.bl true, .bl true]) = H4 at q4 e4
    have hA4 := hA2.same q4
    have sb04 : SameB S H H4 := sb02.then (SameB.of q4)
    -- assign
    obtain ⟨d4, t4, hS4, ht4⟩ := hA4.at_
    refine ⟨_, rfl, S, d4, _, rfl, hS4, sf_no _ _ (by decide), S, "money", 9, c2, past ++ [c], rfl, hA4, by omega, .inl ⟨rfl, by decide, by decide⟩, fun _ H5 n5 ls5 sb5 hA5 => ?_, fun ht => absurd hA4.gn.2 ht⟩
    have hm5 : (chD c2.2 "money" 9).money = 9 := rfl
    have hr5 : (chD c2.2 "money" 9).rs = c2.2.rs := rfl
    generalize hc5 : ((n5, { chD c2.2 "money" 9 with ls := ls5 }) : Tn) = c5 at hA5
    have hmon : c5.2.money = 9 := by rw [← hc5]; exact hm5
    have hrs5 : c5.2.rs = c.2.rs.set j (x, ⟨z, 9, true⟩) := by rw [← hc5, ← hrs2]; exact hr5
    obtain ⟨d5, t5, hS5, ht5⟩ := hA5.at_
    obtain ⟨dn5, row5, lk5, hn5, _⟩ := hA5.now
    have l1S : l1 ≠ S := ne_of e4 hS4 (by intro z; cases z)
    have e5 := sb5 _ _ l1S e4
    refine ⟨_, rfl, _, rfl, S, d5, _, rfl, hS5, sf_no _ _ (by decide), S, c5, _, rfl, hA5, _, rfl, S, d5, _, rfl, hS5, sf_no _ _ (by decide), S, c5, _, rfl, hA5,
      ⟨c5.1, c5.1, dn5, dn5, _, _, rfl, rfl, hn5, hn5, c5.2, c5.2, hA5.now, hA5.now, ⟨rfl, rfl, rfl, rfl, rfl, rfl⟩⟩, fun H6 s6 => ?_⟩
    have hA6 := hA5.same s6
    have hS6 := s6 _ _ hS5
    have hn6 := s6 _ _ hn5
    refine ⟨_, rfl, S, d5, _, rfl, hS6, sf_no _ _ (by decide), S, c5, _, rfl, hA6, c5.1, Cn, dn5, _, _, rfl, hn6, T.ic.cl, T.n3, nf_money _ _ _, ?_⟩
    rw [hmon]
    have hjl : j < c.2.rs.length := by
      have := (List.getElem?_eq_some_iff.mp hj).1
      unfold namesOf at this
      rwa [List.length_map] at this
    have nms5 : namesOf c5.2.rs = namesOf c.2.rs := by rw [hrs5]; exact names_set hj
    refine ⟨_, rfl, S, d5, _, rfl, hS6, sf_no _ _ (by decide), S, c5, _, rfl, hA6, _, rfl, c5.1, dn5, _, rfl, hn6, c5.1, z, c5.2, rfl, hA6.now, hA6.gn.1.l4, by rw [nms5]; exact mz, fun r hr er => ?_⟩
    have hin : ((x, ⟨z, 9, true⟩) : Addr × TillD) ∈ c5.2.rs := by
      rw [hrs5]
      exact List.mem_of_getElem? (List.getElem?_set_self hjl)
    have er' : r = (x, ⟨z, 9, true⟩) := uniq_name hA6.gn.1.nd hr hin er
    obtain ⟨_, _, _, _, _, _, hRs, _, _⟩ := hA6.now
    obtain ⟨dr, e6⟩ := hRs r hr
    rw [er'] at e6 ⊢
    refine ⟨x, Ct, dr, _, _, rfl, e6, TT.ic.cl, TT.n2, tf_limit _, (by show 3 ≤ sizeLine; decide), fun l2 hl2 => ?_⟩
    have q7 : Same H6 (upd H6 l2 (.lst [.bl true, .int 9, .int 9])) := fun b o e => by rw [upd_ne (ne_of_none e hl2)]; exact e
    have e7 : upd H6 l2 (.lst [.bl true, .int 9, .int 9]) l2 = some (.lst [.bl true, .int 9, .int 9]) := upd_same
    have e47 := q7 _ _ (s6 _ _ e5)
    refine ⟨l1, l2, _, _, rfl, rfl, e47, e7, (by show 5 ≤ sizeLine; decide), fun l3 hl3 => ?_⟩
    have q8 : Same H5 (upd (upd H6 l2 (.lst [.bl true, .int 9, .int 9])) l3 (.lst told5)) := fun b o e => by
      have e1 := q7 _ _ (s6 _ _ e)
      rw [upd_ne (ne_of_none e1 hl3)]
      exact e1
    exact q _ l3 c5 _ ((sb04.then sb5).then (SameB.of q8)) (hA5.same q8) (by rw [List.length_append, lp2]; rfl) upd_same
/-! ### _law_undoing -/
def firstOf (c : Tn) : List Tn → Tn
  | [] => c
  | x :: _ => x
theorem first_snoc (c x : Tn) : ∀ past : List Tn, firstOf c (past ++ [x]) = firstOf x past
  | [] => rfl
  | _ :: _ => rfl
def spUndoing (Cs Cn Ct : Addr) : Sp := fun vs H Q _ => ∃ (S : Addr) (c : Tn) (past : List Tn), vs = [.ref S] ∧ SessAt Cs Cn Ct H S c past ∧ past.length ≤ 20 ∧ ∀ H', SameB S H H' → SessAt Cs Cn Ct H' S (firstOf c past) [] → Q (.ref (firstOf c past).1) H'
theorem scUg : FnScope ["_law_session", "_law_turn"] ["_law_session"] (defScope sUndoing) := ⟨rfl, rfl, rfl, by decide +kernel, rfl, by decide +kernel, by decide +kernel⟩
theorem ok_undoing {f fU fC fL Cs Cn Ct Cu : Addr} {fd fdU fdC fdL : FuncData} (F : Fun K "_law_undoing" "_law_undoing" sUndoing f fd) (B : Bl mg) (S_ : SessK K mg Cs) (GC : FnOk P w K mg base CX0 1 fC fdC ["self"] (spCurrent Cs Cn Ct)) (mC : Mn K Cs "current" fC fdC ["self"]) (GL : FnOk P w K mg base CX0 1 fL fdL ["self"] (spSLen Cs Cn Ct)) (mL : Mn K Cs "__len__" fL fdL ["self"])
    (GU : FnOk P w K mg base (L2.CX P w) 3 fU fdU ["self"] (spUndo Cs Cn Ct Cu)) (mU : Mn K Cs "undo" fU fdU ["self"]) : FnOk P w K mg base CX0 4 f fd ["_law_session"] (spUndoing Cs Cn Ct) := by
  refine F.ok scUg (fun vs H Q E h => ?_) (fun cdv A outer s H vs Q E hr h => ?_)
  · obtain ⟨S, c, past, rfl, _⟩ := h
    rfl
  · obtain ⟨S, c, past, rfl, hA, hl, q⟩ := h
    have hr1 : Room 1 _ := hr.mono (by decide)
    have hr2 : Room 2 _ := hr.mono (by decide)
    refine ⟨_, pss_cons (ps_for PassesOwn.never rfl (pi_range1 (by rfl) B.range (pa_cons pe_int pa_nil)) (pg_name (i := 1) scUg.nd rfl (Or.inl rfl))
        (pss_one (ps_if (pt_cmpR op_gt (pe_callB (KO.call_lenO (E := E0) GL mL.m hr2 mL.b pass0) (by rfl) B.len PySem.boot_len (pa_cons (pv 0) pa_nil)) pe_int (nomark _)) (pss_one (ps_expr (pe_meth0 (E := E0) (pv 0) S_.cl mU.m GU hr mU.b .nil passL))) pss_nil)))
      (pss_one (ps_ret (pe_meth0 (pv 0) S_.cl mC.m GC hr1 mC.b .nil pass0))), ?_⟩
    refine ⟨20, rfl, by decide, by decide, for_range (lo := 0) (n := 20) (fun i σ H' => (∃ v, σ = [some (.ref S), v]) ∧ SameB S H H' ∧ ∃ ci pi, SessAt Cs Cn Ct H' S ci pi ∧ pi.length = past.length - i ∧ firstOf ci pi = firstOf c past)
      ⟨⟨none, rfl⟩, fun _ _ _ e => e, c, past, hA, rfl, rfl⟩ ?_ ?_⟩
    · rintro i σ H1 hi ⟨⟨v, rfl⟩, sb, ci, pi, hAi, hli, hfi⟩
      obtain ⟨d1, t1, hS1, ht1⟩ := hAi.at_
      refine ⟨_, rfl, S, d1, _, rfl, hS1, S, ci, pi, rfl, hAi, _, rfl, ⟨by omega, by omega⟩, _, _, rfl, rfl, _, rfl, ?_⟩
      refine ite2 (fun h => ?_) (fun h => ?_)
      · have h' : (0 : Int) < (pi.length : Int) := of_decide_eq_true h
        refine ⟨_, rfl, S, d1, _, rfl, hS1, sf_no _ _ (by decide), S, ci, pi, rfl, hAi, by omega, fun e => by rw [e] at h'; exact absurd h' (by decide), fun p' x e H2 sb2 hA2 => ?_⟩
        refine ⟨⟨_, rfl⟩, sb.then sb2, x, p', hA2, ?_, ?_⟩
        · have := congrArg List.length e
          rw [List.length_append] at this
          have e2 : ([x] : List Tn).length = 1 := rfl
          omega
        · rw [← hfi, e, first_snoc]
      · have h' : ¬ (0 : Int) < (pi.length : Int) := fun z => h (decide_eq_true z)
        exact ⟨⟨_, rfl⟩, sb, ci, pi, hAi, by omega, hfi⟩
    · rintro σ H1 ⟨⟨v, rfl⟩, sb, ci, pi, hAi, hli, hfi⟩
      obtain ⟨d1, t1, hS1, ht1⟩ := hAi.at_
      have hp : pi = [] := List.length_eq_zero_iff.mp (by omega)
      subst hp
      have hc : ci = firstOf c past := hfi
      rw [hc] at hAi
      rw [hc] at hS1
      exact ⟨_, rfl, S, d1, _, rfl, hS1, sf_no _ _ (by decide), S, _, [], rfl, hAi, q H1 sb hAi⟩
/-! ### _law_raising, _law_emptied -/
def spRaising (Cs Cn Ct Cb : Addr) : Sp := fun vs H _ E => ∃ (S : Addr) (z : Str) (c : Tn) (past : List Tn), vs = [.ref S, .str z] ∧ SessAt Cs Cn Ct H S c past ∧ past.length ≤ 90 ∧ GoodN z ∧ z ∈ namesOf c.2.rs ∧
  ∀ H' d c' past', SameB S H H' → SessAt Cs Cn Ct H' S c' past' → H' d = some (.xd [("part", .str "tops")]) → E (.ref Cb) (some d) H'
theorem scRg : FnScope ["_law_session", "_law_name"] ["_law_session", "_law_name"] (defScope sRaising) := ⟨rfl, rfl, rfl, by decide +kernel, rfl, by decide +kernel, by decide +kernel⟩
theorem ok_raising {f fI Cs Cn Ct Cb fC fL fP fA : Addr} {fd fdI fdC fdL fdP fdA : FuncData} {ds : List Value} (F : Fun K "_law_raising" "_law_raising" sRaising f fd) (G : SessG P w K mg base Cs Cn Ct Cb fC fL fP fA fdC fdL fdP fdA) (TT : TillK K mg Ct)
    (MT : Mk K Ct fI) (GI : FnOk P w K mg base CX0 3 fI fdI ["self", "name", "limit", "heeds"] (spTillInit Ct)) (bI : Binds K fdI ["self", "name", "limit", "heeds"] ds) (vI : Vals [V.bl true] ds) : FnOk P w K mg base (L2.CX P w) 10 f fd ["_law_session", "_law_name"] (spRaising Cs Cn Ct Cb) := by
  refine F.okX scRg (fun vs H Q E h => ?_) (fun cdv A outer s H vs Q E hr h => ?_)
  · obtain ⟨S, z, c, past, rfl, _⟩ := h
    rfl
  · obtain ⟨S, z, c, past, rfl, hA, hl, gz, mz, q⟩ := h
    have hr4 : Room 4 _ := hr.mono (by decide)
    have S_ := G.S_
    refine ⟨_, pss_cons (ps_expr (pe_meth (E := E0) (pv 0) S_.cl G.mP.m G.GP hr G.mP.b .nil passL (pa_cons (pe_make MT GI hr4 (by rfl) TT.m bI vI pass0 (pa_cons (pv 1) (pa_cons pe_int pa_nil))) pa_nil)))
      (pss_cons (ps_expr (pe_meth (pv 0) S_.cl G.mA.m G.GA hr G.mA.b .nil (passes_call (takes_of rfl rfl rfl rfl) (fun _ _ _ _ h => h)) (pa_cons pe_str (pa_cons pe_int pa_nil))))
      (pss_one (ps_ret pe_non))), ?_⟩
    obtain ⟨dS, t, hS, ht⟩ := hA.at_
    refine ⟨_, rfl, S, dS, _, rfl, hS, sf_no _ _ (by decide), _, rfl, fun x dx nx ndx ne => ?_⟩
    have s2 : Same H (upd (upd H dx (.own x)) x (.ins Ct dx [])) := fun b o e => by rw [upd_ne (ne_of_none e nx), upd_ne (ne_of_none e ndx)]; exact e
    refine ⟨x, dx, ⟨z, 8, true⟩, rfl, ⟨gz, (by show (0 : Int) ≤ 8; decide), (by show (8 : Int) ≤ 9; decide)⟩, upd_same, fun H1 sb ex => ⟨rfl, ?_⟩⟩
    have s1 : Same H H1 := fun b o e => sb b o (ne_of_none e nx) (s2 b o e)
    refine ⟨S, x, ⟨z, 8, true⟩, c, past, rfl, hA.same s1, by omega, ⟨dx, ex⟩, ⟨gz, (by show (0 : Int) ≤ 8; decide), (by show (8 : Int) ≤ 9; decide)⟩, mz, fun H2 n j ls' sb2 hj hA2 => ?_⟩
    have sb02 : SameB S H H2 := (SameB.of s1).then sb2
    obtain ⟨d2, t2, hS2, ht2⟩ := hA2.at_
    have lp2 : (past ++ [c]).length = past.length + 1 := by rw [List.length_append]; rfl
    refine ⟨_, rfl, S, d2, _, rfl, hS2, sf_no _ _ (by decide), S, "tops", 6, _, past ++ [c], rfl, hA2, by omega, .inr rfl, fun ht => absurd ht.2 (by show ¬ (6 : Int) ≤ 5; decide), fun _ d H3 s3 hd => ?_⟩
    exact q H3 d _ _ (sb02.then (SameB.of s3)) (hA2.same s3) hd
def spEmptied (Cs Cn Ct Cu : Addr) : Sp := fun vs H _ E => ∃ (S : Addr) (c : Tn) (past : List Tn), vs = [.ref S] ∧ SessAt Cs Cn Ct H S c past ∧ past.length ≤ 19 ∧
  ∀ H' d c' past', SameB S H H' → SessAt Cs Cn Ct H' S c' past' → H' d = some (.xd [("name", .str "undo")]) → E (.ref Cu) (some d) H'
theorem scEm : FnScope ["_law_session", "_law_turn"] ["_law_session"] (defScope sEmptied) := ⟨rfl, rfl, rfl, by decide +kernel, rfl, by decide +kernel, by decide +kernel⟩
theorem ok_emptied {f fU Cs Cn Ct Cu : Addr} {fd fdU : FuncData} (F : Fun K "_law_emptied" "_law_emptied" sEmptied f fd) (B : Bl mg) (S_ : SessK K mg Cs) (GU : FnOk P w K mg base (L2.CX P w) 3 fU fdU ["self"] (spUndo Cs Cn Ct Cu)) (mU : Mn K Cs "undo" fU fdU ["self"]) : FnOk P w K mg base (L2.CX P w) 4 f fd ["_law_session"] (spEmptied Cs Cn Ct Cu) := by
  refine F.okX scEm (fun vs H Q E h => ?_) (fun cdv A outer s H vs Q E hr h => ?_)
  · obtain ⟨S, c, past, rfl, _⟩ := h
    rfl
  · obtain ⟨S, c, past, rfl, hA, hl, q⟩ := h
    refine ⟨_, pss_one (ps_for (passes_of rfl) rfl (pi_range1 (by rfl) B.range (pa_cons pe_int pa_nil)) (pg_name (i := 1) scEm.nd rfl (Or.inl rfl)) (pss_one (ps_expr (pe_meth0 (pv 0) S_.cl mU.m GU hr mU.b .nil (passes_call (takes_of rfl rfl rfl rfl) (fun _ _ _ _ h => h)))))), ?_⟩
    refine ⟨20, rfl, by decide, by decide, for_range (lo := 0) (n := 20) (fun i σ H' => (∃ v, σ = [some (.ref S), v]) ∧ SameB S H H' ∧ i ≤ past.length ∧ ∃ ci pi, SessAt Cs Cn Ct H' S ci pi ∧ pi.length = past.length - i)
      ⟨⟨none, rfl⟩, fun _ _ _ e => e, Nat.zero_le _, c, past, hA, rfl⟩ ?_ ?_⟩
    · rintro i σ H1 hi ⟨⟨v, rfl⟩, sb, hip, ci, pi, hAi, hli⟩
      obtain ⟨d1, t1, hS1, ht1⟩ := hAi.at_
      refine ⟨_, rfl, S, d1, _, rfl, hS1, sf_no _ _ (by decide), S, ci, pi, rfl, hAi, by omega, fun e d H' s' hd => q H' d ci pi (sb.then (SameB.of s')) (hAi.same s') hd, fun p' x e H2 sb2 hA2 => ?_⟩
      have hlen := congrArg List.length e
      rw [List.length_append] at hlen
      have e2 : ([x] : List Tn).length = 1 := rfl
      exact ⟨⟨_, rfl⟩, sb.then sb2, by omega, x, p', hA2, by omega⟩
    · rintro σ H1 ⟨_, _, hip, _⟩
      exact absurd hip (by omega)
end
end CT
set_option Elab.async false
set_option linter.all false
set_option maxRecDepth 100000
set_option maxHeartbeats 4000000
/-! W15: the visitors; _law_inner, _law_refused -/
namespace KL
open PySem PySem.Spec PyProof.Rows L2 LamX NdefX
/-! ### a def whose code object is known -/
structure FunC (K : PySem.W.Frag) (x qual : Str) (st : Stmt) (f : Addr) (fd : FuncData) (cd : Value) : Prop where
  ex : ∃ (oc : Value) (od : Option Addr) (kV doc pm : Value) (an : Option Addr) (ct : Value) (osl : Array (Option Value)),
    fd = PySem.W.fnOf x qual (defArgs st) (defBody st) (defScope st) .none kV doc pm an cd ct ∧ K.lookup f = some ⟨oc, od, .func fd, osl⟩ ∧ PySem.W.codeIn K cd qual = true
  kp : PySem.W.keepIn K (.ref f) = true
theorem FunC.toFun {K : PySem.W.Frag} {x qual : Str} {st : Stmt} {f : Addr} {fd : FuncData} {cd : Value} (F : FunC K x qual st f fd cd) : Fun K x qual st f fd := by
  obtain ⟨oc, od, kV, doc, pm, an, ct, osl, e, l, c⟩ := F.ex
  exact ⟨⟨oc, od, kV, doc, pm, an, cd, ct, osl, e, l, c⟩, F.kp⟩
theorem okSC {P : Program} {w : World} {K : PySem.W.Frag} {mg : Str → Option Value} {base : Heap} {x qual : Str} {st : Stmt} {f : Addr} {fd : FuncData} {cd : Value} {N ps : List Str} {k : Nat} {sp : SpS} (F : FunC K x qual st f fd cd) (S : FnScope N ps (defScope st))
    (len : ∀ outer s vs H Q E, sp outer s vs H Q E → vs.length = ps.length)
    (hbody : ∀ (A : Around) (outer : List Env) (s : Shared) (H : Hp) (vs : List V) (Q : VK) (E : XK), Room k (A.deeper (envOfC qual (defScope st) s.heap.objs.size f cd)) → Env0 P w K mg base A outer s H → sp outer s vs H Q E →
      ∃ t, PSs (cxOf (L2.CX P w) P w K mg base N qual (defScope st) f cd A outer s H E) (defBody st) t ∧ t { nx := fun _ H' => Q .non H', rt := Q } (L2.start N vs) H) : FnS P w K mg base (k + 1) f fd ps sp := by
  obtain ⟨oc, od, kV, doc, pm, an, ct, osl, rfl, lk, hcd⟩ := F.ex
  refine ⟨len, fun A outer s H args us vs Q E hr e0 hb r hsp => ?_⟩
  have hl := len _ _ _ _ _ _ hsp
  have KX : K.In s.heap := e0.mod.kin.keeps fun b o e => (e0.bs b o e).1
  have lim : s.heap.NoLimit := e0.mod.nolimit.keeps fun b o e => (e0.bs b o e).1
  have hkind : ∀ y ∈ ps.zip us, (defScope st).names.lookup y.1 = some .local ∨ ((defScope st).names.lookup y.1 = some .cell ∧ ((cellsFrom (s.heap.objs.size + 1) (defScope st).names []).lookup y.1).isSome = true) := fun ⟨n, v⟩ hy => by
    rcases S.par n (List.of_mem_zip hy).1 with q | q
    · exact .inl q
    · exact .inr ⟨q, PySem.W.cellsFrom_some _ _ _ (.inl q)⟩
  refine codeAny_call_function hr.depth (KX _ _ lk) rfl S.co S.gen rfl (PySem.W.codeRec_of KX hcd) (hb _ _ _ _ ?_)
  refine wpAny_newFunctionEnv_cells S.kind hkind fun env he s1 x => ?_
  subst he
  refine ⟨lim.keeps x.toInCall.keep, codeAny_func ?_⟩
  obtain ⟨t, ht, hq⟩ := hbody A outer s H vs Q E (hr.deeper _) e0 hsp
  have I : Inv (cxOf (L2.CX P w) P w K mg base N qual (defScope st) f cd A outer s H E) [] (L2.start N vs) H s1 := inv_start S hr.hd e0 hl r x
  refine wpAny_mono (ht.run [] s1 (L2.start N vs) H _ I hq) (fun fl s' hs => ?_) fun e s' hs => hs
  have fin : ∀ {σ' : L2.St} {H' : Hp} {v : V} {u : Value}, Inv (cxOf (L2.CX P w) P w K mg base N qual (defScope st) f cd A outer s H E) [] σ' H' s' → L2.RelV v u → Q v H' → CE outer P w H s Q u s' :=
    fun {σ' H' v u} J rv q => ⟨v, H', J.os, J.bare, J.base, J.hok, rv, q⟩
  cases fl with
  | ret u =>
    obtain ⟨v, σ', H', J, rv, q⟩ := hs
    exact fin J rv q
  | next =>
    obtain ⟨σ', H', J, q⟩ := hs
    exact fin (v := V.non) (u := Value.none) J rfl q
  | brk =>
    obtain ⟨_, _, _, q⟩ := hs
    exact False.elim q
  | cont =>
    obtain ⟨_, _, _, q⟩ := hs
    exact False.elim q
/-- the name that holds the lambda, handed on as the last argument -/
def tVisA (i : Nat) (F : LF) (f : Addr) (fr : List Str) (ws : List (Option V)) (outer : List Env) : TAS := fun σ H Q => σ[i]? = some (some (.ref f)) ∧ H F.c = some (CodeO F.c F.qual) ∧ ∀ s1, VisAt F f fr ws outer s1 H → Q [.ref f] H s1
theorem pas_var {X : Cx} {i : Nat} {F : LF} {f : Addr} {fr : List Str} {ws : List (Option V)} {x : Str} {p : Pos} (V0 : VisAt F f fr ws X.outer X.s_0 X.H_0) (hs : X.stack = X.env :: X.outer) (hf : X.env.frame = some X.env.locals) (hex : X.ex = [])
    (hN : X.N[i]? = some x) (hv : Vis X.env.scope x) (hd : (x == ("__debug__" : Str)) = false := by decide) (hcd : (x == ("__classdict__" : Str)) = false := by decide) : PAS X [.Name x p] (tVisA i F f fr ws X.stack) := by
  refine ⟨fun pos pins s σ H Q I h => ?_⟩
  obtain ⟨hsl, hc, h⟩ := h
  show wpAny _ _ (spliced ((false, eval (.Name x p) X.env) :: backTo pos (starEach [] X.env))) _ _ s
  refine Calls.spliced_cons (thn ((pe_var (pos := p) hN hv hd hcd).run pins s σ H (fun v H1 => v = .ref f ∧ H1 = H) I ⟨.ref f, hsl, rfl, rfl⟩) fun u s1 ⟨v, H1, I1, r1, q1⟩ => ?_)
  obtain ⟨ev, eH⟩ := q1
  subst ev
  rw [eH] at I1
  exact Calls.spliced_nil ⟨[.ref f], H, I1, .cons r1 .nil, h s1 (V0.later hs hf hex I1 hc)⟩
end KL
namespace CT
open PySem L2 LamX NdefX
/-! ### the lambdas' texts -/
def forBody (s : Stmt) : List Stmt := match s with
  | .For _ _ b _ _ => b
  | _ => []
def asgVal (s : Stmt) : Expr := match s with
  | .Assign _ e _ => e
  | _ => .Name "x" ⟨0, 0, 0, 0⟩
def ifTest (s : Stmt) : Expr := match s with
  | .If t _ _ _ => t
  | _ => .Name "x" ⟨0, 0, 0, 0⟩
def argOf (i : Nat) (e : Expr) : Expr := match e with
  | .Call _ as _ _ => as.getD i (.Name "x" ⟨0, 0, 0, 0⟩)
  | _ => .Name "x" ⟨0, 0, 0, 0⟩
def boolOf (e : Expr) : Expr := match e with
  | .BoolOp _ es _ => es.getD 0 (.Name "x" ⟨0, 0, 0, 0⟩)
  | _ => .Name "x" ⟨0, 0, 0, 0⟩
def leftOf (e : Expr) : Expr := match e with
  | .Compare a _ _ _ => a
  | _ => .Name "x" ⟨0, 0, 0, 0⟩
def lamArgs (e : Expr) : Arguments := match e with
  | .Lambda a _ _ _ => a
  | _ => { posonlyargs := [], args := [], vararg := none, kwonlyargs := [], kw_defaults := [], kwarg := none, defaults := [] }
def lamBody (e : Expr) : Expr := match e with
  | .Lambda _ b _ _ => b
  | _ => .Name "x" ⟨0, 0, 0, 0⟩
def lamScope (e : Expr) : Scope := match e with
  | .Lambda _ _ sc _ => sc
  | _ => { kind := .function, names := [], isGenerator := false, isCoroutine := false }
def lawS (i : Nat) : Stmt := (forBody ((defBody sLaw).getD 0 (.Pass ⟨0, 0, 0, 0⟩))).getD i (.Pass ⟨0, 0, 0, 0⟩)
abbrev xVisit : Expr := argOf 0 (asgVal (lawS 6))
abbrev xUndoing : Expr := argOf 0 (leftOf (boolOf (ifTest (lawS 8))))
abbrev xInner : Expr := argOf 0 (leftOf (ifTest (lawS 9)))
abbrev xRaising : Expr := argOf 1 (asgVal (lawS 10))
abbrev xEmptied : Expr := argOf 1 (leftOf (boolOf (ifTest (lawS 12))))
abbrev xWithin : Expr := argOf 0 (asgVal ((defBody sInner).getD 0 (.Pass ⟨0, 0, 0, 0⟩)))
theorem nsVisit : NScope ["_law_one", "_law_name", "_law_session"] ["_law_one"] ["_law_name", "_law_session"] (lamScope xVisit) := nscope_by (by decide +kernel)
theorem nsUndoing : NScope ["_law_one"] ["_law_one"] [] (lamScope xUndoing) := nscope_by (by decide +kernel)
theorem nsInner : NScope ["_law_one", "_law_name"] ["_law_one"] ["_law_name"] (lamScope xInner) := nscope_by (by decide +kernel)
theorem nsRaising : NScope ["_law_one", "_law_name"] ["_law_one"] ["_law_name"] (lamScope xRaising) := nscope_by (by decide +kernel)
theorem nsEmptied : NScope ["_law_one"] ["_law_one"] [] (lamScope xEmptied) := nscope_by (by decide +kernel)
theorem nsWithin : NScope ["_law_one", "_law_name"] ["_law_one"] ["_law_name"] (lamScope xWithin) := nscope_by (by decide +kernel)
section
variable {P : Program} {w : World} {K : PySem.W.Frag} {mg : Str → Option Value} {base : Heap}
open KL
/-- the visitors' promises -/
def tlVisit (Cs Cn Ct S : Addr) (z : Str) : TL := fun E vs H Q => vs = [.ref S] ∧ spVisit Cs Cn Ct [.ref S, .ref S, .str z] H Q E
theorem lam_visit {F : LF} {f fV Cs Cn Ct S : Addr} {fdV : FuncData} {z : Str} (hp : F.params = lamArgs xVisit) (hb : F.body = lamBody xVisit) (hs : F.scope = lamScope xVisit) (GV : FnOk P w K mg base CX0 10 fV fdV ["_law_session", "_law_one", "_law_name"] (spVisit Cs Cn Ct)) (dV : Dn K mg "_law_visit" fV fdV ["_law_session", "_law_one", "_law_name"]) :
    LamOk P w K mg base 13 F f ["_law_one", "_law_name", "_law_session"] ["_law_one"] ["_law_name", "_law_session"] [some (.str z), some (.ref S)] (tlVisit Cs Cn Ct S z) := by
  refine ⟨by rw [hs]; exact nsVisit, fun pm cv ctv us hl => ?_, fun E vs H Q h => ?_, fun A outer s H vs Q E hr e0 V0 h => ?_⟩
  · rw [hp]
    exact match us, hl with | [_], _ => rfl
  · rw [h.1]
    rfl
  · obtain ⟨rfl, h⟩ := h
    obtain ⟨qual, params, body, scope, cl, c⟩ := F
    simp only at hp hb hs
    subst hp hb hs
    have hr10 : Room 10 _ := hr.mono (by decide)
    refine ⟨_, pe_call GV hr10 (by rfl) dV.m dV.k dV.b .nil pass0 (pa_cons (pv 2) (pa_cons (pv 0) (pa_cons (pv 1) pa_nil))), ?_⟩
    exact ⟨_, rfl, _, rfl, _, rfl, h⟩
theorem lam_within {F : LF} {f fV Cs Cn Ct S : Addr} {fdV : FuncData} {z : Str} (hp : F.params = lamArgs xWithin) (hb : F.body = lamBody xWithin) (hs : F.scope = lamScope xWithin) (GV : FnOk P w K mg base CX0 10 fV fdV ["_law_session", "_law_one", "_law_name"] (spVisit Cs Cn Ct)) (dV : Dn K mg "_law_visit" fV fdV ["_law_session", "_law_one", "_law_name"]) :
    LamOk P w K mg base 10 F f ["_law_one", "_law_name"] ["_law_one"] ["_law_name"] [some (.str z)] (tlVisit Cs Cn Ct S z) := by
  refine ⟨by rw [hs]; exact nsWithin, fun pm cv ctv us hl => ?_, fun E vs H Q h => ?_, fun A outer s H vs Q E hr e0 V0 h => ?_⟩
  · rw [hp]
    exact match us, hl with | [_], _ => rfl
  · rw [h.1]
    rfl
  · obtain ⟨rfl, h⟩ := h
    obtain ⟨qual, params, body, scope, cl, c⟩ := F
    simp only at hp hb hs
    subst hp hb hs
    refine ⟨_, pe_call GV hr (by rfl) dV.m dV.k dV.b .nil pass0 (pa_cons (pv 0) (pa_cons (pv 0) (pa_cons (pv 1) pa_nil))), ?_⟩
    exact ⟨_, rfl, _, rfl, _, rfl, h⟩
def tlUndoing (Cs Cn Ct S : Addr) : TL := fun E vs H Q => vs = [.ref S] ∧ spUndoing Cs Cn Ct [.ref S] H Q E
theorem lam_undoing {F : LF} {f fV Cs Cn Ct S : Addr} {fdV : FuncData} (hp : F.params = lamArgs xUndoing) (hb : F.body = lamBody xUndoing) (hs : F.scope = lamScope xUndoing) (GV : FnOk P w K mg base CX0 4 fV fdV ["_law_session"] (spUndoing Cs Cn Ct)) (dV : Dn K mg "_law_undoing" fV fdV ["_law_session"]) :
    LamOk P w K mg base 13 F f ["_law_one"] ["_law_one"] [] [] (tlUndoing Cs Cn Ct S) := by
  refine ⟨by rw [hs]; exact nsUndoing, fun pm cv ctv us hl => ?_, fun E vs H Q h => ?_, fun A outer s H vs Q E hr e0 V0 h => ?_⟩
  · rw [hp]
    exact match us, hl with | [_], _ => rfl
  · rw [h.1]
    rfl
  · obtain ⟨rfl, h⟩ := h
    obtain ⟨qual, params, body, scope, cl, c⟩ := F
    simp only at hp hb hs
    subst hp hb hs
    have hr4 : Room 4 _ := hr.mono (by decide)
    refine ⟨_, pe_call GV hr4 (by rfl) dV.m dV.k dV.b .nil pass0 (pa_cons (pv 0) pa_nil), ?_⟩
    exact ⟨_, rfl, h⟩
def tlRaising (Cs Cn Ct Cb S : Addr) (z : Str) : TL := fun E vs H Q => vs = [.ref S] ∧ spRaising Cs Cn Ct Cb [.ref S, .str z] H Q E
theorem lam_raising {F : LF} {f fV Cs Cn Ct Cb S : Addr} {fdV : FuncData} {z : Str} (hp : F.params = lamArgs xRaising) (hb : F.body = lamBody xRaising) (hs : F.scope = lamScope xRaising) (GV : FnOk P w K mg base (L2.CX P w) 10 fV fdV ["_law_session", "_law_name"] (spRaising Cs Cn Ct Cb)) (dV : Dn K mg "_law_raising" fV fdV ["_law_session", "_law_name"]) :
    LamOk P w K mg base 13 F f ["_law_one", "_law_name"] ["_law_one"] ["_law_name"] [some (.str z)] (tlRaising Cs Cn Ct Cb S z) := by
  refine ⟨by rw [hs]; exact nsRaising, fun pm cv ctv us hl => ?_, fun E vs H Q h => ?_, fun A outer s H vs Q E hr e0 V0 h => ?_⟩
  · rw [hp]
    exact match us, hl with | [_], _ => rfl
  · rw [h.1]
    rfl
  · obtain ⟨rfl, h⟩ := h
    obtain ⟨qual, params, body, scope, cl, c⟩ := F
    simp only at hp hb hs
    subst hp hb hs
    have hr10 : Room 10 _ := hr.mono (by decide)
    refine ⟨_, pe_call GV hr10 (by rfl) dV.m dV.k dV.b .nil (passes_call (takes_of rfl rfl rfl rfl) (fun _ _ _ _ h => h)) (pa_cons (pv 0) (pa_cons (pv 1) pa_nil)), ?_⟩
    exact ⟨_, rfl, _, rfl, h⟩
def tlEmptied (Cs Cn Ct Cu S : Addr) : TL := fun E vs H Q => vs = [.ref S] ∧ spEmptied Cs Cn Ct Cu [.ref S] H Q E
theorem lam_emptied {F : LF} {f fV Cs Cn Ct Cu S : Addr} {fdV : FuncData} (hp : F.params = lamArgs xEmptied) (hb : F.body = lamBody xEmptied) (hs : F.scope = lamScope xEmptied) (GV : FnOk P w K mg base (L2.CX P w) 4 fV fdV ["_law_session"] (spEmptied Cs Cn Ct Cu)) (dV : Dn K mg "_law_emptied" fV fdV ["_law_session"]) :
    LamOk P w K mg base 13 F f ["_law_one"] ["_law_one"] [] [] (tlEmptied Cs Cn Ct Cu S) := by
  refine ⟨by rw [hs]; exact nsEmptied, fun pm cv ctv us hl => ?_, fun E vs H Q h => ?_, fun A outer s H vs Q E hr e0 V0 h => ?_⟩
  · rw [hp]
    exact match us, hl with | [_], _ => rfl
  · rw [h.1]
    rfl
  · obtain ⟨rfl, h⟩ := h
    obtain ⟨qual, params, body, scope, cl, c⟩ := F
    simp only at hp hb hs
    subst hp hb hs
    have hr4 : Room 4 _ := hr.mono (by decide)
    refine ⟨_, pe_call GV hr4 (by rfl) dV.m dV.k dV.b .nil (passes_call (takes_of rfl rfl rfl rfl) (fun _ _ _ _ h => h)) (pa_cons (pv 0) pa_nil), ?_⟩
    exact ⟨_, rfl, h⟩
end
end CT
set_option Elab.async false
set_option linter.all false
set_option maxRecDepth 100000
set_option maxHeartbeats 4000000
/-! W16: _law_inner, _law_refused -/
namespace CT
open PySem L2 LamX NdefX
/-! ### what stays -/
theorem TownAt.sameN {Cn Ct C S dS : Addr} {H H' : Hp} {p : Addr} {D : TownD} {fs : List (Str × V)} (h : TownAt Cn Ct H p D) (s : SameN S H H') (hS : H S = some (.ins C dS fs)) (hl : fs.length ≤ 2) : TownAt Cn Ct H' p D := by
  have at_ : ∀ {c : Addr} {o : HO}, H c = some o → o ≠ .ins C dS fs → (∀ ps, o ≠ .tbl ps) → H' c = some o := fun {c o} e n1 n2 => s c o (fun z => n1 (Option.some.inj (e.symm.trans (z ▸ hS)))) e n2
  obtain ⟨dx, row, lk, h1, h2, h3, h4, h5, h6⟩ := h
  refine ⟨dx, row, lk, at_ h1 (fun z => ?_) (by intro ps z; cases z), at_ h2 (by intro z; cases z) (by intro ps z; cases z), at_ h3 (by intro z; cases z) (by intro ps z; cases z), fun r hr => ?_, fun l hl => at_ (h5 l hl) (by intro z; cases z) (by intro ps z; cases z), at_ h6 (by intro z; cases z) (by intro ps z; cases z)⟩
  · have e := (HO.ins.inj z).2.2
    rw [← e] at hl
    exact absurd hl (by show ¬ 6 ≤ 2; decide)
  · obtain ⟨dr, e⟩ := h4 r hr
    refine ⟨dr, at_ e (fun z => ?_) (by intro ps z; cases z)⟩
    have e := (HO.ins.inj z).2.2
    rw [← e] at hl
    exact absurd hl (by show ¬ 3 ≤ 2; decide)
theorem TownAt.extN {Cn Ct : Addr} {H H' : Hp} {p : Addr} {D : TownD} (h : TownAt Cn Ct H p D) (s : ExtN H H') : TownAt Cn Ct H' p D := by
  obtain ⟨dx, row, lk, h1, h2, h3, h4, h5, h6⟩ := h
  refine ⟨dx, row, lk, s _ _ h1 (by intro ps z; cases z), s _ _ h2 (by intro ps z; cases z), s _ _ h3 (by intro ps z; cases z), fun r hr => ?_, fun l hl => s _ _ (h5 l hl) (by intro ps z; cases z), s _ _ h6 (by intro ps z; cases z)⟩
  obtain ⟨dr, e⟩ := h4 r hr
  exact ⟨dr, s _ _ e (by intro ps z; cases z)⟩
theorem SessAt.extN {Cs Cn Ct : Addr} {H H' : Hp} {S : Addr} {c : Tn} {past : List Tn} (h : SessAt Cs Cn Ct H S c past) (s : ExtN H H') : SessAt Cs Cn Ct H' S c past := by
  obtain ⟨⟨dx, t, h1, h2⟩, h3, h4, h5, h6⟩ := h
  exact ⟨⟨dx, t, s _ _ h1 (by intro ps z; cases z), s _ _ h2 (by intro ps z; cases z)⟩, h3.extN s, fun q hq => (h4 q hq).extN s, h5, h6⟩
/-- the session put back -/
theorem SessAt.back {Cs Cn Ct S dS ds' t : Addr} {H G : Hp} {c : Tn} {past : List Tn} (h : SessAt Cs Cn Ct H S c past) (hS : H S = some (.ins Cs dS (sf c.1 t))) (ht : H t = some (.tup (refs past))) (s : SameN S H G) (g : G S = some (.ins Cs ds' (sf c.1 t))) : SessAt Cs Cn Ct G S c past := by
  refine ⟨⟨ds', t, g, s _ _ (ne_of ht hS (by intro z; cases z)) ht (by intro ps z; cases z)⟩, h.now.sameN s hS (by show 2 ≤ 2; decide), fun q hq => (h.old q hq).sameN s hS (by show 2 ≤ 2; decide), h.gn, h.go⟩
theorem Tabs.sameB {T : List (Addr × Str)} {C S dS : Addr} {H H' : Hp} {fs : List (Str × V)} (h : Tabs T H) (s : SameB S H H') (hS : H S = some (.ins C dS fs)) : Tabs T H' := by
  intro p hp
  obtain ⟨ps, h1, h2, h3⟩ := h p hp
  refine ⟨ps, s.at hS h1 (by intro z; cases z), h2, fun pos cv hc => ?_⟩
  obtain ⟨c, e1, e2⟩ := h3 pos cv hc
  exact ⟨c, e1, s.at hS e2 (by intro z; have z' : HO.ext _ = HO.ins C dS fs := z; cases z')⟩
theorem sameB_upd {S : Addr} {H : Hp} {o : HO} : SameB S H (upd H S o) := fun b u n e => by rw [upd_ne n]; exact e
section
variable {P : Program} {w : World} {K : PySem.W.Frag} {mg : Str → Option Value} {base : Heap}
open KL
def spInner (T : List (Addr × Str)) (Cs Cn Ct : Addr) : SpS := fun _ _ vs H Q _ => ∃ (S : Addr) (z : Str) (c : Tn) (past : List Tn), vs = [.ref S, .str z] ∧ SessAt Cs Cn Ct H S c past ∧ past.length ≤ 80 ∧ GoodN z ∧ z ∈ namesOf c.2.rs ∧ Tabs T H ∧
  ∀ H' l lt, SameN S H H' → Tabs T H' → SessAt Cs Cn Ct H' S c past → H' lt = some (.lst told5) → H' l = some (.lst [.ref lt, .ref c.1, .int past.length]) → Q (.ref l) H'
theorem scIn : FnScope ["_law_session", "_law_name", "_law_told"] ["_law_session", "_law_name"] (defScope sInner) := ⟨rfl, rfl, rfl, by decide +kernel, rfl, by decide +kernel, by decide +kernel⟩
theorem frIn : ∀ y ∈ (lamScope xWithin).names, y.2 = .free → (defScope sInner).names.lookup y.1 = some .cell ∨ (defScope sInner).names.lookup y.1 = some .free := by decide +kernel
theorem frIn2 : ∀ y ∈ (["_law_name"] : List Str), (y, NameKind.free) ∈ (lamScope xWithin).names := by decide +kernel
theorem ok_inner {f cI PI fV fA Cs Cn Ct Cb fC fL fP fA' : Addr} {fd fdV fdA fdC fdL fdP fdA' : FuncData} {T : List (Addr × Str)} (F : FunC K "_law_inner" "_law_inner" sInner f fd (.ref cI)) (B : Bl mg) (G : SessG P w K mg base Cs Cn Ct Cb fC fL fP fA' fdC fdL fdP fdA')
    (TB : TabB base mg cI PI) (hm : (PI, (("_law_inner.<locals>.<lambda>" : Str))) ∈ T) (hu : ∀ p ∈ T, p.1 = PI → p.2 = ("_law_inner.<locals>.<lambda>" : Str))
    (GV : FnOk P w K mg base CX0 10 fV fdV ["_law_session", "_law_one", "_law_name"] (spVisit Cs Cn Ct)) (dV : Dn K mg "_law_visit" fV fdV ["_law_session", "_law_one", "_law_name"])
    (GA : FnS P w K mg base 12 fA fdA ["self", "visitor"] (spAttempt P w K mg base 10 Cs)) (mA : Mn K Cs "attempt" fA fdA ["self", "visitor"]) : FnS P w K mg base 13 f fd ["_law_session", "_law_name"] (spInner T Cs Cn Ct) := by
  refine okSC F scIn (fun outer s vs H Q E h => ?_) (fun A outer s H vs Q E hr e0 h => ?_)
  · obtain ⟨S, z, c, past, rfl, _⟩ := h
    rfl
  · obtain ⟨S, z, c, past, rfl, hA, hl, gz, mz, hT, q⟩ := h
    have hr1 : Room 1 _ := hr.mono (by decide)
    have hr2 : Room 2 _ := hr.mono (by decide)
    have S_ := G.S_
    refine ⟨_, pss_cons (ps_set (i := 2) scIn.nd rfl (Or.inl rfl) (pe_methSt (E := E0) (pv 0) S_.cl mA.m GA hr mA.b passL (pas_lam (T := T) (c := cI) (P := PI) (fr := ["_law_name"]) (js := [1]) TB rfl hm hu rfl frIn frIn2 rfl (fun _ => rfl))))
      (pss_one (ps_ret (pe_lst (pa_cons (pv 2) (pa_cons (pe_meth0 (pv 0) S_.cl G.mC.m G.GC hr1 G.mC.b .nil pass0) (pa_cons (pe_callB (KO.call_lenO (E := E0) G.GL G.mL.m hr2 G.mL.b pass0) (by rfl) B.len PySem.boot_len (pa_cons (pv 0) pa_nil)) pa_nil)))))), ?_⟩
    obtain ⟨dS, t, hS, ht⟩ := hA.at_
    refine ⟨_, rfl, S, dS, _, rfl, hS, sf_no _ _ (by decide), hT, fun vf c' H1 s1 eN nn T1 V1 => ?_⟩
    have hA1 := hA.extN eN
    have hS1 := eN _ _ hS (by intro ps z; cases z)
    have ht1 := eN _ _ ht (by intro ps z; cases z)
    refine ⟨S, vf, dS, c.1, t, _, _, _, _, _, _, rfl, lam_within (S := S) (z := z) rfl rfl rfl GV dV, V1, hS1, fun H2 E1 Q1 s2 hQ hE => ?_⟩
    refine ⟨rfl, S, z, c, past, rfl, hA1.same s2, by omega, gz, mz, fun H3 lt c3 past3 sb3 hA3 hl3 e3 => ?_⟩
    obtain ⟨d3, t3, hS3, ht3⟩ := hA3.at_
    refine hQ _ H3 d3 ⟨SameN.ofB sb3, _, _, hS3⟩ ?_
    have nltS : lt ≠ S := ne_of e3 hS3 (by intro z; cases z)
    have s13 : SameN S H1 H3 := (SameN.of s2).trans (SameN.ofB sb3)
    have s1G : SameN S H1 (upd H3 S (.ins Cs d3 (sf c.1 t))) := s13.trans (SameN.ofB sameB_upd)
    have hAG : SessAt Cs Cn Ct (upd H3 S (.ins Cs d3 (sf c.1 t))) S c past := hA1.back hS1 ht1 s1G upd_same
    have TG : Tabs T (upd H3 S (.ins Cs d3 (sf c.1 t))) := Tabs.sameB (Tabs.sameB (T1.ext s2) sb3 (s2 _ _ hS1)) sameB_upd hS3
    have eG : upd H3 S (.ins Cs d3 (sf c.1 t)) lt = some (.lst told5) := by rw [upd_ne nltS]; exact e3
    have hSG : upd H3 S (.ins Cs d3 (sf c.1 t)) S = some (.ins Cs d3 (sf c.1 t)) := upd_same
    generalize upd H3 S (.ins Cs d3 (sf c.1 t)) = GH at s1G hAG TG eG hSG
    refine ⟨_, rfl, _, rfl, S, d3, _, rfl, hSG, sf_no _ _ (by decide), S, c, past, rfl, hAG, _, rfl, S, d3, _, rfl, hSG, S, c, past, rfl, hAG, _, rfl, ⟨by omega, by omega⟩, (by show 3 ≤ sizeLine; decide), fun l hl' => ?_⟩
    have q5 : Same GH (upd GH l (.lst [.ref lt, .ref c.1, .int past.length])) := fun b o e => by rw [upd_ne (ne_of_none e hl')]; exact e
    have s0G : SameN S H GH := fun b o n e h => s1G b o n (eN b o e h) h
    exact q _ l lt (s0G.trans (SameN.of q5)) (TG.ext q5) (hAG.same q5) (q5 _ _ eG) upd_same
def tlInner (T : List (Addr × Str)) (Cs Cn Ct S : Addr) (z : Str) : TL := fun E vs H Q => vs = [.ref S] ∧ ∀ outer s, spInner T Cs Cn Ct outer s [.ref S, .str z] H Q E0
theorem lam_inner {T : List (Addr × Str)} {F : LF} {f fV Cs Cn Ct S : Addr} {fdV : FuncData} {z : Str} (hp : F.params = lamArgs xInner) (hb : F.body = lamBody xInner) (hs : F.scope = lamScope xInner) (GV : FnS P w K mg base 13 fV fdV ["_law_session", "_law_name"] (spInner T Cs Cn Ct)) (dV : Dn K mg "_law_inner" fV fdV ["_law_session", "_law_name"]) :
    LamOk P w K mg base 13 F f ["_law_one", "_law_name"] ["_law_one"] ["_law_name"] [some (.str z)] (tlInner T Cs Cn Ct S z) := by
  refine ⟨by rw [hs]; exact nsInner, fun pm cv ctv us hl => ?_, fun E vs H Q h => ?_, fun A outer s H vs Q E hr e0 V0 h => ?_⟩
  · rw [hp]
    exact match us, hl with | [_], _ => rfl
  · rw [h.1]
    rfl
  · obtain ⟨rfl, h⟩ := h
    obtain ⟨qual, params, body, scope, cl, c⟩ := F
    simp only at hp hb hs
    subst hp hb hs
    refine ⟨_, pe_callSt (E := E0) GV hr (by rfl) dV.m dV.k dV.b passL (pas_of (pa_cons (pv 0) (pa_cons (pv 1) pa_nil))), ?_⟩
    exact ⟨_, rfl, _, rfl, fun s1 => h _ s1⟩
/-! ### _law_refused -/
/-- what the except clauses want of the two classes -/
structure ErrK (K : PySem.W.Frag) (mg : Str → Option Value) (Cb Cu : Addr) : Prop where
  mb : mg "BadPart" = some (.ref Cb)
  mu : mg "NothingToUndo" = some (.ref Cu)
  xb : XfC K Cb
  xu : XfC K Cu
  nb : PySem.W.findIn K (.ref Cb) "part" = some none
  nu : PySem.W.findIn K (.ref Cu) "name" = some none
  bb : PySem.W.exmOne K (.ref Cb) (.ref Cb) = some true
  ub : PySem.W.exmOne K (.ref Cu) (.ref Cb) = some false
  uu : PySem.W.exmOne K (.ref Cu) (.ref Cu) = some true
theorem passes_len {X : Cx} {W : WX} {n : Nat} (tk : Takes X W) (hn : X.N.length = n) : Passes (L2.CX X.prog X.w) X (fun cls d H => ∀ σ : L2.St, σ.length = n → W cls d σ H) :=
  fun pins σ H s e s' I c => tk e s' (XE.of_call I (fun cls d H' h => h σ (I.len.trans hn)) c)
def spRefused (P : Program) (w : World) (K : PySem.W.Frag) (mg : Str → Option Value) (base : Heap) (Cs Cb Cu : Addr) : SpS := fun outer s vs H Q _ => ∃ (S f ds p t : Addr) (F : LF) (N ps fr : List Str) (ws : List (Option V)) (tl : TL) (C : Addr) (fld txt kind : Str),
  vs = [.ref S, .ref f] ∧ LamOk P w K mg base 13 F f N ps fr ws tl ∧ VisAt F f fr ws outer s H ∧ H S = some (.ins Cs ds (sf p t)) ∧ ((C = Cb ∧ fld = "part" ∧ kind = "part") ∨ (C = Cu ∧ fld = "name" ∧ kind = "undo")) ∧
  ∀ H1 E1 Q1, Same H H1 → (∀ d H2 ds', VisEnd Cs ds' S H1 H2 → H2 d = some (.xd [(fld, .str txt)]) → (∀ G l, Same (upd H2 S (.ins Cs ds' (sf p t))) G → G l = some (.lst [.str kind, .str txt]) → Q (.ref l) G) → E1 (.ref C) (some d) H2) → tl E1 [.ref S] H1 Q1
abbrev nRe : List Str := ["_law_session", "_law_visitor", "e"]
theorem scRe : FnScope nRe ["_law_session", "_law_visitor"] (defScope sRefused) := ⟨rfl, rfl, rfl, by decide +kernel, rfl, by decide +kernel, by decide +kernel⟩
theorem ok_refused {f fA Cs Cb Cu : Addr} {fd fdA : FuncData} (F : Fun K "_law_refused" "_law_refused" sRefused f fd) (S_ : SessK K mg Cs) (X_ : ErrK K mg Cb Cu)
    (GA : FnS P w K mg base 15 fA fdA ["self", "visitor"] (spAttempt P w K mg base 13 Cs)) (mA : Mn K Cs "attempt" fA fdA ["self", "visitor"]) : FnS P w K mg base 16 f fd ["_law_session", "_law_visitor"] (spRefused P w K mg base Cs Cb Cu) := by
  refine okS F scRe (fun outer s vs H Q E h => ?_) (fun cdv A outer s H vs Q E hr e0 h => ?_)
  · obtain ⟨S, vf, ds, p, t, VF, N, ps, fr, ws, tl, C, fld, txt, kind, rfl, _⟩ := h
    rfl
  · obtain ⟨S, vf, ds, p, t, VF, N, ps, fr, ws, tl, C, fld, txt, kind, rfl, L, V0, hS, hk, hv⟩ := h
    refine ⟨_, pss_cons (KX.ps_try_asM rfl rfl scRe.nd L2.takes0
        (tb := fun W => tDrop (tMethSt Cs "attempt" (spAttempt P w K mg base 13 Cs) (fun cls d H => ∀ σ : L2.St, σ.length = 3 → W cls d σ H) (cxOf (L2.CX P w) P w K mg base nRe "_law_refused" (defScope sRefused) f cdv A outer s H E).stack (tVar 0) (tVisA 1 VF vf fr ws (cxOf (L2.CX P w) P w K mg base nRe "_law_refused" (defScope sRefused) f cdv A outer s H E).stack)))
        (l := [⟨.ref Cb, 2, fun a cls d => tRet (tLst (tCons (tC (.str "part")) (tCons (tXf a cls d Cb "part" (tVar 2)) tNil)))⟩, ⟨.ref Cu, 2, fun a cls d => tRet (tLst (tCons (tC (.str "undo")) (tCons (tXf a cls d Cu "name" (tVar 2)) tNil)))⟩])
        (fun W pn xe tk _ => pss_one (ps_expr (by exact (pe_methSt (pv 0) S_.cl mA.m GA hr mA.b (passes_len tk rfl) (by exact (pas_var V0 rfl rfl rfl rfl (Or.inl rfl)))))))
        (.cons rfl rfl ⟨rfl, by decide, .inl X_.mb⟩ (fun a oe cls d pn hz hf => pss_one (ps_ret (by exact (pe_lst (pa_cons pe_str (pa_cons (pe_xf X_.xb X_.nb hz hf (pv 2)) pa_nil))))))
        (.cons rfl rfl ⟨rfl, by decide, .inl X_.mu⟩ (fun a oe cls d pn hz hf => pss_one (ps_ret (by exact (pe_lst (pa_cons pe_str (pa_cons (pe_xf X_.xu X_.nu hz hf (pv 2)) pa_nil)))))) .nil)))
      (pss_one (ps_ret (pe_lst pa_nil))), ?_⟩
    refine ⟨_, rfl, S, ds, _, rfl, hS, sf_no _ _ (by decide), rfl, V0.code, fun s1 V1 => ?_⟩
    refine ⟨S, vf, ds, p, t, VF, N, ps, fr, ws, tl, rfl, L, V1, hS, fun H1 E1 Q1 s1' hQ hE => ?_⟩
    refine hv H1 E1 Q1 s1' fun d H2 ds' ve hd fin => hE C (some d) H2 ds' ve fun σ hσ => ?_
    have hS2 : ∃ p' t', H2 S = some (.ins Cs ds' (sf p' t')) := ve.2
    obtain ⟨p', t', eS⟩ := hS2
    have ndS : d ≠ S := ne_of hd eS (by intro z; cases z)
    have hd2 : upd H2 S (.ins Cs ds' (sf p t)) d = some (.xd [(fld, .str txt)]) := by rw [upd_ne ndS]; exact hd
    generalize upd H2 S (.ins Cs ds' (sf p t)) = G0 at hd2 fin
    rcases hk with ⟨rfl, rfl, rfl⟩ | ⟨rfl, rfl, rfl⟩
    · refine ⟨true, X_.bb, fun _ a ha => ?_, fun z => Bool.noConfusion z⟩
      refine ⟨_, ?_, rfl, rfl, d, _, _, rfl, hd2, lk_eq, (by show 2 ≤ sizeLine; decide), fun l hl => ?_⟩
      · exact List.getElem?_set_self (by rw [hσ]; show 2 < 3; decide)
      · exact fin _ l (fun b o e => by rw [upd_ne (ne_of_none e hl)]; exact e) upd_same
    · refine ⟨false, X_.ub, fun z => Bool.noConfusion z, fun _ => ⟨true, X_.uu, fun _ a ha => ?_, fun z => Bool.noConfusion z⟩⟩
      refine ⟨_, ?_, rfl, rfl, d, _, _, rfl, hd2, lk_eq, (by show 2 ≤ sizeLine; decide), fun l hl => ?_⟩
      · exact List.getElem?_set_self (by rw [hσ]; show 2 < 3; decide)
      · exact fin _ l (fun b o e => by rw [upd_ne (ne_of_none e hl)]; exact e) upd_same
end
end CT
set_option Elab.async false
set_option linter.all false
set_option maxRecDepth 100000
set_option maxHeartbeats 4000000
/-! W17: law -/
namespace CT
open PySem L2 LamX NdefX
theorem PlanAt.sameN {C S dS d : Addr} {H H' : Hp} {fs : List (Str × V)} {pl : PlanD} (h : PlanAt H d pl) (s : SameN S H H') (hS : H S = some (.ins C dS fs)) : PlanAt H' d pl := by
  have at_ : ∀ {c : Addr} {o : HO}, H c = some o → (∀ a b f, o ≠ .ins a b f) → (∀ ps, o ≠ .tbl ps) → H' c = some o := fun {c o} e n1 n2 => s c o (fun z => n1 _ _ _ (Option.some.inj (e.symm.trans (z ▸ hS)))) e n2
  obtain ⟨kvs, ln, ll, lh, lk, h1, h2, h3, h4, h5, h6, h7, h8, h9, h10, h11, h12⟩ := h
  exact ⟨kvs, ln, ll, lh, lk, at_ h1 (by intro a b f z; cases z) (by intro ps z; cases z), h2, at_ h3 (by intro a b f z; cases z) (by intro ps z; cases z), at_ h4 (by intro a b f z; cases z) (by intro ps z; cases z), at_ h5 (by intro a b f z; cases z) (by intro ps z; cases z), at_ h6 (by intro a b f z; cases z) (by intro ps z; cases z),
    fun l hl => at_ (h7 l hl) (by intro a b f z; cases z) (by intro ps z; cases z), h8, h9, h10, at_ h11 (by intro a b f z; cases z) (by intro ps z; cases z), h12⟩
theorem PlanAt.extN {d : Addr} {H H' : Hp} {pl : PlanD} (h : PlanAt H d pl) (s : ExtN H H') : PlanAt H' d pl := by
  obtain ⟨kvs, ln, ll, lh, lk, h1, h2, h3, h4, h5, h6, h7, h8, h9, h10, h11, h12⟩ := h
  exact ⟨kvs, ln, ll, lh, lk, s _ _ h1 (by intro ps z; cases z), h2, s _ _ h3 (by intro ps z; cases z), s _ _ h4 (by intro ps z; cases z), s _ _ h5 (by intro ps z; cases z), s _ _ h6 (by intro ps z; cases z), fun l hl => s _ _ (h7 l hl) (by intro ps z; cases z), h8, h9, h10, s _ _ h11 (by intro ps z; cases z), h12⟩
theorem TownAt.sameL {Cn Ct p0 : Addr} {H H' : Hp} {p : Addr} {D : TownD} {xs : List V} (h : TownAt Cn Ct H p D) (s : SameB p0 H H') (h0 : H p0 = some (.lst xs)) : TownAt Cn Ct H' p D := by
  obtain ⟨dx, row, lk, h1, h2, h3, h4, h5, h6⟩ := h
  refine ⟨dx, row, lk, s.at h0 h1 (by intro z; cases z), s.at h0 h2 (by intro z; cases z), s.at h0 h3 (by intro z; cases z), fun r hr => ?_, fun l hl => s.at h0 (h5 l hl) (by intro z; cases z), s.at h0 h6 (by intro z; cases z)⟩
  obtain ⟨dr, e⟩ := h4 r hr
  exact ⟨dr, s.at h0 e (by intro z; cases z)⟩
theorem SessAt.sameL {Cs Cn Ct p0 : Addr} {H H' : Hp} {S : Addr} {c : Tn} {past : List Tn} {xs : List V} (h : SessAt Cs Cn Ct H S c past) (s : SameB p0 H H') (h0 : H p0 = some (.lst xs)) : SessAt Cs Cn Ct H' S c past := by
  obtain ⟨⟨dx, t, h1, h2⟩, h3, h4, h5, h6⟩ := h
  exact ⟨⟨dx, t, s.at h0 h1 (by intro z; cases z), s.at h0 h2 (by intro z; cases z)⟩, h3.sameL s h0, fun q hq => (h4 q hq).sameL s h0, h5, h6⟩
theorem Tabs.sameL {T : List (Addr × Str)} {p0 : Addr} {H H' : Hp} {xs : List V} (h : Tabs T H) (s : SameB p0 H H') (h0 : H p0 = some (.lst xs)) : Tabs T H' := by
  intro p hp
  obtain ⟨ps, h1, h2, h3⟩ := h p hp
  refine ⟨ps, s.at h0 h1 (by intro z; cases z), h2, fun pos cv hc => ?_⟩
  obtain ⟨c, e1, e2⟩ := h3 pos cv hc
  exact ⟨c, e1, s.at h0 e2 (by intro z; have z' : HO.ext _ = HO.lst xs := z; cases z')⟩
theorem prs_flat {H : Hp} : ∀ {xs : List V}, xs.all flatV = true → Prs DFlat xs xs H
  | [], _ => .nil
  | x :: xs, h => by
    rw [List.all_cons, Bool.and_eq_true] at h
    exact .cons (dflat h.1) (prs_flat h.2)
/-- the heap in a turn of the law, from the session's making on -/
structure LS (T : List (Addr × Str)) (Cs Cn Ct : Addr) (H0 H : Hp) (S d : Addr) (pl : PlanD) (c : Tn) (past : List Tn) (kp : Addr → Prop) : Prop where
  f : H0 S = none
  e : ExtN H0 H
  t : Tabs T H
  s : SessAt Cs Cn Ct H S c past
  p : PlanAt H d pl
  k : ∀ l, kp l → H l = some (.lst [.ref c.1, .int past.length])
theorem LS.extN {T : List (Addr × Str)} {Cs Cn Ct : Addr} {H0 H H' : Hp} {S d : Addr} {pl : PlanD} {c : Tn} {past : List Tn} {kp : Addr → Prop} (h : LS T Cs Cn Ct H0 H S d pl c past kp) (s : ExtN H H') (t : Tabs T H') : LS T Cs Cn Ct H0 H' S d pl c past kp :=
  ⟨h.f, h.e.trans s, t, h.s.extN s, h.p.extN s, fun l hl => s _ _ (h.k l hl) (by intro ps z; cases z)⟩
theorem LS.same {T : List (Addr × Str)} {Cs Cn Ct : Addr} {H0 H H' : Hp} {S d : Addr} {pl : PlanD} {c : Tn} {past : List Tn} {kp : Addr → Prop} (h : LS T Cs Cn Ct H0 H S d pl c past kp) (s : Same H H') : LS T Cs Cn Ct H0 H' S d pl c past kp :=
  h.extN (ExtN.of s) (h.t.ext s)
/-- the session has gone on -/
theorem LS.move {T : List (Addr × Str)} {Cs Cn Ct : Addr} {H0 H H' : Hp} {S d : Addr} {pl : PlanD} {c c' : Tn} {past past' : List Tn} {kp : Addr → Prop} (h : LS T Cs Cn Ct H0 H S d pl c past kp) (s : SameB S H H') (hs : SessAt Cs Cn Ct H' S c' past') : LS T Cs Cn Ct H0 H' S d pl c' past' (fun _ => False) := by
  obtain ⟨dx, t, hS, _⟩ := h.s.at_
  refine ⟨h.f, fun b o e n => ?_, Tabs.sameB h.t s hS, hs, h.p.sameN (SameN.ofB s) hS, fun l hl => hl.elim⟩
  exact s b o (ne_of_none e h.f) (h.e b o e n)
/-- behind an attempt -/
theorem LS.after {T : List (Addr × Str)} {Cs Cn Ct dS t ds' : Addr} {H0 H H3 : Hp} {S d : Addr} {pl : PlanD} {c : Tn} {past : List Tn} {kp : Addr → Prop} {fs : List (Str × V)} (h : LS T Cs Cn Ct H0 H S d pl c past kp) (hS : H S = some (.ins Cs dS (sf c.1 t))) (ht : H t = some (.tup (refs past))) (s : SameN S H H3) (tab : Tabs T H3) (eS : H3 S = some (.ins Cs ds' fs)) :
    LS T Cs Cn Ct H0 (upd H3 S (.ins Cs ds' (sf c.1 t))) S d pl c past kp := by
  have s1 : SameN S H (upd H3 S (.ins Cs ds' (sf c.1 t))) := s.trans (SameN.ofB sameB_upd)
  refine ⟨h.f, fun b o e n => s1 b o (ne_of_none e h.f) (h.e b o e n) n, Tabs.sameB tab sameB_upd eS, h.s.back hS ht s1 upd_same, h.p.sameN s1 hS, fun l hl => ?_⟩
  have e := h.k l hl
  exact s1 _ _ (ne_of e hS (by intro z; cases z)) e (by intro ps z; cases z)
section
variable {P : Program} {w : World} {K : PySem.W.Frag} {mg : Str → Option Value} {base : Heap}
open KL
theorem FunC.ok0 {x qual : Str} {st : Stmt} {f : Addr} {fd : FuncData} {cd : Value} {N ps : List Str} {k : Nat} {sp : Sp} (F : FunC K x qual st f fd cd) (S : FnScope N ps (defScope st)) (len : ∀ vs H Q E, sp vs H Q E → vs.length = ps.length)
    (hbody : ∀ (A : Around) (outer : List Env) (s : Shared) (H : Hp) (vs : List V) (Q : VK) (E : XK), Room k (A.deeper (PyProof.Rows.envOfC qual (defScope st) s.heap.objs.size f cd)) → sp vs H Q E →
      ∃ t, PSs (cxOf CX0 P w K mg base N qual (defScope st) f cd A outer s H E).nox (defBody st) t ∧ t { nx := fun _ H' => Q .non H', rt := Q } (L2.start N vs) H) : FnOk P w K mg base CX0 (k + 1) f fd ps sp := by
  obtain ⟨oc, od, kV, doc, pm, an, ct, osl, rfl, lk, hcd⟩ := F.ex
  refine fn_of lk hcd S len fun A outer s H vs Q E hr hsp => ?_
  obtain ⟨t, h, q⟩ := hbody A outer s H vs Q E hr hsp
  exact ⟨t, h.nox, q⟩
/-- all that the law calls -/
structure LawG (P : Program) (w : World) (K : PySem.W.Frag) (mg : Str → Option Value) (base : Heap) (T : List (Addr × Str)) (Cs Cn Ct Cb Cu : Addr) : Prop where
  B : Bl mg
  S_ : SessK K mg Cs
  T_ : TownK K mg Cn
  pool : ∃ f fd, FnOk P w K mg base CX0 1 f fd ["_law_script", "_law_k"] (spPool K) ∧ Dn K mg "_law_pool" f fd ["_law_script", "_law_k"]
  plan : ∃ f fd, FnOk P w K mg base CX0 4 f fd ["_law_pool_here", "_law_many", "_law_most"] spPlan ∧ Dn K mg "_law_plan" f fd ["_law_pool_here", "_law_many", "_law_most"]
  made : ∃ f fd, FnOk P w K mg base CX0 7 f fd ["_law_t"] (spLMade Cn Ct) ∧ Dn K mg "_law_made" f fd ["_law_t"]
  draw : ∃ f fd, FnOk P w K mg base CX0 1 f fd ["_law_pool_here", "_law_many"] spDraw ∧ Dn K mg "_law_draw" f fd ["_law_pool_here", "_law_many"]
  state : ∃ f fd, FnOk P w K mg base CX0 3 f fd ["_law_session"] (spState Cs Cn Ct) ∧ Dn K mg "_law_state" f fd ["_law_session"]
  sess : ∃ f fd, FnOk P w K mg base CX0 1 f fd ["self", "town"] (spSessInit Cs Cn Ct) ∧ Mk K Cs f ∧ Binds K fd ["self", "town"] []
  assign : ∃ f fd, FnOk P w K mg base (L2.CX P w) 9 f fd ["self", "part", "value"] (spAssign Cs Cn Ct Cb) ∧ Mn K Cs "assign" f fd ["self", "part", "value"]
  undo : ∃ f fd, FnOk P w K mg base (L2.CX P w) 3 f fd ["self"] (spUndo Cs Cn Ct Cu) ∧ Mn K Cs "undo" f fd ["self"]
  attempt : ∃ f fd, FnS P w K mg base 15 f fd ["self", "visitor"] (spAttempt P w K mg base 13 Cs) ∧ Mn K Cs "attempt" f fd ["self", "visitor"]
  eq : ∃ f fd, FnOk P w K mg base CX0 4 f fd ["self", "other"] (spEq (NEq Cn Ct)) ∧ Mn K Cn "__eq__" f fd ["self", "other"]
  ne : PySem.W.findIn K (.ref Cn) "__ne__" = some (some (.builtin "object.__ne__"))
  ob : PySem.W.mroIn K Cn (.type "object") = some true
  visit : ∃ f fd, FnOk P w K mg base CX0 10 f fd ["_law_session", "_law_one", "_law_name"] (spVisit Cs Cn Ct) ∧ Dn K mg "_law_visit" f fd ["_law_session", "_law_one", "_law_name"]
  undoing : ∃ f fd, FnOk P w K mg base CX0 4 f fd ["_law_session"] (spUndoing Cs Cn Ct) ∧ Dn K mg "_law_undoing" f fd ["_law_session"]
  raising : ∃ f fd, FnOk P w K mg base (L2.CX P w) 10 f fd ["_law_session", "_law_name"] (spRaising Cs Cn Ct Cb) ∧ Dn K mg "_law_raising" f fd ["_law_session", "_law_name"]
  inner : ∃ f fd, FnS P w K mg base 13 f fd ["_law_session", "_law_name"] (spInner T Cs Cn Ct) ∧ Dn K mg "_law_inner" f fd ["_law_session", "_law_name"]
  refused : ∃ f fd, FnS P w K mg base 16 f fd ["_law_session", "_law_visitor"] (spRefused P w K mg base Cs Cb Cu) ∧ Dn K mg "_law_refused" f fd ["_law_session", "_law_visitor"]
  emptied : ∃ f fd, FnOk P w K mg base (L2.CX P w) 4 f fd ["_law_session"] (spEmptied Cs Cn Ct Cu) ∧ Dn K mg "_law_emptied" f fd ["_law_session"]
def spLaw (T : List (Addr × Str)) (K : PySem.W.Frag) : Sp := fun vs H Q _ => ∃ (a : Addr) (ns : List Int), vs = [.ref a] ∧ SqL K H a (ns.map V.int) ∧ ns.length ≤ 63 ∧ Tabs T H ∧ ∀ H', Q (.bl true) H'
abbrev nLaw : List Str := ["_law_script", "_law_k", "_law_pool_here", "_law_t", "_law_many", "_law_turn", "_law_kept", "_law_told", "_law_said", "_law_name", "_law_session"]
theorem scLaw : FnScope nLaw ["_law_script"] (defScope sLaw) := ⟨rfl, rfl, rfl, by decide +kernel, rfl, by decide +kernel, by decide +kernel⟩
theorem frV : ∀ y ∈ (lamScope xVisit).names, y.2 = .free → (defScope sLaw).names.lookup y.1 = some .cell ∨ (defScope sLaw).names.lookup y.1 = some .free := by decide +kernel
theorem frV2 : ∀ y ∈ (["_law_name", "_law_session"] : List Str), (y, NameKind.free) ∈ (lamScope xVisit).names := by decide +kernel
theorem frU : ∀ y ∈ (lamScope xUndoing).names, y.2 = .free → (defScope sLaw).names.lookup y.1 = some .cell ∨ (defScope sLaw).names.lookup y.1 = some .free := by decide +kernel
theorem frU2 : ∀ y ∈ ([] : List Str), (y, NameKind.free) ∈ (lamScope xUndoing).names := by decide +kernel
theorem frI : ∀ y ∈ (lamScope xInner).names, y.2 = .free → (defScope sLaw).names.lookup y.1 = some .cell ∨ (defScope sLaw).names.lookup y.1 = some .free := by decide +kernel
theorem frI2 : ∀ y ∈ (["_law_name"] : List Str), (y, NameKind.free) ∈ (lamScope xInner).names := by decide +kernel
theorem frR : ∀ y ∈ (lamScope xRaising).names, y.2 = .free → (defScope sLaw).names.lookup y.1 = some .cell ∨ (defScope sLaw).names.lookup y.1 = some .free := by decide +kernel
theorem frR2 : ∀ y ∈ (["_law_name"] : List Str), (y, NameKind.free) ∈ (lamScope xRaising).names := by decide +kernel
theorem frE : ∀ y ∈ (lamScope xEmptied).names, y.2 = .free → (defScope sLaw).names.lookup y.1 = some .cell ∨ (defScope sLaw).names.lookup y.1 = some .free := by decide +kernel
theorem frE2 : ∀ y ∈ ([] : List Str), (y, NameKind.free) ∈ (lamScope xEmptied).names := by decide +kernel
theorem ok_law {f cL PL Cs Cn Ct Cb Cu : Addr} {fd : FuncData} {T : List (Addr × Str)} (F : FunC K "law" "law" sLaw f fd (.ref cL)) (G : LawG P w K mg base T Cs Cn Ct Cb Cu) (TB : TabB base mg cL PL) (hm : (PL, ("law.<locals>.<lambda>" : Str)) ∈ T) (hu : ∀ p ∈ T, p.1 = PL → p.2 = ("law.<locals>.<lambda>" : Str)) :
    FnOk P w K mg base CX0 17 f fd ["_law_script"] (spLaw T K) := by
  obtain ⟨fPo, fdPo, GPo, dPo⟩ := G.pool
  obtain ⟨fPl, fdPl, GPl, dPl⟩ := G.plan
  obtain ⟨fMa, fdMa, GMa, dMa⟩ := G.made
  obtain ⟨fDr, fdDr, GDr, dDr⟩ := G.draw
  obtain ⟨fSt, fdSt, GSt, dSt⟩ := G.state
  obtain ⟨fSi, fdSi, GSi, MSi, bSi⟩ := G.sess
  obtain ⟨fAs, fdAs, GAs, mAs⟩ := G.assign
  obtain ⟨fUn, fdUn, GUn, mUn⟩ := G.undo
  obtain ⟨fAt, fdAt, GAt, mAt⟩ := G.attempt
  obtain ⟨fEq, fdEq, GEq, mEq⟩ := G.eq
  obtain ⟨fVi, fdVi, GVi, dVi⟩ := G.visit
  obtain ⟨fUg, fdUg, GUg, dUg⟩ := G.undoing
  obtain ⟨fRa, fdRa, GRa, dRa⟩ := G.raising
  obtain ⟨fIn, fdIn, GIn, dIn⟩ := G.inner
  obtain ⟨fRe, fdRe, GRe, dRe⟩ := G.refused
  obtain ⟨fEm, fdEm, GEm, dEm⟩ := G.emptied
  have B := G.B
  have S_ := G.S_
  have T_ := G.T_
  have GNe := G.ne
  have GOb := G.ob
  refine FunC.ok0 F scLaw (fun vs H Q E h => ?_) (fun A outer s H vs Q E hr h => ?_)
  · obtain ⟨a, ns, rfl, _⟩ := h
    rfl
  · obtain ⟨a, ns, rfl, hS0, hlen, hT0, q⟩ := h
    have hr1 : Room 1 _ := hr.mono (by decide)
    have hr2 : Room 2 _ := hr.mono (by decide)
    have hr3 : Room 3 _ := hr.mono (by decide)
    have hr4 : Room 4 _ := hr.mono (by decide)
    have hr5 : Room 5 _ := hr.mono (by decide)
    have hr7 : Room 7 _ := hr.mono (by decide)
    have hr9 : Room 9 _ := hr.mono (by decide)
    have hr15 : Room 15 _ := hr.mono (by decide)
    have hu1 : (A.deeper (PyProof.Rows.envOfC "law" (defScope sLaw) s.heap.objs.size f (.ref cL))).units + 1 < cLine := hu_of hr
    refine ⟨_, pss_cons (ps_for PassesOwn.never rfl (pi_range1 (by rfl) B.range (pa_cons (pe_callB (call_max2 rfl) (by rfl) B.max (by decide +kernel) (pa_cons pe_int (pa_cons (pe_callB (call_min2 rfl) (by rfl) B.min (by decide +kernel) (pa_cons (pe_callB call_len_seq (by rfl) B.len PySem.boot_len (pa_cons (pv 0) pa_nil)) (pa_cons pe_int pa_nil))) pa_nil))) pa_nil)) (pg_name (i := 1) scLaw.nd rfl (Or.inl rfl))
        (pss_cons (ps_set (i := 2) scLaw.nd rfl (Or.inl rfl) (pe_call GPo hr1 (by rfl) dPo.m dPo.k dPo.b .nil pass0 (pa_cons (pv 0) (pa_cons (pv 1) pa_nil))))
        (pss_cons (ps_set (i := 3) scLaw.nd rfl (Or.inl rfl) (pe_call GPl hr4 (by rfl) dPl.m dPl.k dPl.b .nil pass0 (pa_cons (pv 2) (pa_cons pe_int (pa_cons pe_int pa_nil)))))
        (pss_cons (ps_asg (pe_tup (pa_cons (pe_make MSi GSi hr2 (by rfl) S_.m bSi .nil pass0 (pa_cons (pe_call GMa hr7 (by rfl) dMa.m dMa.k dMa.b .nil pass0 (pa_cons (pv 3) pa_nil)) pa_nil)) (pa_cons (pe_ix ix_list (pe_dget hu1 (pv 3) pe_str (fun _ _ => rfl)) pe_int (fun _ _ => rfl)) pa_nil))) (pg_tup rfl (pgs_cons (pg_name (i := 10) scLaw.nd rfl (.inr rfl)) (pgs_cons (pg_name (i := 9) scLaw.nd rfl (.inr rfl)) pgs_nil))))
        (pss_cons (ps_set (i := 4) scLaw.nd rfl (Or.inl rfl) (pe_call GDr hr1 (by rfl) dDr.m dDr.k dDr.b .nil pass0 (pa_cons (pv 2) (pa_cons pe_int pa_nil))))
        (C8.pss_cut (ps_for PassesOwn.never rfl (pi_range1 (by rfl) B.range (pa_cons (pv 4) pa_nil)) (pg_name (i := 5) scLaw.nd rfl (Or.inl rfl)) (pss_one (ps_expr (pe_meth (E := E0) (pv 10) S_.cl mAs.m GAs hr9 mAs.b .nil passL (pa_cons pe_str (pa_cons (pv 5) pa_nil))))))
        (pss_cons (ps_set (i := 6) scLaw.nd rfl (Or.inl rfl) (pe_call GSt hr3 (by rfl) dSt.m dSt.k dSt.b .nil pass0 (pa_cons (pv 10) pa_nil)))
        (pss_cons (ps_set (i := 7) scLaw.nd rfl (Or.inl rfl) (pe_methSt (E := E0) (pv 10) S_.cl mAt.m GAt hr15 mAt.b passL (pas_lam (T := T) (c := cL) (P := PL) (fr := ["_law_name", "_law_session"]) (js := [9, 10]) TB rfl hm hu rfl frV frV2 rfl (fun _ => rfl))))
        (C8.pss_cut (ps_if (PW.pt (pw_or (pt_cmpR (KN.op_neG (KN.rnG_list mon_flat eqG_flat) hr1) (pv 7) (pe_lst (pa_cons pe_bl (pa_cons pe_bl (pa_cons pe_bl (pa_cons pe_int (pa_cons pe_int pa_nil)))))) (nomark _)) (pw_or1 (pt_cmpR (KN.op_neG (KN.rnG_list (KN.mon_same.or mon_flat) (KN.eqG_same.or eqG_flat)) hr1) (pe_call GSt hr3 (by rfl) dSt.m dSt.k dSt.b .nil pass0 (pa_cons (pv 10) pa_nil)) (pv 6) (nomark _))))) (pss_one (ps_ret pe_bl)) pss_nil)
        (C8.pss_cut (ps_if (PW.pt (pw_or (pt_cmpR (KN.op_neG (KN.rnG_ins (E := E0) GEq GNe mEq.m.at_ mEq.m.fn GOb mEq.b pass0) hr5) (pe_methSt (E := E0) (pv 10) S_.cl mAt.m GAt hr15 mAt.b passL (pas_lam (T := T) (c := cL) (P := PL) (fr := []) (js := []) TB rfl hm hu rfl frU frU2 rfl (fun _ => rfl))) (pe_call GMa hr7 (by rfl) dMa.m dMa.k dMa.b .nil pass0 (pa_cons (pv 3) pa_nil)) (nomark _)) (pw_or1 (pt_cmpR (KN.op_neG (KN.rnG_list (KN.mon_same.or mon_flat) (KN.eqG_same.or eqG_flat)) hr1) (pe_call GSt hr3 (by rfl) dSt.m dSt.k dSt.b .nil pass0 (pa_cons (pv 10) pa_nil)) (pv 6) (nomark _))))) (pss_one (ps_ret pe_bl)) pss_nil)
        (C8.pss_cut (ps_if (pt_cmpR (KN.op_neG (KN.rnG_list ((mon_list mon_flat).or (KN.mon_same.or mon_flat)) ((eqG_list mon_flat eqG_flat).or ((KN.eqG_same.or eqG_flat).mono (by decide)))) hr2) (pe_methSt (E := E0) (pv 10) S_.cl mAt.m GAt hr15 mAt.b passL (pas_lam (T := T) (c := cL) (P := PL) (fr := ["_law_name"]) (js := [9]) TB rfl hm hu rfl frI frI2 rfl (fun _ => rfl))) (pe_op op_cat (pe_lst (pa_cons (pe_lst (pa_cons pe_bl (pa_cons pe_bl (pa_cons pe_bl (pa_cons pe_int (pa_cons pe_int pa_nil)))))) pa_nil)) (pv 6)) (nomark _)) (pss_one (ps_ret pe_bl)) pss_nil)
        (pss_cons (ps_set (i := 8) scLaw.nd rfl (Or.inl rfl) (pe_callSt (E := E0) GRe hr (by rfl) dRe.m dRe.k dRe.b passL (pas_cons (pv 10) (pas_lam (T := T) (c := cL) (P := PL) (fr := ["_law_name"]) (js := [9]) TB rfl hm hu rfl frR frR2 rfl (fun _ => rfl)))))
        (C8.pss_cut (ps_if (PW.pt (pw_or (pt_cmpR (KN.op_neG (KN.rnG_list mon_flat eqG_flat) hr1) (pv 8) (pe_lst (pa_cons pe_str (pa_cons pe_str pa_nil))) (nomark _)) (pw_or1 (pt_cmpR (KN.op_neG (KN.rnG_list (KN.mon_same.or mon_flat) (KN.eqG_same.or eqG_flat)) hr1) (pe_call GSt hr3 (by rfl) dSt.m dSt.k dSt.b .nil pass0 (pa_cons (pv 10) pa_nil)) (pv 6) (nomark _))))) (pss_one (ps_ret pe_bl)) pss_nil)
        (C8.pss_cut (ps_if (PW.pt (pw_or (pt_cmpR (KN.op_neG (KN.rnG_list mon_flat eqG_flat) hr1) (pe_callSt (E := E0) GRe hr (by rfl) dRe.m dRe.k dRe.b passL (pas_cons (pv 10) (pas_lam (T := T) (c := cL) (P := PL) (fr := []) (js := []) TB rfl hm hu rfl frE frE2 rfl (fun _ => rfl)))) (pe_lst (pa_cons pe_str (pa_cons pe_str pa_nil))) (nomark _)) (pw_or1 (pt_cmpR (KN.op_neG (KN.rnG_list (KN.mon_same.or mon_flat) (KN.eqG_same.or eqG_flat)) hr1) (pe_call GSt hr3 (by rfl) dSt.m dSt.k dSt.b .nil pass0 (pa_cons (pv 10) pa_nil)) (pv 6) (nomark _))))) (pss_one (ps_ret pe_bl)) pss_nil)
        (C8.pss_cut (ps_for PassesOwn.never rfl (pi_range1 (by rfl) B.range (pa_cons (pv 4) pa_nil)) (pg_name (i := 5) scLaw.nd rfl (Or.inl rfl)) (pss_one (ps_expr (pe_meth0 (E := E0) (pv 10) S_.cl mUn.m GUn hr3 mUn.b .nil passL))))
        (pss_one (ps_if (pt_cmpR (KN.op_neG (KN.rnG_list ((mon_ins NEq.ext).or mon_flat) ((eqG_ins (E := E0) GEq mEq.m.at_ mEq.m.fn mEq.b pass0).or (eqG_flat.mono (by decide)))) hr5) (pe_call GSt hr3 (by rfl) dSt.m dSt.k dSt.b .nil pass0 (pa_cons (pv 10) pa_nil)) (pe_lst (pa_cons (pe_call GMa hr7 (by rfl) dMa.m dMa.k dMa.b .nil pass0 (pa_cons (pv 3) pa_nil)) (pa_cons pe_int pa_nil))) (nomark _)) (pss_one (ps_ret pe_bl)) pss_nil)))))))))))))))))
      (pss_one (ps_ret pe_bl)), ?_⟩
    have hS0' : ∀ {H' : Hp}, ExtN H H' → SqL K H' a (ns.map V.int) := fun {H'} e => by
      rcases hS0 with (h1 | ⟨o, h1⟩) | h1
      · exact .inl (.inl (e _ _ h1 (by intro ps z; cases z)))
      · exact .inl (.inr ⟨o, e _ _ h1 (by intro ps z; cases z)⟩)
      · exact .inr h1
    refine ⟨_, rfl, a, _, rfl, .inl hS0, _, _, rfl, _, _, rfl, _, rfl, ?_, ?_, for_range (lo := 0) (n := _) (fun i σ H' => (∃ v1 v2 v3 v4 v5 v6 v7 v8 v9 v10, σ = [some (.ref a), v1, v2, v3, v4, v5, v6, v7, v8, v9, v10]) ∧ ExtN H H' ∧ Tabs T H')
      ⟨⟨none, none, none, none, none, none, none, none, none, none, rfl⟩, ExtN.refl H, hT0⟩ ?_ ?_⟩
    · split <;> split <;> omega
    · split <;> split <;> omega
    · rintro i σ H1 hi ⟨⟨v1, v2, v3, v4, v5, v6, v7, v8, v9, v10, rfl⟩, e1, t1⟩
      have hi3 : i < 3 := by
        revert hi
        split <;> split <;> omega
      clear hi
      -- the pool, the plan
      refine ⟨_, rfl, _, rfl, a, _, ns, rfl, hS0' e1, hlen, by omega, by omega, fun H2 p s2 hP2 p0 => ?_⟩
      refine ⟨_, rfl, p, rfl, hP2, fun H3 d pl s3 hP3 d0 hpl gpl => ?_⟩
      have s13 : SameB p H1 H3 := (SameB.of s2).then s3
      have t3 : Tabs T H3 := by
        obtain ⟨X, Y, e, _⟩ := hP2
        exact Tabs.sameL (t1.ext s2) s3 e
      have p1 : H1 p = none := p0
      -- the session
      refine ⟨_, rfl, d, pl, rfl, hpl H3 (fun _ _ _ e => e), gpl, fun H4 q1 D1 s4 hT4 g4 fp4 => ?_⟩
      intro S dx nS ndx ne
      have s45 : Same H4 (upd (upd H4 dx (.own S)) S (.ins Cs dx [])) := fun b o e => by rw [upd_ne (ne_of_none e nS), upd_ne (ne_of_none e ndx)]; exact e
      refine ⟨S, dx, (q1, D1), rfl, upd_same, hT4.same s45, g4, fun H5 sb5 hA5 => ⟨rfl, ?_⟩⟩
      have s35 : Same H3 H5 := fun b o e => sb5 b o (ne_of_none (s4 _ _ e) nS) (s45 _ _ (s4 _ _ e))
      have S3 : H3 S = none := Same.free s4 nS
      have S1 : H1 S = none := s13.free (let ⟨_, _, e, _⟩ := hP3; ⟨_, e⟩) S3
      have hpl5 := hpl H5 (SameB.of s35)
      obtain ⟨kvs, ln, ll, lh, lk, hd5, b45, hn5, _⟩ := hpl5
      obtain ⟨z, hz⟩ : ∃ z, pl.names[0]? = some z := ⟨_, List.getElem?_eq_getElem (by have := gpl.n1; omega)⟩
      have mzp : z ∈ pl.names := List.mem_of_getElem? hz
      have gz : GoodN z := gpl.ng z mzp
      have dg := DGet.k (k := .inr "names") hd5
      rw [b45.n] at dg
      refine ⟨_, rfl, d, _, rfl, dg, ln, _, _, _, rfl, rfl, SqL.of hn5, atI_nat (j := 0) (by rw [List.getElem?_map, hz]; rfl), (by show 2 ≤ sizeLine; decide), fun u hu => ?_⟩
      have s56 : Same H5 (upd H5 u (.tup [.ref S, .str z])) := fun b o e => by rw [upd_ne (ne_of_none e hu)]; exact e
      refine ⟨u, _, rfl, SqT.of upd_same, rfl, _, _, rfl, _, _, rfl, rfl, ?_⟩
      generalize upd H5 u (.tup [.ref S, .str z]) = H6 at s56
      have s36 := s35.trans s56
      have hA6 := hA5.same s56
      have hP6 : PoolAt H6 p := hP3.same (s36 p)
      -- many
      refine ⟨_, rfl, p, 4, rfl, hP6, by decide, by decide, fun H7 m s7 hP7 m0 m4 => ?_⟩
      have ls7 : LS T Cs Cn Ct H1 H7 S d pl (q1, D1) [] (fun _ => False) := by
        obtain ⟨X, Y, e6, _⟩ := id hP6
        refine ⟨S1, fun b o e n => ?_, Tabs.sameL (t3.ext s36) s7 e6, hA6.sameL s7 e6, hpl H7 ((SameB.of s36).then s7), fun l hl => hl.elim⟩
        have nb := ne_of_none e p1
        exact s7 b o nb (s36 b o (s13 b o nb e))
      clear hpl hA5 hA6 hP2 hP3 hP6 hP7 hT4
      refine ⟨fun σ H' => ∃ c past v5, σ = [some (.ref a), some (.int (0 + (i : Int))), some (.ref p), some (.ref d), some (.int m), v5, v6, v7, v8, some (.str z), some (.ref S)] ∧ LS T Cs Cn Ct H1 H' S d pl c past (fun _ => False) ∧ (past.length : Int) = m ∧ firstOf c past = (q1, D1) ∧ namesOf c.2.rs = pl.names, ?_, ?_⟩
      · refine ⟨_, rfl, _, rfl, by omega, by omega, for_range (lo := 0) (n := m.toNat) (fun j σ H' => ∃ c past v5, σ = [some (.ref a), some (.int (0 + (i : Int))), some (.ref p), some (.ref d), some (.int m), v5, v6, v7, v8, some (.str z), some (.ref S)] ∧ LS T Cs Cn Ct H1 H' S d pl c past (fun _ => False) ∧ past.length = j ∧ firstOf c past = (q1, D1) ∧ namesOf c.2.rs = pl.names)
          ⟨(q1, D1), [], v5, rfl, ls7, rfl, rfl, FromPlan.names fp4.r⟩ ?_ ?_⟩
        · rintro j σ H' hj ⟨c, past, v5', rfl, ls, hl, hf, hn⟩
          obtain ⟨dS, t, hS, ht⟩ := ls.s.at_
          refine ⟨_, rfl, S, dS, _, rfl, hS, sf_no _ _ (by decide), _, rfl, S, "money", _, c, past, rfl, ls.s, by omega, .inl ⟨rfl, by omega, by omega⟩, fun _ H'' n ls' sb hA => ?_, fun ht => absurd ls.s.gn.2 ht⟩
          refine ⟨_, _, _, rfl, ls.move sb hA, by rw [List.length_append, hl]; rfl, ?_, hn⟩
          rw [first_snoc, hf]
        · rintro σ H' ⟨c, past, v5', rfl, ls, hl, hf, hn⟩
          exact ⟨c, past, v5', rfl, ls, by omega, hf, hn⟩
      rintro σ H8 ⟨c, past, v5, rfl, ls8, hm8, hf8, hn8⟩
      have hl8 : past.length ≤ 3 := by omega
      have mz : z ∈ namesOf c.2.rs := by rw [hn8]; exact mzp
      -- kept
      refine ⟨_, rfl, S, c, past, rfl, ls8.s, by omega, fun l6 hl6 => ?_⟩
      have s89 : Same H8 (upd H8 l6 (.lst [.ref c.1, .int past.length])) := fun b o e => by rw [upd_ne (ne_of_none e hl6)]; exact e
      have ls9 : LS T Cs Cn Ct H1 (upd H8 l6 (.lst [.ref c.1, .int past.length])) S d pl c past (fun l => l = l6) := by
        have q := ls8.same s89
        exact ⟨q.f, q.e, q.t, q.s, q.p, fun l hl => by rw [hl]; exact upd_same⟩
      clear ls8 s89
      generalize upd H8 l6 (.lst [.ref c.1, .int past.length]) = H9 at ls9
      -- the state is as it was kept
      have stOk : ∀ (σ : L2.St) (G : Hp) (Q' : Bool → Hp → Prop), σ[10]? = some (some (.ref S)) → σ[6]? = some (some (.ref l6)) → LS T Cs Cn Ct H1 G S d pl c past (fun l => l = l6) → (∀ G', Same G G' → Q' false G') →
          tTest (tOp (KN.rNeG (DList fun x y H => KN.DSame x y H ∨ DFlat x y H)) (tCall (spState Cs Cn Ct) [] E0 (tCons (tVar 10) tNil)) (tVar 6)) σ G Q' := fun σ G Q' h10 h6 ls hq => by
        refine ⟨_, h10, S, c, past, rfl, ls.s, by omega, fun l hl => ?_⟩
        have sG : Same G (upd G l (.lst [.ref c.1, .int past.length])) := fun b o e => by rw [upd_ne (ne_of_none e hl)]; exact e
        refine ⟨_, h6, ⟨l, l6, _, _, rfl, rfl, upd_same, (sG _ _ (ls.k l6 rfl)), .cons (.inl ⟨_, rfl, rfl⟩) (.cons (.inr (dflat rfl)) .nil)⟩, fun G' e => ⟨false, rfl, hq G' (fun b o x => e _ _ (sG _ _ x))⟩⟩
      -- a visitor told of the state
      obtain ⟨dS, t, hS, ht⟩ := ls9.s.at_
      refine ⟨_, rfl, S, dS, _, rfl, hS, sf_no _ _ (by decide), ls9.t, fun vf c' H10 s10 eN nn T10 V10 => ?_⟩
      have ls10 := ls9.extN eN T10
      have hS10 := eN _ _ hS (by intro ps z; cases z)
      have ht10 := eN _ _ ht (by intro ps z; cases z)
      refine ⟨S, vf, dS, c.1, t, _, _, _, _, _, _, rfl, lam_visit (S := S) (z := z) rfl rfl rfl GVi dVi, V10, hS10, fun H11 E1 Q1 s11 hQ hE => ?_⟩
      have ls11 := ls10.same s11
      refine ⟨rfl, S, z, c, past, rfl, ls11.s, by omega, gz, mz, fun H12 lt c3 past3 sb12 hA12 _ e12 => ?_⟩
      obtain ⟨d12, t12, hS12, _⟩ := hA12.at_
      refine hQ _ H12 d12 ⟨SameN.ofB sb12, _, _, hS12⟩ ?_
      have ls13 := LS.after ls11 (s11 _ _ hS10) (s11 _ _ ht10) (SameN.ofB sb12) (Tabs.sameB ls11.t sb12 (s11 _ _ hS10)) hS12
      have e13 : upd H12 S (.ins Cs d12 (sf c.1 t)) lt = some (.lst told5) := by rw [upd_ne (ne_of e12 hS12 (by intro z; cases z))]; exact e12
      clear hQ hE V10 ls11 ls10 T10 s11 s10 eN hS10 ht10 hS ht ls9
      generalize upd H12 S (.ins Cs d12 (sf c.1 t)) = H13 at ls13 e13
      clear e12 hS12 hA12 sb12 
      refine ⟨fun σ H' => σ = [some (.ref a), some (.int (0 + (i : Int))), some (.ref p), some (.ref d), some (.int m), v5, some (.ref l6), some (.ref lt), v8, some (.str z), some (.ref S)] ∧ LS T Cs Cn Ct H1 H' S d pl c past (fun l => l = l6), ?_, ?_⟩
      · refine ⟨_, rfl, (by show 5 ≤ sizeLine; decide), fun l hl => ?_⟩
        have sG : Same H13 (upd H13 l (.lst told5)) := fun b o e => by rw [upd_ne (ne_of_none e hl)]; exact e
        refine ⟨⟨lt, l, _, _, rfl, rfl, sG _ _ e13, upd_same, prs_flat (by decide)⟩, fun G' e => ⟨false, rfl, ?_⟩⟩
        refine stOk _ _ _ rfl rfl (ls13.same (sG.trans e)) fun G2 s2 => ?_
        exact ⟨rfl, (ls13.same (sG.trans e)).same s2⟩
      rintro σ H' ⟨rfl, ls14⟩
      clear e13 ls13
      generalize hv : (some (V.ref lt) : Option V) = v7'
      clear hv lt
      clear v7

      -- a visitor that undoes
      refine ⟨fun σ H' => σ = [some (.ref a), some (.int (0 + (i : Int))), some (.ref p), some (.ref d), some (.int m), v5, some (.ref l6), v7', v8, some (.str z), some (.ref S)] ∧ LS T Cs Cn Ct H1 H' S d pl c past (fun l => l = l6), ?_, ?_⟩
      · skip
        obtain ⟨dS, t, hS, ht⟩ := ls14.s.at_
        refine ⟨_, rfl, S, dS, _, rfl, hS, sf_no _ _ (by decide), ls14.t, fun vf c' H10 s10 eN nn T10 V10 => ?_⟩
        have ls10 := ls14.extN eN T10
        have hS10 := eN _ _ hS (by intro ps z; cases z)
        have ht10 := eN _ _ ht (by intro ps z; cases z)
        refine ⟨S, vf, dS, c.1, t, _, _, _, _, _, _, rfl, lam_undoing (S := S) rfl rfl rfl GUg dUg, V10, hS10, fun H11 E1 Q1 s11 hQ hE => ?_⟩
        have ls11 := ls10.same s11
        refine ⟨rfl, S, c, past, rfl, ls11.s, by omega, fun H12 sb12 hA12 => ?_⟩
        obtain ⟨d12, t12, hS12, _⟩ := hA12.at_
        refine hQ _ H12 d12 ⟨SameN.ofB sb12, _, _, hS12⟩ ?_
        have ls13 := LS.after ls11 (s11 _ _ hS10) (s11 _ _ ht10) (SameN.ofB sb12) (Tabs.sameB ls11.t sb12 (s11 _ _ hS10)) hS12
        have hF : TownAt Cn Ct (upd H12 S (.ins Cs d12 (sf c.1 t))) q1 D1 := by
          have q := hA12.now
          rw [hf8] at q
          exact q.sameB sameB_upd hS12 (by show 2 ≤ 2; decide)
        refine ⟨_, rfl, d, pl, rfl, ls13.p, gpl, fun H14 q2 D2 s14 hT14 g14 fp14 => ?_⟩
        have ls15 := ls13.same s14
        have hF' := hF.same s14
        obtain ⟨dx1, r1, k1, e1, z1⟩ := id hF'
        obtain ⟨dx2, r2, k2, e2, z2⟩ := id hT14
        refine ⟨⟨(firstOf c past).1, q2, dx1, dx2, _, _, rfl, rfl, by rw [hf8]; exact e1, e2, D1, D2, by rw [hf8]; exact hF', hT14, FromPlan.sameD gpl fp4 fp14⟩, fun G' e => ⟨false, rfl, ?_⟩⟩
        refine stOk _ _ _ rfl rfl (ls15.same e) fun G2 s2 => ?_
        exact ⟨rfl, (ls15.same e).same s2⟩
      clear ls14
      rintro σ H' ⟨rfl, ls14⟩
      -- one inside another
      refine ⟨fun σ H' => σ = [some (.ref a), some (.int (0 + (i : Int))), some (.ref p), some (.ref d), some (.int m), v5, some (.ref l6), v7', v8, some (.str z), some (.ref S)] ∧ LS T Cs Cn Ct H1 H' S d pl c past (fun l => l = l6), ?_, ?_⟩
      · skip
        obtain ⟨dS, t, hS, ht⟩ := ls14.s.at_
        refine ⟨_, rfl, S, dS, _, rfl, hS, sf_no _ _ (by decide), ls14.t, fun vf c' H10 s10 eN nn T10 V10 => ?_⟩
        have ls10 := ls14.extN eN T10
        have hS10 := eN _ _ hS (by intro ps z; cases z)
        have ht10 := eN _ _ ht (by intro ps z; cases z)
        refine ⟨S, vf, dS, c.1, t, _, _, _, _, _, _, rfl, lam_inner (S := S) (z := z) rfl rfl rfl GIn dIn, V10, hS10, fun H11 E1 Q1 s11 hQ hE => ?_⟩
        have ls11 := ls10.same s11
        refine ⟨rfl, fun outer s => ⟨S, z, c, past, rfl, ls11.s, by omega, gz, mz, ls11.t, fun H12 l lt s12 T12 hA12 elt el => ?_⟩⟩
        obtain ⟨d12, t12, hS12, _⟩ := hA12.at_
        refine hQ _ H12 d12 ⟨s12, _, _, hS12⟩ ?_
        have ls13 := LS.after ls11 (s11 _ _ hS10) (s11 _ _ ht10) s12 T12 hS12
        have elt' : upd H12 S (.ins Cs d12 (sf c.1 t)) lt = some (.lst told5) := by rw [upd_ne (ne_of elt hS12 (by intro z; cases z))]; exact elt
        have el' : upd H12 S (.ins Cs d12 (sf c.1 t)) l = some (.lst [.ref lt, .ref c.1, .int past.length]) := by rw [upd_ne (ne_of el hS12 (by intro z; cases z))]; exact el
        generalize upd H12 S (.ins Cs d12 (sf c.1 t)) = H13 at ls13 elt' el'
        refine ⟨(by show 5 ≤ sizeLine; decide), fun la hla => ?_⟩
        have s15 : Same H13 (upd H13 la (.lst told5)) := fun b o e => by rw [upd_ne (ne_of_none e hla)]; exact e
        refine ⟨(by show 1 ≤ sizeLine; decide), fun lb hlb => ?_⟩
        have s16 : Same (upd H13 la (.lst told5)) (upd (upd H13 la (.lst told5)) lb (.lst [.ref la])) := fun b o e => by rw [upd_ne (ne_of_none e hlb)]; exact e
        have ela := s16 _ _ ((upd_same : upd H13 la (.lst told5) la = _))
        have elb : upd (upd H13 la (.lst told5)) lb (.lst [.ref la]) lb = some (.lst [.ref la]) := upd_same
        have ls16 := ls13.same (s15.trans s16)
        have elt16 := s16 _ _ (s15 _ _ elt')
        have el16 := s16 _ _ (s15 _ _ el')
        refine ⟨_, rfl, lb, l6, _, _, rfl, rfl, elb, ls16.k l6 rfl, (by show 3 ≤ sizeLine; decide), fun lc hlc => ?_⟩
        have s17 : Same (upd (upd H13 la (.lst told5)) lb (.lst [.ref la])) (upd (upd (upd H13 la (.lst told5)) lb (.lst [.ref la])) lc (.lst ([.ref la] ++ [.ref c.1, .int past.length]))) := fun b o e => by rw [upd_ne (ne_of_none e hlc)]; exact e
        refine ⟨⟨l, lc, _, _, rfl, rfl, s17 _ _ el16, upd_same, .cons (.inl ⟨lt, la, _, _, rfl, rfl, s17 _ _ elt16, s17 _ _ ela, prs_flat (by decide)⟩) (.cons (.inr (.inl ⟨_, rfl, rfl⟩)) (.cons (.inr (.inr (dflat rfl))) .nil))⟩, fun G' e => ⟨false, rfl, ?_⟩⟩
        exact ⟨rfl, (ls16.same s17).same e⟩
      clear ls14
      rintro σ H' ⟨rfl, ls14⟩
      -- a visitor that is refused
      obtain ⟨dS, t, hS, ht⟩ := ls14.s.at_
      refine ⟨_, rfl, ls14.t, fun vf c' H10 s10 eN nn T10 V10 => ?_⟩
      have ls10 := ls14.extN eN T10
      have hS10 := eN _ _ hS (by intro ps z; cases z)
      have ht10 := eN _ _ ht (by intro ps z; cases z)
      refine ⟨S, vf, dS, c.1, t, _, _, _, _, _, _, Cb, "part", "tops", "part", rfl, lam_raising (S := S) (z := z) rfl rfl rfl GRa dRa, V10, hS10, .inl ⟨rfl, rfl, rfl⟩, fun H11 E1 Q1 s11 hE => ?_⟩
      have ls11 := ls10.same s11
      refine ⟨rfl, S, z, c, past, rfl, ls11.s, by omega, gz, mz, fun H12 xx c3 past3 sb12 hA12 e12 => ?_⟩
      obtain ⟨d12, t12, hS12, _⟩ := hA12.at_
      refine hE xx H12 d12 ⟨SameN.ofB sb12, _, _, hS12⟩ e12 fun G14 lt sG eG => ?_
      have ls13 := LS.after ls11 (s11 _ _ hS10) (s11 _ _ ht10) (SameN.ofB sb12) (Tabs.sameB ls11.t sb12 (s11 _ _ hS10)) hS12
      have ls15 := ls13.same sG
      clear ls13 hE V10 ls11 ls10 T10 s11 s10 eN hS10 ht10 hS ht ls14 e12 hS12 hA12 sb12 sG
      refine ⟨fun σ H' => σ = [some (.ref a), some (.int (0 + (i : Int))), some (.ref p), some (.ref d), some (.int m), v5, some (.ref l6), v7', some (.ref lt), some (.str z), some (.ref S)] ∧ LS T Cs Cn Ct H1 H' S d pl c past (fun l => l = l6), ?_, ?_⟩
      · refine ⟨_, rfl, (by show 2 ≤ sizeLine; decide), fun l hl => ?_⟩
        have sG : Same G14 (upd G14 l (.lst [.str "part", .str "tops"])) := fun b o e => by rw [upd_ne (ne_of_none e hl)]; exact e
        refine ⟨⟨lt, l, _, _, rfl, rfl, sG _ _ eG, upd_same, prs_flat (by decide)⟩, fun G' e => ⟨false, rfl, ?_⟩⟩
        refine stOk _ _ _ rfl rfl (ls15.same (sG.trans e)) fun G2 s2 => ?_
        exact ⟨rfl, (ls15.same (sG.trans e)).same s2⟩
      clear ls15
      rintro σ H' ⟨rfl, ls14⟩
      -- a visitor that undoes too much
      refine ⟨fun σ H' => σ = [some (.ref a), some (.int (0 + (i : Int))), some (.ref p), some (.ref d), some (.int m), v5, some (.ref l6), v7', some (.ref lt), some (.str z), some (.ref S)] ∧ LS T Cs Cn Ct H1 H' S d pl c past (fun l => l = l6), ?_, ?_⟩
      · skip
        obtain ⟨dS, t, hS, ht⟩ := ls14.s.at_
        refine ⟨_, rfl, ls14.t, fun vf c' H10 s10 eN nn T10 V10 => ?_⟩
        have ls10 := ls14.extN eN T10
        have hS10 := eN _ _ hS (by intro ps z; cases z)
        have ht10 := eN _ _ ht (by intro ps z; cases z)
        refine ⟨S, vf, dS, c.1, t, _, _, _, _, _, _, Cu, "name", "undo", "undo", rfl, lam_emptied (S := S) rfl rfl rfl GEm dEm, V10, hS10, .inr ⟨rfl, rfl, rfl⟩, fun H11 E1 Q1 s11 hE => ?_⟩
        have ls11 := ls10.same s11
        refine ⟨rfl, S, c, past, rfl, ls11.s, by omega, fun H12 xx c3 past3 sb12 hA12 e12 => ?_⟩
        obtain ⟨d12, t12, hS12, _⟩ := hA12.at_
        refine hE xx H12 d12 ⟨SameN.ofB sb12, _, _, hS12⟩ e12 fun G14 lt2 sG eG => ?_
        have ls13 := LS.after ls11 (s11 _ _ hS10) (s11 _ _ ht10) (SameN.ofB sb12) (Tabs.sameB ls11.t sb12 (s11 _ _ hS10)) hS12
        have ls15 := ls13.same sG
        refine ⟨(by show 2 ≤ sizeLine; decide), fun l hl => ?_⟩
        have sG : Same G14 (upd G14 l (.lst [.str "undo", .str "undo"])) := fun b o e => by rw [upd_ne (ne_of_none e hl)]; exact e
        refine ⟨⟨lt2, l, _, _, rfl, rfl, sG _ _ eG, upd_same, prs_flat (by decide)⟩, fun G' e => ⟨false, rfl, ?_⟩⟩
        refine stOk _ _ _ rfl rfl (ls15.same (sG.trans e)) fun G2 s2 => ?_
        exact ⟨rfl, (ls15.same (sG.trans e)).same s2⟩
      clear ls14
      rintro σ H' ⟨rfl, ls14⟩
      -- all undone
      refine ⟨fun σ H' => ∃ v5, σ = [some (.ref a), some (.int (0 + (i : Int))), some (.ref p), some (.ref d), some (.int m), v5, some (.ref l6), v7', some (.ref lt), some (.str z), some (.ref S)] ∧ LS T Cs Cn Ct H1 H' S d pl (q1, D1) [] (fun _ => False), ?_, ?_⟩
      · refine ⟨_, rfl, _, rfl, by omega, by omega, for_range (lo := 0) (n := m.toNat) (fun j σ H' => ∃ cj pj v5, σ = [some (.ref a), some (.int (0 + (i : Int))), some (.ref p), some (.ref d), some (.int m), v5, some (.ref l6), v7', some (.ref lt), some (.str z), some (.ref S)] ∧ LS T Cs Cn Ct H1 H' S d pl cj pj (fun _ => False) ∧ pj.length = past.length - j ∧ firstOf cj pj = (q1, D1))
          ⟨c, past, v5, rfl, ⟨ls14.f, ls14.e, ls14.t, ls14.s, ls14.p, fun l h => h.elim⟩, rfl, hf8⟩ ?_ ?_⟩
        · rintro j σ H' hj ⟨cj, pj, v5', rfl, ls, hl, hf⟩
          obtain ⟨dS, t, hS, ht⟩ := ls.s.at_
          refine ⟨_, rfl, S, dS, _, rfl, hS, sf_no _ _ (by decide), S, cj, pj, rfl, ls.s, by omega, fun z => ?_, fun past' x e H'' sb hA => ⟨x, past', _, rfl, ls.move sb hA, ?_, ?_⟩⟩
          · rw [z] at hl
            have : (0 : Nat) = past.length - j := hl
            omega
          · rw [e, List.length_append] at hl
            have : past'.length + 1 = past.length - j := hl
            omega
          · rw [e, first_snoc] at hf
            exact hf
        · rintro σ H' ⟨cj, pj, v5', rfl, ls, hl, hf⟩
          have hn0 : pj.length = 0 := by omega
          cases pj with
          | nil =>
            have hc : cj = (q1, D1) := hf
            rw [hc] at ls
            exact ⟨v5', rfl, ls⟩
          | cons _ _ => exact absurd hn0 (by simp)
      clear ls14
      rintro σ H' ⟨v5', rfl, ls14⟩
      refine ⟨_, rfl, S, (q1, D1), [], rfl, ls14.s, (by decide), fun l hl => ?_⟩
      have s15 : Same H' (upd H' l (.lst [.ref q1, .int 0])) := fun b o e => by rw [upd_ne (ne_of_none e hl)]; exact e
      have ls15 := ls14.same s15
      refine ⟨_, rfl, d, pl, rfl, ls15.p, gpl, fun H16 q2 D2 s16 hT16 g16 fp16 => ?_⟩
      have ls16 := ls15.same s16
      refine ⟨(by show 2 ≤ sizeLine; decide), fun l2 hl2 => ?_⟩
      have s17 : Same H16 (upd H16 l2 (.lst [.ref q2, .int 0])) := fun b o e => by rw [upd_ne (ne_of_none e hl2)]; exact e
      have ls17 := ls16.same s17
      have hF' := ls17.s.now
      have hT17 := hT16.same s17
      obtain ⟨dx1, r1, k1, e1', z1⟩ := id hF'
      obtain ⟨dx2, r2, k2, e2', z2⟩ := id hT17
      refine ⟨⟨l, l2, _, _, rfl, rfl, s17 _ _ (s16 _ _ upd_same), upd_same, .cons (.inl ⟨q1, q2, dx1, dx2, _, _, rfl, rfl, e1', e2', D1, D2, hF', hT17, FromPlan.sameD gpl fp4 fp16⟩) (.cons (.inr (dflat rfl)) .nil)⟩, fun G' e => ⟨false, rfl, ?_⟩⟩
      exact ⟨⟨_, _, _, _, _, _, _, _, _, _, rfl⟩, e1.trans (ls17.same e).e, (ls17.same e).t⟩
    · rintro σ H' ⟨_, _, _⟩
      exact q H'
end
end CT
set_option Elab.async false
set_option linter.all false
set_option maxRecDepth 100000
set_option maxHeartbeats 4000000
/-! W18: what the top has written, the law's promise at the head (printed by genW18.py) -/
namespace CT
open PySem L2 LamX NdefX KL
theorem codeHd_one {K : PySem.W.Frag} {c P : Addr} {o : Obj} (l : K.lookup c = some o) (b : PySem.W.codeHdIn [(c, o)] c P = true) : PySem.W.codeHdIn K c P = true := by
  have e : List.lookup c [(c, o)] = K.lookup c := by rw [l, List.lookup_cons, beq_self_eq_true]
  unfold PySem.W.codeHdIn at b ⊢
  rw [← e]
  exact b
theorem exmR {K : PySem.W.Frag} {S D : Addr} {b : Bool} (h1 : PySem.W.subIn K (.ref D) (.type "BaseException") = some true) (h2 : PySem.W.isClsIn K D = true) (h3 : PySem.W.typeIn K (.ref D) = some (.type "type")) (h4 : PySem.W.subIn K (.ref S) (.ref D) = some b) :
    PySem.W.exmOne K (.ref S) (.ref D) = some b := by
  have e1 : (PySem.W.subIn K (.ref D) (.type "BaseException") == some true) = true := by rw [h1] <;> rfl
  have e2 : ((PySem.W.clsIn K D).isSome && PySem.W.typeIn K (.ref D) == some (.type "type")) = true := by
    have h2' : (PySem.W.clsIn K D).isSome = true := h2
    rw [h2', h3] <;> rfl
  show (if (PySem.W.subIn K (.ref D) (.type "BaseException") == some true) = true then (if ((PySem.W.clsIn K D).isSome && PySem.W.typeIn K (.ref D) == some (.type "type")) = true then PySem.W.subIn K (.ref S) (.ref D) else none) else none) = some b
  rw [if_pos e1, if_pos e2]
  exact h4
theorem till_dflt {K : PySem.W.Frag} {f DT : Addr} {oc doc pm cdv ct : Value} {od an : Option Addr} {osl : Array (Option Value)} (l : K.lookup f = some ⟨oc, od, .func (PySem.W.fnOf "__init__" "Till.__init__" (defArgs sTillInit) (defBody sTillInit) (defScope sTillInit) .none (.ref DT) doc pm an cdv ct), osl⟩)
    (c : PySem.W.codeIn K cdv "Till.__init__" = true) (k : PySem.W.keepIn K (.ref f) = true) (d : PySem.W.nsIn K DT "heeds" = some (some (.bool true))) :
    ∃ ds, Vals [V.bl true] ds ∧ Binds K (PySem.W.fnOf "__init__" "Till.__init__" (defArgs sTillInit) (defBody sTillInit) (defScope sTillInit) .none (.ref DT) doc pm an cdv ct) ["self", "name", "limit", "heeds"] ds := by
  have F : FunD K "__init__" "Till.__init__" (defArgs sTillInit) (defBody sTillInit) (defScope sTillInit) [] [("heeds", V.bl true)] f (PySem.W.fnOf "__init__" "Till.__init__" (defArgs sTillInit) (defBody sTillInit) (defScope sTillInit) .none (.ref DT) doc pm an cdv ct) :=
    ⟨⟨oc, od, .none, .ref DT, doc, pm, an, cdv, ct, osl, rfl, l, c, .inl ⟨rfl, rfl⟩, .inr ⟨DT, rfl, fun q hq => by
      cases List.mem_singleton.mp hq
      exact ⟨_, d, rfl⟩⟩⟩, k⟩
  exact F.binds0 (ps := ["self", "name", "limit", "heeds"]) 3 (by decide) rfl fun D doc pm an cdv ct us ks h1 h2 => match us, ks, h1, h2 with
    | [_, _, _], [_], _, _ => ⟨_, _, _, _, _, _, rfl, rfl, rfl⟩

theorem all_mk {l : PySem.W.OpenLaw} {w : World} {K : PySem.W.Frag} {h : Heap} {mg : Str → Option Value} {fa : Addr} (X : K.In h) (G : h.Ns mainGlobals mg) (hfa : mg "law" = some (.ref fa))
    {Ct Cn Cs Cr Cb Cu C0 DT cL cI PL PI f_isInt f_isBet f_isNam f_hasK f_isMem f_chT f_isL f_chL f_chP f_pool f_draw f_pick f_nms f_plan f_lmade f_state f_visit f_undg f_rais f_inner f_refd f_empt f_law f_tI f_tE f_nI f_nH f_nG f_nE f_nN f_nS f_nM f_nP f_nW f_nC f_sI f_sC f_sL f_sG f_sP f_sA f_sU f_sT f_sAt f_rI f_rE f_rX f_bI f_uI : Addr} {tg1 tg2 tg3 tg4 tg5 : Tok} {tg0 tp0 tp1 tp2 tp3 : Tok}
    {nmCb qCb : Str} {NCb : Addr} {bsCb bmCb : List Value} {snCb : List Str} {subCb : List Value} {abCb : Bool} {colCb : Option Bool} {ddCb : Option Addr} {m0Cb m1Cb m2Cb m3Cb m5Cb : Option Value}
    {nmCu qCu : Str} {NCu : Addr} {bsCu bmCu : List Value} {snCu : List Str} {subCu : List Value} {abCu : Bool} {colCu : Option Bool} {ddCu : Option Addr} {m0Cu m1Cu m2Cu m3Cu m5Cu : Option Value}
    {pa : Addr} {odP : Option Addr} {npP : Nat} {slP : Array (Option Value)}
    {oc_isInt kV_isInt dc_isInt pm_isInt cd_isInt ct_isInt : Value} {od_isInt an_isInt : Option Addr} {sl_isInt : Array (Option Value)}
    {oc_isBet kV_isBet dc_isBet pm_isBet cd_isBet ct_isBet : Value} {od_isBet an_isBet : Option Addr} {sl_isBet : Array (Option Value)}
    {oc_isNam kV_isNam dc_isNam pm_isNam cd_isNam ct_isNam : Value} {od_isNam an_isNam : Option Addr} {sl_isNam : Array (Option Value)}
    {oc_hasK kV_hasK dc_hasK pm_hasK cd_hasK ct_hasK : Value} {od_hasK an_hasK : Option Addr} {sl_hasK : Array (Option Value)}
    {oc_isMem kV_isMem dc_isMem pm_isMem cd_isMem ct_isMem : Value} {od_isMem an_isMem : Option Addr} {sl_isMem : Array (Option Value)}
    {oc_chT kV_chT dc_chT pm_chT cd_chT ct_chT : Value} {od_chT an_chT : Option Addr} {sl_chT : Array (Option Value)}
    {oc_isL kV_isL dc_isL pm_isL cd_isL ct_isL : Value} {od_isL an_isL : Option Addr} {sl_isL : Array (Option Value)}
    {oc_chL kV_chL dc_chL pm_chL cd_chL ct_chL : Value} {od_chL an_chL : Option Addr} {sl_chL : Array (Option Value)}
    {oc_chP kV_chP dc_chP pm_chP cd_chP ct_chP : Value} {od_chP an_chP : Option Addr} {sl_chP : Array (Option Value)}
    {oc_pool kV_pool dc_pool pm_pool cd_pool ct_pool : Value} {od_pool an_pool : Option Addr} {sl_pool : Array (Option Value)}
    {oc_draw kV_draw dc_draw pm_draw cd_draw ct_draw : Value} {od_draw an_draw : Option Addr} {sl_draw : Array (Option Value)}
    {oc_pick kV_pick dc_pick pm_pick cd_pick ct_pick : Value} {od_pick an_pick : Option Addr} {sl_pick : Array (Option Value)}
    {oc_nms kV_nms dc_nms pm_nms cd_nms ct_nms : Value} {od_nms an_nms : Option Addr} {sl_nms : Array (Option Value)}
    {oc_plan kV_plan dc_plan pm_plan cd_plan ct_plan : Value} {od_plan an_plan : Option Addr} {sl_plan : Array (Option Value)}
    {oc_lmade kV_lmade dc_lmade pm_lmade cd_lmade ct_lmade : Value} {od_lmade an_lmade : Option Addr} {sl_lmade : Array (Option Value)}
    {oc_state kV_state dc_state pm_state cd_state ct_state : Value} {od_state an_state : Option Addr} {sl_state : Array (Option Value)}
    {oc_visit kV_visit dc_visit pm_visit cd_visit ct_visit : Value} {od_visit an_visit : Option Addr} {sl_visit : Array (Option Value)}
    {oc_undg kV_undg dc_undg pm_undg cd_undg ct_undg : Value} {od_undg an_undg : Option Addr} {sl_undg : Array (Option Value)}
    {oc_rais kV_rais dc_rais pm_rais cd_rais ct_rais : Value} {od_rais an_rais : Option Addr} {sl_rais : Array (Option Value)}
    {oc_inner kV_inner dc_inner pm_inner ct_inner : Value} {od_inner an_inner : Option Addr} {sl_inner : Array (Option Value)}
    {oc_refd kV_refd dc_refd pm_refd cd_refd ct_refd : Value} {od_refd an_refd : Option Addr} {sl_refd : Array (Option Value)}
    {oc_empt kV_empt dc_empt pm_empt cd_empt ct_empt : Value} {od_empt an_empt : Option Addr} {sl_empt : Array (Option Value)}
    {oc_law kV_law dc_law pm_law ct_law : Value} {od_law an_law : Option Addr} {sl_law : Array (Option Value)}
    {oc_tI dc_tI pm_tI cd_tI ct_tI : Value} {od_tI an_tI : Option Addr} {sl_tI : Array (Option Value)}
    {oc_tE kV_tE dc_tE pm_tE cd_tE ct_tE : Value} {od_tE an_tE : Option Addr} {sl_tE : Array (Option Value)}
    {oc_nI kV_nI dc_nI pm_nI cd_nI ct_nI : Value} {od_nI an_nI : Option Addr} {sl_nI : Array (Option Value)}
    {oc_nH kV_nH dc_nH pm_nH cd_nH ct_nH : Value} {od_nH an_nH : Option Addr} {sl_nH : Array (Option Value)}
    {oc_nG kV_nG dc_nG pm_nG cd_nG ct_nG : Value} {od_nG an_nG : Option Addr} {sl_nG : Array (Option Value)}
    {oc_nE kV_nE dc_nE pm_nE cd_nE ct_nE : Value} {od_nE an_nE : Option Addr} {sl_nE : Array (Option Value)}
    {oc_nN kV_nN dc_nN pm_nN cd_nN ct_nN : Value} {od_nN an_nN : Option Addr} {sl_nN : Array (Option Value)}
    {oc_nS kV_nS dc_nS pm_nS cd_nS ct_nS : Value} {od_nS an_nS : Option Addr} {sl_nS : Array (Option Value)}
    {oc_nM kV_nM dc_nM pm_nM cd_nM ct_nM : Value} {od_nM an_nM : Option Addr} {sl_nM : Array (Option Value)}
    {oc_nP kV_nP dc_nP pm_nP cd_nP ct_nP : Value} {od_nP an_nP : Option Addr} {sl_nP : Array (Option Value)}
    {oc_nW kV_nW dc_nW pm_nW cd_nW ct_nW : Value} {od_nW an_nW : Option Addr} {sl_nW : Array (Option Value)}
    {oc_nC kV_nC dc_nC pm_nC cd_nC ct_nC : Value} {od_nC an_nC : Option Addr} {sl_nC : Array (Option Value)}
    {oc_sI kV_sI dc_sI pm_sI cd_sI ct_sI : Value} {od_sI an_sI : Option Addr} {sl_sI : Array (Option Value)}
    {oc_sC kV_sC dc_sC pm_sC cd_sC ct_sC : Value} {od_sC an_sC : Option Addr} {sl_sC : Array (Option Value)}
    {oc_sL kV_sL dc_sL pm_sL cd_sL ct_sL : Value} {od_sL an_sL : Option Addr} {sl_sL : Array (Option Value)}
    {oc_sG kV_sG dc_sG pm_sG cd_sG ct_sG : Value} {od_sG an_sG : Option Addr} {sl_sG : Array (Option Value)}
    {oc_sP kV_sP dc_sP pm_sP cd_sP ct_sP : Value} {od_sP an_sP : Option Addr} {sl_sP : Array (Option Value)}
    {oc_sA kV_sA dc_sA pm_sA cd_sA ct_sA : Value} {od_sA an_sA : Option Addr} {sl_sA : Array (Option Value)}
    {oc_sU kV_sU dc_sU pm_sU cd_sU ct_sU : Value} {od_sU an_sU : Option Addr} {sl_sU : Array (Option Value)}
    {oc_sT kV_sT dc_sT pm_sT cd_sT ct_sT : Value} {od_sT an_sT : Option Addr} {sl_sT : Array (Option Value)}
    {oc_sAt kV_sAt dc_sAt pm_sAt cd_sAt ct_sAt : Value} {od_sAt an_sAt : Option Addr} {sl_sAt : Array (Option Value)}
    {oc_rI kV_rI dc_rI pm_rI cd_rI ct_rI : Value} {od_rI an_rI : Option Addr} {sl_rI : Array (Option Value)}
    {oc_rE kV_rE dc_rE pm_rE cd_rE ct_rE : Value} {od_rE an_rE : Option Addr} {sl_rE : Array (Option Value)}
    {oc_rX kV_rX dc_rX pm_rX cd_rX ct_rX : Value} {od_rX an_rX : Option Addr} {sl_rX : Array (Option Value)}
    {oc_bI kV_bI dc_bI pm_bI cd_bI ct_bI : Value} {od_bI an_bI : Option Addr} {sl_bI : Array (Option Value)}
    {oc_uI kV_uI dc_uI pm_uI cd_uI ct_uI : Value} {od_uI an_uI : Option Addr} {sl_uI : Array (Option Value)}
    {odcL : Option Addr} {vscL : Array Value} {slcL : Array (Option Value)}
    {odcI : Option Addr} {vscI : Array Value} {slcI : Array (Option Value)}
    (z_isinstance : PySem.W.nsIn K mainGlobals "isinstance" = some none)
    (z_int : PySem.W.nsIn K mainGlobals "int" = some none)
    (z_bool : PySem.W.nsIn K mainGlobals "bool" = some none)
    (z_str : PySem.W.nsIn K mainGlobals "str" = some none)
    (z_len : PySem.W.nsIn K mainGlobals "len" = some none)
    (z_all : PySem.W.nsIn K mainGlobals "all" = some none)
    (z_any : PySem.W.nsIn K mainGlobals "any" = some none)
    (z_tuple : PySem.W.nsIn K mainGlobals "tuple" = some none)
    (z_list : PySem.W.nsIn K mainGlobals "list" = some none)
    (z_sorted : PySem.W.nsIn K mainGlobals "sorted" = some none)
    (z_enumerate : PySem.W.nsIn K mainGlobals "enumerate" = some none)
    (z_dict : PySem.W.nsIn K mainGlobals "dict" = some none)
    (z_zip : PySem.W.nsIn K mainGlobals "zip" = some none)
    (z_range : PySem.W.nsIn K mainGlobals "range" = some none)
    (z_max : PySem.W.nsIn K mainGlobals "max" = some none)
    (z_min : PySem.W.nsIn K mainGlobals "min" = some none)
    (z_sum : PySem.W.nsIn K mainGlobals "sum" = some none)
    (z_abs : PySem.W.nsIn K mainGlobals "abs" = some none)
    (k_letters : PySem.W.nsIn K mainGlobals "LETTERS" = some (some (.str "abcdefghijklmnopqrstuvwxyz" tg0)))
    (k_mostLetters : PySem.W.nsIn K mainGlobals "MOST_LETTERS" = some (some (.int 8 tg1)))
    (k_mostLimit : PySem.W.nsIn K mainGlobals "MOST_LIMIT" = some (some (.int 9 tg2)))
    (k_mostMoney : PySem.W.nsIn K mainGlobals "MOST_MONEY" = some (some (.int 9 tg3)))
    (k_mostTops : PySem.W.nsIn K mainGlobals "MOST_TOPS" = some (some (.int 5 tg4)))
    (k_mostTills : PySem.W.nsIn K mainGlobals "MOST_TILLS" = some (some (.int 4 tg5)))
    (aCt : PySem.W.nsIn K mainGlobals "Till" = some (some (.ref Ct)))
    (aCn : PySem.W.nsIn K mainGlobals "Town" = some (some (.ref Cn)))
    (aCs : PySem.W.nsIn K mainGlobals "Session" = some (some (.ref Cs)))
    (aCr : PySem.W.nsIn K mainGlobals "Trial" = some (some (.ref Cr)))
    (aCb : PySem.W.nsIn K mainGlobals "BadPart" = some (some (.ref Cb)))
    (aCu : PySem.W.nsIn K mainGlobals "NothingToUndo" = some (some (.ref Cu)))
    (aC0 : PySem.W.nsIn K mainGlobals "TownError" = some (some (.ref C0)))
    (pgCt : PySem.W.plainGet K Ct Str.empty = true)
    (hdCt : PySem.W.hasDictIn K Ct = true)
    (poCt : PySem.W.plainOver K Ct = true)
    (saCt : PySem.W.findIn K (.ref Ct) "__setattr__" = some (some (.builtin "object.__setattr__")))
    (mkCt : PySem.W.makesIn K Ct = true)
    (kcCt : PySem.W.keepIn K (.ref Ct) = true)
    (pgCn : PySem.W.plainGet K Cn Str.empty = true)
    (hdCn : PySem.W.hasDictIn K Cn = true)
    (poCn : PySem.W.plainOver K Cn = true)
    (saCn : PySem.W.findIn K (.ref Cn) "__setattr__" = some (some (.builtin "object.__setattr__")))
    (mkCn : PySem.W.makesIn K Cn = true)
    (kcCn : PySem.W.keepIn K (.ref Cn) = true)
    (pgCs : PySem.W.plainGet K Cs Str.empty = true)
    (hdCs : PySem.W.hasDictIn K Cs = true)
    (poCs : PySem.W.plainOver K Cs = true)
    (saCs : PySem.W.findIn K (.ref Cs) "__setattr__" = some (some (.builtin "object.__setattr__")))
    (mkCs : PySem.W.makesIn K Cs = true)
    (kcCs : PySem.W.keepIn K (.ref Cs) = true)
    (pgCr : PySem.W.plainGet K Cr Str.empty = true)
    (hdCr : PySem.W.hasDictIn K Cr = true)
    (poCr : PySem.W.plainOver K Cr = true)
    (saCr : PySem.W.findIn K (.ref Cr) "__setattr__" = some (some (.builtin "object.__setattr__")))
    (mkCr : PySem.W.makesIn K Cr = true)
    (kcCr : PySem.W.keepIn K (.ref Cr) = true)
    (haCt : PySem.W.findIn K (.ref Ct) "__class__" = some (some (.builtin "object.__class__")))
    (hmCt : PySem.W.mroIn K Ct (.type "object") = some true)
    (haCn : PySem.W.findIn K (.ref Cn) "__class__" = some (some (.builtin "object.__class__")))
    (hmCn : PySem.W.mroIn K Cn (.type "object") = some true)
    (hn : PySem.W.specialIn K (.builtin "object.__class__") "__get__" = some (some (.builtin "getset_descriptor.__get__")))
    (htk : PySem.W.takesIn K (.builtin "object.__class__") = some true)
    (nCt_name : PySem.W.findIn K (.ref Ct) "name" = some none)
    (nCt_limit : PySem.W.findIn K (.ref Ct) "limit" = some none)
    (nCt_heeds : PySem.W.findIn K (.ref Ct) "heeds" = some none)
    (nCn_row : PySem.W.findIn K (.ref Cn) "row" = some none)
    (nCn_links : PySem.W.findIn K (.ref Cn) "links" = some none)
    (nCn_money : PySem.W.findIn K (.ref Cn) "money" = some none)
    (nCn_memory : PySem.W.findIn K (.ref Cn) "memory" = some none)
    (nCn_tops : PySem.W.findIn K (.ref Cn) "tops" = some none)
    (nCn_numbered : PySem.W.findIn K (.ref Cn) "numbered" = some none)
    (nCs_now : PySem.W.findIn K (.ref Cs) "now" = some none)
    (nCs_past : PySem.W.findIn K (.ref Cs) "past" = some none)
    (nCr_session : PySem.W.findIn K (.ref Cr) "session" = some none)
    (nCr_kept_now : PySem.W.findIn K (.ref Cr) "kept_now" = some none)
    (nCr_kept_past : PySem.W.findIn K (.ref Cr) "kept_past" = some none)
    (nCb_part : PySem.W.findIn K (.ref Cb) "part" = some none)
    (nCu_name : PySem.W.findIn K (.ref Cu) "name" = some none)
    (nne : PySem.W.findIn K (.ref Cn) "__ne__" = some (some (.builtin "object.__ne__")))
    (xCb : K.lookup Cb = some (excClassObj nmCb qCb Cb NCb bsCb bmCb true snCb subCb abCb colCb ddCb m0Cb m1Cb m2Cb m3Cb m5Cb "ValueError.__new__"))
    (etCb : PySem.W.excTail [.type "ValueError", .type "Exception", .type "BaseException", .type "object"] bmCb = true)
    (esCb : PySem.W.findIn K (.ref Cb) "__setattr__" = some (some (.builtin "object.__setattr__")))
    (gaCb : PySem.W.findIn K (.ref Cb) "__getattribute__" = some (some (.builtin "BaseException.__getattribute__")))
    (ggCb : PySem.W.findIn K (.ref Cb) "__getattr__" = some none)
    (exCb : PySem.W.subIn K (.ref Cb) (.type "BaseException") = some true)
    (tyCb : PySem.W.typeIn K (.ref Cb) = some (.type "type"))
    (ekCb : PySem.W.keepIn K (.ref Cb) = true)
    (ehCb : PySem.W.hasDictIn K Cb = true)
    (icCb : PySem.W.isClsIn K Cb = true)
    (ssCb : PySem.W.subIn K (.ref Cb) (.ref Cb) = some true)
    (xCu : K.lookup Cu = some (excClassObj nmCu qCu Cu NCu bsCu bmCu true snCu subCu abCu colCu ddCu m0Cu m1Cu m2Cu m3Cu m5Cu "RuntimeError.__new__"))
    (etCu : PySem.W.excTail [.type "RuntimeError", .type "Exception", .type "BaseException", .type "object"] bmCu = true)
    (esCu : PySem.W.findIn K (.ref Cu) "__setattr__" = some (some (.builtin "object.__setattr__")))
    (gaCu : PySem.W.findIn K (.ref Cu) "__getattribute__" = some (some (.builtin "BaseException.__getattribute__")))
    (ggCu : PySem.W.findIn K (.ref Cu) "__getattr__" = some none)
    (exCu : PySem.W.subIn K (.ref Cu) (.type "BaseException") = some true)
    (tyCu : PySem.W.typeIn K (.ref Cu) = some (.type "type"))
    (ekCu : PySem.W.keepIn K (.ref Cu) = true)
    (ehCu : PySem.W.hasDictIn K Cu = true)
    (icCu : PySem.W.isClsIn K Cu = true)
    (ssCu : PySem.W.subIn K (.ref Cu) (.ref Cu) = some true)
    (sub : PySem.W.subIn K (.ref Cu) (.ref Cb) = some false)
    (brd : PySem.W.readsIn K C0 (.type "type") = true)
    (bga : PySem.W.specialIn K (.ref C0) "__getattribute__" = some (some (.builtin "type.__getattribute__")))
    (bv : PySem.W.findCls K (.ref C0) (.type "type") "__init__" = some (.val (.builtin "ValueError.__init__")))
    (z_RuntimeError : PySem.W.nsIn K mainGlobals "RuntimeError" = some none)
    (rv : PySem.W.findCls K (.type "RuntimeError") (.type "type") "__init__" = some (.val (.builtin "RuntimeError.__init__")))
    (aP : PySem.W.nsIn K mainGlobals "PARTS" = some (some (.ref pa)))
    (lP : K.lookup pa = some ⟨.type "tuple", odP, .seq #[.str "money" tp0, .str "memory" tp1, .str "tops" tp2, .str "numbered" tp3] npP, slP⟩)
    (a_isInt : PySem.W.nsIn K mainGlobals "is_integer" = some (some (.ref f_isInt)))
    (l_isInt : K.lookup f_isInt = some ⟨oc_isInt, od_isInt, .func (PySem.W.fnOf "is_integer" "is_integer" (defArgs sIsInteger) (defBody sIsInteger) (defScope sIsInteger) .none kV_isInt dc_isInt pm_isInt an_isInt cd_isInt ct_isInt), sl_isInt⟩)
    (c_isInt : PySem.W.codeIn K cd_isInt "is_integer" = true)
    (k_isInt : PySem.W.keepIn K (.ref f_isInt) = true)
    (a_isBet : PySem.W.nsIn K mainGlobals "is_between" = some (some (.ref f_isBet)))
    (l_isBet : K.lookup f_isBet = some ⟨oc_isBet, od_isBet, .func (PySem.W.fnOf "is_between" "is_between" (defArgs sIsBetween) (defBody sIsBetween) (defScope sIsBetween) .none kV_isBet dc_isBet pm_isBet an_isBet cd_isBet ct_isBet), sl_isBet⟩)
    (c_isBet : PySem.W.codeIn K cd_isBet "is_between" = true)
    (k_isBet : PySem.W.keepIn K (.ref f_isBet) = true)
    (a_isNam : PySem.W.nsIn K mainGlobals "is_name" = some (some (.ref f_isNam)))
    (l_isNam : K.lookup f_isNam = some ⟨oc_isNam, od_isNam, .func (PySem.W.fnOf "is_name" "is_name" (defArgs sIsName) (defBody sIsName) (defScope sIsName) .none kV_isNam dc_isNam pm_isNam an_isNam cd_isNam ct_isNam), sl_isNam⟩)
    (c_isNam : PySem.W.codeIn K cd_isNam "is_name" = true)
    (k_isNam : PySem.W.keepIn K (.ref f_isNam) = true)
    (a_hasK : PySem.W.nsIn K mainGlobals "has_kind" = some (some (.ref f_hasK)))
    (l_hasK : K.lookup f_hasK = some ⟨oc_hasK, od_hasK, .func (PySem.W.fnOf "has_kind" "has_kind" (defArgs sHasKind) (defBody sHasKind) (defScope sHasKind) .none kV_hasK dc_hasK pm_hasK an_hasK cd_hasK ct_hasK), sl_hasK⟩)
    (c_hasK : PySem.W.codeIn K cd_hasK "has_kind" = true)
    (k_hasK : PySem.W.keepIn K (.ref f_hasK) = true)
    (a_isMem : PySem.W.nsIn K mainGlobals "is_memory" = some (some (.ref f_isMem)))
    (l_isMem : K.lookup f_isMem = some ⟨oc_isMem, od_isMem, .func (PySem.W.fnOf "is_memory" "is_memory" (defArgs sIsMemory) (defBody sIsMemory) (defScope sIsMemory) .none kV_isMem dc_isMem pm_isMem an_isMem cd_isMem ct_isMem), sl_isMem⟩)
    (c_isMem : PySem.W.codeIn K cd_isMem "is_memory" = true)
    (k_isMem : PySem.W.keepIn K (.ref f_isMem) = true)
    (a_chT : PySem.W.nsIn K mainGlobals "checked_tills" = some (some (.ref f_chT)))
    (l_chT : K.lookup f_chT = some ⟨oc_chT, od_chT, .func (PySem.W.fnOf "checked_tills" "checked_tills" (defArgs sCheckedTills) (defBody sCheckedTills) (defScope sCheckedTills) .none kV_chT dc_chT pm_chT an_chT cd_chT ct_chT), sl_chT⟩)
    (c_chT : PySem.W.codeIn K cd_chT "checked_tills" = true)
    (k_chT : PySem.W.keepIn K (.ref f_chT) = true)
    (a_isL : PySem.W.nsIn K mainGlobals "is_link" = some (some (.ref f_isL)))
    (l_isL : K.lookup f_isL = some ⟨oc_isL, od_isL, .func (PySem.W.fnOf "is_link" "is_link" (defArgs sIsLink) (defBody sIsLink) (defScope sIsLink) .none kV_isL dc_isL pm_isL an_isL cd_isL ct_isL), sl_isL⟩)
    (c_isL : PySem.W.codeIn K cd_isL "is_link" = true)
    (k_isL : PySem.W.keepIn K (.ref f_isL) = true)
    (a_chL : PySem.W.nsIn K mainGlobals "checked_links" = some (some (.ref f_chL)))
    (l_chL : K.lookup f_chL = some ⟨oc_chL, od_chL, .func (PySem.W.fnOf "checked_links" "checked_links" (defArgs sCheckedLinks) (defBody sCheckedLinks) (defScope sCheckedLinks) .none kV_chL dc_chL pm_chL an_chL cd_chL ct_chL), sl_chL⟩)
    (c_chL : PySem.W.codeIn K cd_chL "checked_links" = true)
    (k_chL : PySem.W.keepIn K (.ref f_chL) = true)
    (a_chP : PySem.W.nsIn K mainGlobals "check_parts" = some (some (.ref f_chP)))
    (l_chP : K.lookup f_chP = some ⟨oc_chP, od_chP, .func (PySem.W.fnOf "check_parts" "check_parts" (defArgs sCheckParts) (defBody sCheckParts) (defScope sCheckParts) .none kV_chP dc_chP pm_chP an_chP cd_chP ct_chP), sl_chP⟩)
    (c_chP : PySem.W.codeIn K cd_chP "check_parts" = true)
    (k_chP : PySem.W.keepIn K (.ref f_chP) = true)
    (a_pool : PySem.W.nsIn K mainGlobals "_law_pool" = some (some (.ref f_pool)))
    (l_pool : K.lookup f_pool = some ⟨oc_pool, od_pool, .func (PySem.W.fnOf "_law_pool" "_law_pool" (defArgs sPool) (defBody sPool) (defScope sPool) .none kV_pool dc_pool pm_pool an_pool cd_pool ct_pool), sl_pool⟩)
    (c_pool : PySem.W.codeIn K cd_pool "_law_pool" = true)
    (k_pool : PySem.W.keepIn K (.ref f_pool) = true)
    (a_draw : PySem.W.nsIn K mainGlobals "_law_draw" = some (some (.ref f_draw)))
    (l_draw : K.lookup f_draw = some ⟨oc_draw, od_draw, .func (PySem.W.fnOf "_law_draw" "_law_draw" (defArgs sDraw) (defBody sDraw) (defScope sDraw) .none kV_draw dc_draw pm_draw an_draw cd_draw ct_draw), sl_draw⟩)
    (c_draw : PySem.W.codeIn K cd_draw "_law_draw" = true)
    (k_draw : PySem.W.keepIn K (.ref f_draw) = true)
    (a_pick : PySem.W.nsIn K mainGlobals "_law_pick" = some (some (.ref f_pick)))
    (l_pick : K.lookup f_pick = some ⟨oc_pick, od_pick, .func (PySem.W.fnOf "_law_pick" "_law_pick" (defArgs sPick) (defBody sPick) (defScope sPick) .none kV_pick dc_pick pm_pick an_pick cd_pick ct_pick), sl_pick⟩)
    (c_pick : PySem.W.codeIn K cd_pick "_law_pick" = true)
    (k_pick : PySem.W.keepIn K (.ref f_pick) = true)
    (a_nms : PySem.W.nsIn K mainGlobals "_law_names" = some (some (.ref f_nms)))
    (l_nms : K.lookup f_nms = some ⟨oc_nms, od_nms, .func (PySem.W.fnOf "_law_names" "_law_names" (defArgs sNames) (defBody sNames) (defScope sNames) .none kV_nms dc_nms pm_nms an_nms cd_nms ct_nms), sl_nms⟩)
    (c_nms : PySem.W.codeIn K cd_nms "_law_names" = true)
    (k_nms : PySem.W.keepIn K (.ref f_nms) = true)
    (a_plan : PySem.W.nsIn K mainGlobals "_law_plan" = some (some (.ref f_plan)))
    (l_plan : K.lookup f_plan = some ⟨oc_plan, od_plan, .func (PySem.W.fnOf "_law_plan" "_law_plan" (defArgs sPlan) (defBody sPlan) (defScope sPlan) .none kV_plan dc_plan pm_plan an_plan cd_plan ct_plan), sl_plan⟩)
    (c_plan : PySem.W.codeIn K cd_plan "_law_plan" = true)
    (k_plan : PySem.W.keepIn K (.ref f_plan) = true)
    (a_lmade : PySem.W.nsIn K mainGlobals "_law_made" = some (some (.ref f_lmade)))
    (l_lmade : K.lookup f_lmade = some ⟨oc_lmade, od_lmade, .func (PySem.W.fnOf "_law_made" "_law_made" (defArgs sMade) (defBody sMade) (defScope sMade) .none kV_lmade dc_lmade pm_lmade an_lmade cd_lmade ct_lmade), sl_lmade⟩)
    (c_lmade : PySem.W.codeIn K cd_lmade "_law_made" = true)
    (k_lmade : PySem.W.keepIn K (.ref f_lmade) = true)
    (a_state : PySem.W.nsIn K mainGlobals "_law_state" = some (some (.ref f_state)))
    (l_state : K.lookup f_state = some ⟨oc_state, od_state, .func (PySem.W.fnOf "_law_state" "_law_state" (defArgs sState) (defBody sState) (defScope sState) .none kV_state dc_state pm_state an_state cd_state ct_state), sl_state⟩)
    (c_state : PySem.W.codeIn K cd_state "_law_state" = true)
    (k_state : PySem.W.keepIn K (.ref f_state) = true)
    (a_visit : PySem.W.nsIn K mainGlobals "_law_visit" = some (some (.ref f_visit)))
    (l_visit : K.lookup f_visit = some ⟨oc_visit, od_visit, .func (PySem.W.fnOf "_law_visit" "_law_visit" (defArgs sVisit) (defBody sVisit) (defScope sVisit) .none kV_visit dc_visit pm_visit an_visit cd_visit ct_visit), sl_visit⟩)
    (c_visit : PySem.W.codeIn K cd_visit "_law_visit" = true)
    (k_visit : PySem.W.keepIn K (.ref f_visit) = true)
    (a_undg : PySem.W.nsIn K mainGlobals "_law_undoing" = some (some (.ref f_undg)))
    (l_undg : K.lookup f_undg = some ⟨oc_undg, od_undg, .func (PySem.W.fnOf "_law_undoing" "_law_undoing" (defArgs sUndoing) (defBody sUndoing) (defScope sUndoing) .none kV_undg dc_undg pm_undg an_undg cd_undg ct_undg), sl_undg⟩)
    (c_undg : PySem.W.codeIn K cd_undg "_law_undoing" = true)
    (k_undg : PySem.W.keepIn K (.ref f_undg) = true)
    (a_rais : PySem.W.nsIn K mainGlobals "_law_raising" = some (some (.ref f_rais)))
    (l_rais : K.lookup f_rais = some ⟨oc_rais, od_rais, .func (PySem.W.fnOf "_law_raising" "_law_raising" (defArgs sRaising) (defBody sRaising) (defScope sRaising) .none kV_rais dc_rais pm_rais an_rais cd_rais ct_rais), sl_rais⟩)
    (c_rais : PySem.W.codeIn K cd_rais "_law_raising" = true)
    (k_rais : PySem.W.keepIn K (.ref f_rais) = true)
    (a_inner : PySem.W.nsIn K mainGlobals "_law_inner" = some (some (.ref f_inner)))
    (l_inner : K.lookup f_inner = some ⟨oc_inner, od_inner, .func (PySem.W.fnOf "_law_inner" "_law_inner" (defArgs sInner) (defBody sInner) (defScope sInner) .none kV_inner dc_inner pm_inner an_inner (.ref cI) ct_inner), sl_inner⟩)
    (c_inner : PySem.W.codeIn K (.ref cI) "_law_inner" = true)
    (k_inner : PySem.W.keepIn K (.ref f_inner) = true)
    (a_refd : PySem.W.nsIn K mainGlobals "_law_refused" = some (some (.ref f_refd)))
    (l_refd : K.lookup f_refd = some ⟨oc_refd, od_refd, .func (PySem.W.fnOf "_law_refused" "_law_refused" (defArgs sRefused) (defBody sRefused) (defScope sRefused) .none kV_refd dc_refd pm_refd an_refd cd_refd ct_refd), sl_refd⟩)
    (c_refd : PySem.W.codeIn K cd_refd "_law_refused" = true)
    (k_refd : PySem.W.keepIn K (.ref f_refd) = true)
    (a_empt : PySem.W.nsIn K mainGlobals "_law_emptied" = some (some (.ref f_empt)))
    (l_empt : K.lookup f_empt = some ⟨oc_empt, od_empt, .func (PySem.W.fnOf "_law_emptied" "_law_emptied" (defArgs sEmptied) (defBody sEmptied) (defScope sEmptied) .none kV_empt dc_empt pm_empt an_empt cd_empt ct_empt), sl_empt⟩)
    (c_empt : PySem.W.codeIn K cd_empt "_law_emptied" = true)
    (k_empt : PySem.W.keepIn K (.ref f_empt) = true)
    (a_law : PySem.W.nsIn K mainGlobals "law" = some (some (.ref f_law)))
    (l_law : K.lookup f_law = some ⟨oc_law, od_law, .func (PySem.W.fnOf "law" "law" (defArgs sLaw) (defBody sLaw) (defScope sLaw) .none kV_law dc_law pm_law an_law (.ref cL) ct_law), sl_law⟩)
    (c_law : PySem.W.codeIn K (.ref cL) "law" = true)
    (k_law : PySem.W.keepIn K (.ref f_law) = true)
    (a_tI : PySem.W.findIn K (.ref Ct) "__init__" = some (some (.ref f_tI)))
    (i_tI : PySem.W.isFn K (.ref f_tI) = true)
    (l_tI : K.lookup f_tI = some ⟨oc_tI, od_tI, .func (PySem.W.fnOf "__init__" "Till.__init__" (defArgs sTillInit) (defBody sTillInit) (defScope sTillInit) .none (.ref DT) dc_tI pm_tI an_tI cd_tI ct_tI), sl_tI⟩)
    (c_tI : PySem.W.codeIn K cd_tI "Till.__init__" = true)
    (k_tI : PySem.W.keepIn K (.ref f_tI) = true)
    (a_tE : PySem.W.findIn K (.ref Ct) "__eq__" = some (some (.ref f_tE)))
    (i_tE : PySem.W.isFn K (.ref f_tE) = true)
    (l_tE : K.lookup f_tE = some ⟨oc_tE, od_tE, .func (PySem.W.fnOf "__eq__" "Till.__eq__" (defArgs sTillEq) (defBody sTillEq) (defScope sTillEq) .none kV_tE dc_tE pm_tE an_tE cd_tE ct_tE), sl_tE⟩)
    (c_tE : PySem.W.codeIn K cd_tE "Till.__eq__" = true)
    (k_tE : PySem.W.keepIn K (.ref f_tE) = true)
    (a_nI : PySem.W.findIn K (.ref Cn) "__init__" = some (some (.ref f_nI)))
    (i_nI : PySem.W.isFn K (.ref f_nI) = true)
    (l_nI : K.lookup f_nI = some ⟨oc_nI, od_nI, .func (PySem.W.fnOf "__init__" "Town.__init__" (defArgs sTownInit) (defBody sTownInit) (defScope sTownInit) .none kV_nI dc_nI pm_nI an_nI cd_nI ct_nI), sl_nI⟩)
    (c_nI : PySem.W.codeIn K cd_nI "Town.__init__" = true)
    (k_nI : PySem.W.keepIn K (.ref f_nI) = true)
    (a_nH : PySem.W.findIn K (.ref Cn) "__contains__" = some (some (.ref f_nH)))
    (i_nH : PySem.W.isFn K (.ref f_nH) = true)
    (l_nH : K.lookup f_nH = some ⟨oc_nH, od_nH, .func (PySem.W.fnOf "__contains__" "Town.__contains__" (defArgs sTownContains) (defBody sTownContains) (defScope sTownContains) .none kV_nH dc_nH pm_nH an_nH cd_nH ct_nH), sl_nH⟩)
    (c_nH : PySem.W.codeIn K cd_nH "Town.__contains__" = true)
    (k_nH : PySem.W.keepIn K (.ref f_nH) = true)
    (a_nG : PySem.W.findIn K (.ref Cn) "__getitem__" = some (some (.ref f_nG)))
    (i_nG : PySem.W.isFn K (.ref f_nG) = true)
    (l_nG : K.lookup f_nG = some ⟨oc_nG, od_nG, .func (PySem.W.fnOf "__getitem__" "Town.__getitem__" (defArgs sTownGet) (defBody sTownGet) (defScope sTownGet) .none kV_nG dc_nG pm_nG an_nG cd_nG ct_nG), sl_nG⟩)
    (c_nG : PySem.W.codeIn K cd_nG "Town.__getitem__" = true)
    (k_nG : PySem.W.keepIn K (.ref f_nG) = true)
    (a_nE : PySem.W.findIn K (.ref Cn) "__eq__" = some (some (.ref f_nE)))
    (i_nE : PySem.W.isFn K (.ref f_nE) = true)
    (l_nE : K.lookup f_nE = some ⟨oc_nE, od_nE, .func (PySem.W.fnOf "__eq__" "Town.__eq__" (defArgs sTownEq) (defBody sTownEq) (defScope sTownEq) .none kV_nE dc_nE pm_nE an_nE cd_nE ct_nE), sl_nE⟩)
    (c_nE : PySem.W.codeIn K cd_nE "Town.__eq__" = true)
    (k_nE : PySem.W.keepIn K (.ref f_nE) = true)
    (a_nN : PySem.W.findIn K (.ref Cn) "names" = some (some (.ref f_nN)))
    (i_nN : PySem.W.isFn K (.ref f_nN) = true)
    (l_nN : K.lookup f_nN = some ⟨oc_nN, od_nN, .func (PySem.W.fnOf "names" "Town.names" (defArgs sTownNames) (defBody sTownNames) (defScope sTownNames) .none kV_nN dc_nN pm_nN an_nN cd_nN ct_nN), sl_nN⟩)
    (c_nN : PySem.W.codeIn K cd_nN "Town.names" = true)
    (k_nN : PySem.W.keepIn K (.ref f_nN) = true)
    (a_nS : PySem.W.findIn K (.ref Cn) "seat" = some (some (.ref f_nS)))
    (i_nS : PySem.W.isFn K (.ref f_nS) = true)
    (l_nS : K.lookup f_nS = some ⟨oc_nS, od_nS, .func (PySem.W.fnOf "seat" "Town.seat" (defArgs sTownSeat) (defBody sTownSeat) (defScope sTownSeat) .none kV_nS dc_nS pm_nS an_nS cd_nS ct_nS), sl_nS⟩)
    (c_nS : PySem.W.codeIn K cd_nS "Town.seat" = true)
    (k_nS : PySem.W.keepIn K (.ref f_nS) = true)
    (a_nM : PySem.W.findIn K (.ref Cn) "made" = some (some (.ref f_nM)))
    (i_nM : PySem.W.isFn K (.ref f_nM) = true)
    (l_nM : K.lookup f_nM = some ⟨oc_nM, od_nM, .func (PySem.W.fnOf "made" "Town.made" (defArgs sTownMade) (defBody sTownMade) (defScope sTownMade) .none kV_nM dc_nM pm_nM an_nM cd_nM ct_nM), sl_nM⟩)
    (c_nM : PySem.W.codeIn K cd_nM "Town.made" = true)
    (k_nM : PySem.W.keepIn K (.ref f_nM) = true)
    (a_nP : PySem.W.findIn K (.ref Cn) "parts" = some (some (.ref f_nP)))
    (i_nP : PySem.W.isFn K (.ref f_nP) = true)
    (l_nP : K.lookup f_nP = some ⟨oc_nP, od_nP, .func (PySem.W.fnOf "parts" "Town.parts" (defArgs sTownParts) (defBody sTownParts) (defScope sTownParts) .none kV_nP dc_nP pm_nP an_nP cd_nP ct_nP), sl_nP⟩)
    (c_nP : PySem.W.codeIn K cd_nP "Town.parts" = true)
    (k_nP : PySem.W.keepIn K (.ref f_nP) = true)
    (a_nW : PySem.W.findIn K (.ref Cn) "with_till" = some (some (.ref f_nW)))
    (i_nW : PySem.W.isFn K (.ref f_nW) = true)
    (l_nW : K.lookup f_nW = some ⟨oc_nW, od_nW, .func (PySem.W.fnOf "with_till" "Town.with_till" (defArgs sTownWith) (defBody sTownWith) (defScope sTownWith) .none kV_nW dc_nW pm_nW an_nW cd_nW ct_nW), sl_nW⟩)
    (c_nW : PySem.W.codeIn K cd_nW "Town.with_till" = true)
    (k_nW : PySem.W.keepIn K (.ref f_nW) = true)
    (a_nC : PySem.W.findIn K (.ref Cn) "changed" = some (some (.ref f_nC)))
    (i_nC : PySem.W.isFn K (.ref f_nC) = true)
    (l_nC : K.lookup f_nC = some ⟨oc_nC, od_nC, .func (PySem.W.fnOf "changed" "Town.changed" (defArgs sTownChanged) (defBody sTownChanged) (defScope sTownChanged) .none kV_nC dc_nC pm_nC an_nC cd_nC ct_nC), sl_nC⟩)
    (c_nC : PySem.W.codeIn K cd_nC "Town.changed" = true)
    (k_nC : PySem.W.keepIn K (.ref f_nC) = true)
    (a_sI : PySem.W.findIn K (.ref Cs) "__init__" = some (some (.ref f_sI)))
    (i_sI : PySem.W.isFn K (.ref f_sI) = true)
    (l_sI : K.lookup f_sI = some ⟨oc_sI, od_sI, .func (PySem.W.fnOf "__init__" "Session.__init__" (defArgs sSessInit) (defBody sSessInit) (defScope sSessInit) .none kV_sI dc_sI pm_sI an_sI cd_sI ct_sI), sl_sI⟩)
    (c_sI : PySem.W.codeIn K cd_sI "Session.__init__" = true)
    (k_sI : PySem.W.keepIn K (.ref f_sI) = true)
    (a_sC : PySem.W.findIn K (.ref Cs) "current" = some (some (.ref f_sC)))
    (i_sC : PySem.W.isFn K (.ref f_sC) = true)
    (l_sC : K.lookup f_sC = some ⟨oc_sC, od_sC, .func (PySem.W.fnOf "current" "Session.current" (defArgs sSessCurrent) (defBody sSessCurrent) (defScope sSessCurrent) .none kV_sC dc_sC pm_sC an_sC cd_sC ct_sC), sl_sC⟩)
    (c_sC : PySem.W.codeIn K cd_sC "Session.current" = true)
    (k_sC : PySem.W.keepIn K (.ref f_sC) = true)
    (a_sL : PySem.W.findIn K (.ref Cs) "__len__" = some (some (.ref f_sL)))
    (i_sL : PySem.W.isFn K (.ref f_sL) = true)
    (l_sL : K.lookup f_sL = some ⟨oc_sL, od_sL, .func (PySem.W.fnOf "__len__" "Session.__len__" (defArgs sSessLen) (defBody sSessLen) (defScope sSessLen) .none kV_sL dc_sL pm_sL an_sL cd_sL ct_sL), sl_sL⟩)
    (c_sL : PySem.W.codeIn K cd_sL "Session.__len__" = true)
    (k_sL : PySem.W.keepIn K (.ref f_sL) = true)
    (a_sG : PySem.W.findIn K (.ref Cs) "go_on" = some (some (.ref f_sG)))
    (i_sG : PySem.W.isFn K (.ref f_sG) = true)
    (l_sG : K.lookup f_sG = some ⟨oc_sG, od_sG, .func (PySem.W.fnOf "go_on" "Session.go_on" (defArgs sSessGoOn) (defBody sSessGoOn) (defScope sSessGoOn) .none kV_sG dc_sG pm_sG an_sG cd_sG ct_sG), sl_sG⟩)
    (c_sG : PySem.W.codeIn K cd_sG "Session.go_on" = true)
    (k_sG : PySem.W.keepIn K (.ref f_sG) = true)
    (a_sP : PySem.W.findIn K (.ref Cs) "put" = some (some (.ref f_sP)))
    (i_sP : PySem.W.isFn K (.ref f_sP) = true)
    (l_sP : K.lookup f_sP = some ⟨oc_sP, od_sP, .func (PySem.W.fnOf "put" "Session.put" (defArgs sSessPut) (defBody sSessPut) (defScope sSessPut) .none kV_sP dc_sP pm_sP an_sP cd_sP ct_sP), sl_sP⟩)
    (c_sP : PySem.W.codeIn K cd_sP "Session.put" = true)
    (k_sP : PySem.W.keepIn K (.ref f_sP) = true)
    (a_sA : PySem.W.findIn K (.ref Cs) "assign" = some (some (.ref f_sA)))
    (i_sA : PySem.W.isFn K (.ref f_sA) = true)
    (l_sA : K.lookup f_sA = some ⟨oc_sA, od_sA, .func (PySem.W.fnOf "assign" "Session.assign" (defArgs sSessAssign) (defBody sSessAssign) (defScope sSessAssign) .none kV_sA dc_sA pm_sA an_sA cd_sA ct_sA), sl_sA⟩)
    (c_sA : PySem.W.codeIn K cd_sA "Session.assign" = true)
    (k_sA : PySem.W.keepIn K (.ref f_sA) = true)
    (a_sU : PySem.W.findIn K (.ref Cs) "undo" = some (some (.ref f_sU)))
    (i_sU : PySem.W.isFn K (.ref f_sU) = true)
    (l_sU : K.lookup f_sU = some ⟨oc_sU, od_sU, .func (PySem.W.fnOf "undo" "Session.undo" (defArgs sSessUndo) (defBody sSessUndo) (defScope sSessUndo) .none kV_sU dc_sU pm_sU an_sU cd_sU ct_sU), sl_sU⟩)
    (c_sU : PySem.W.codeIn K cd_sU "Session.undo" = true)
    (k_sU : PySem.W.keepIn K (.ref f_sU) = true)
    (a_sT : PySem.W.findIn K (.ref Cs) "trial" = some (some (.ref f_sT)))
    (i_sT : PySem.W.isFn K (.ref f_sT) = true)
    (l_sT : K.lookup f_sT = some ⟨oc_sT, od_sT, .func (PySem.W.fnOf "trial" "Session.trial" (defArgs sSessTrial) (defBody sSessTrial) (defScope sSessTrial) .none kV_sT dc_sT pm_sT an_sT cd_sT ct_sT), sl_sT⟩)
    (c_sT : PySem.W.codeIn K cd_sT "Session.trial" = true)
    (k_sT : PySem.W.keepIn K (.ref f_sT) = true)
    (a_sAt : PySem.W.findIn K (.ref Cs) "attempt" = some (some (.ref f_sAt)))
    (i_sAt : PySem.W.isFn K (.ref f_sAt) = true)
    (l_sAt : K.lookup f_sAt = some ⟨oc_sAt, od_sAt, .func (PySem.W.fnOf "attempt" "Session.attempt" (defArgs sSessAttempt) (defBody sSessAttempt) (defScope sSessAttempt) .none kV_sAt dc_sAt pm_sAt an_sAt cd_sAt ct_sAt), sl_sAt⟩)
    (c_sAt : PySem.W.codeIn K cd_sAt "Session.attempt" = true)
    (k_sAt : PySem.W.keepIn K (.ref f_sAt) = true)
    (a_rI : PySem.W.findIn K (.ref Cr) "__init__" = some (some (.ref f_rI)))
    (i_rI : PySem.W.isFn K (.ref f_rI) = true)
    (l_rI : K.lookup f_rI = some ⟨oc_rI, od_rI, .func (PySem.W.fnOf "__init__" "Trial.__init__" (defArgs sTrialInit) (defBody sTrialInit) (defScope sTrialInit) .none kV_rI dc_rI pm_rI an_rI cd_rI ct_rI), sl_rI⟩)
    (c_rI : PySem.W.codeIn K cd_rI "Trial.__init__" = true)
    (k_rI : PySem.W.keepIn K (.ref f_rI) = true)
    (a_rE : PySem.W.findIn K (.ref Cr) "__enter__" = some (some (.ref f_rE)))
    (i_rE : PySem.W.isFn K (.ref f_rE) = true)
    (l_rE : K.lookup f_rE = some ⟨oc_rE, od_rE, .func (PySem.W.fnOf "__enter__" "Trial.__enter__" (defArgs sTrialEnter) (defBody sTrialEnter) (defScope sTrialEnter) .none kV_rE dc_rE pm_rE an_rE cd_rE ct_rE), sl_rE⟩)
    (c_rE : PySem.W.codeIn K cd_rE "Trial.__enter__" = true)
    (k_rE : PySem.W.keepIn K (.ref f_rE) = true)
    (a_rX : PySem.W.findIn K (.ref Cr) "__exit__" = some (some (.ref f_rX)))
    (i_rX : PySem.W.isFn K (.ref f_rX) = true)
    (l_rX : K.lookup f_rX = some ⟨oc_rX, od_rX, .func (PySem.W.fnOf "__exit__" "Trial.__exit__" (defArgs sTrialExit) (defBody sTrialExit) (defScope sTrialExit) .none kV_rX dc_rX pm_rX an_rX cd_rX ct_rX), sl_rX⟩)
    (c_rX : PySem.W.codeIn K cd_rX "Trial.__exit__" = true)
    (k_rX : PySem.W.keepIn K (.ref f_rX) = true)
    (a_bI : PySem.W.findIn K (.ref Cb) "__init__" = some (some (.ref f_bI)))
    (t_bI : PySem.W.typeIn K (.ref f_bI) = some (.type "function"))
    (l_bI : K.lookup f_bI = some ⟨oc_bI, od_bI, .func (PySem.W.fnOf "__init__" "BadPart.__init__" (defArgs sBadPartInit) (defBody sBadPartInit) (defScope sBadPartInit) .none kV_bI dc_bI pm_bI an_bI cd_bI ct_bI), sl_bI⟩)
    (c_bI : PySem.W.codeIn K cd_bI "BadPart.__init__" = true)
    (k_bI : PySem.W.keepIn K (.ref f_bI) = true)
    (a_uI : PySem.W.findIn K (.ref Cu) "__init__" = some (some (.ref f_uI)))
    (t_uI : PySem.W.typeIn K (.ref f_uI) = some (.type "function"))
    (l_uI : K.lookup f_uI = some ⟨oc_uI, od_uI, .func (PySem.W.fnOf "__init__" "NothingToUndo.__init__" (defArgs sNothingInit) (defBody sNothingInit) (defScope sNothingInit) .none kV_uI dc_uI pm_uI an_uI cd_uI ct_uI), sl_uI⟩)
    (c_uI : PySem.W.codeIn K cd_uI "NothingToUndo.__init__" = true)
    (k_uI : PySem.W.keepIn K (.ref f_uI) = true)
    (fnG : PySem.W.fnIn K f_nG = true)
    (dT : PySem.W.nsIn K DT "heeds" = some (some (.bool true)))
    (xcL : K.lookup cL = some ⟨.type "code", odcL, .fields vscL, slcL⟩)
    (pcL : (vscL[11]? : Option Value) = some (.ref PL))
    (bcL : PySem.W.codeHdIn [(cL, ⟨.type "code", odcL, .fields vscL, slcL⟩)] cL PL = true)
    (tcL : h.get? PL = some { cls := .none, data := .fields #[] })
    (nncL : K.lookup PL = none)
    (xcI : K.lookup cI = some ⟨.type "code", odcI, .fields vscI, slcI⟩)
    (pcI : (vscI[11]? : Option Value) = some (.ref PI))
    (bcI : PySem.W.codeHdIn [(cI, ⟨.type "code", odcI, .fields vscI, slcI⟩)] cI PI = true)
    (tcI : h.get? PI = some { cls := .none, data := .fields #[] })
    (nncI : K.lookup PI = none)
    (ne : PL ≠ PI)
    : LawAtS l w K CX0 17 63 "_law_script" mg fa h := by
  have eL := hfa.symm.trans (PySem.W.mg_of X G a_law)
  cases eL
  have M : ∀ {n : Str} {v : Value}, PySem.W.nsIn K mainGlobals n = some (some v) → mg n = some v := fun e => PySem.W.mg_of X G e
  have M0 : ∀ {n : Str}, PySem.W.nsIn K mainGlobals n = some none → mg n = none := fun e => PySem.W.mg_none_of X G e
  have B : Bl mg := ⟨M0 z_isinstance, M0 z_int, M0 z_bool, M0 z_str, M0 z_len, M0 z_all, M0 z_any, M0 z_tuple, M0 z_list, M0 z_sorted, M0 z_enumerate, M0 z_dict, M0 z_zip, M0 z_range, M0 z_max, M0 z_min, M0 z_sum, M0 z_abs⟩
  have Cc : CT.Cn mg := ⟨⟨_, M k_letters⟩, ⟨_, M k_mostLetters⟩, ⟨_, M k_mostLimit⟩, ⟨_, M k_mostMoney⟩, ⟨_, M k_mostTops⟩, ⟨_, M k_mostTills⟩⟩
  have clCt : Cls K Ct := ⟨pgCt, hdCt, poCt, saCt⟩
  have clCn : Cls K Cn := ⟨pgCn, hdCn, poCn, saCn⟩
  have clCs : Cls K Cs := ⟨pgCs, hdCs, poCs, saCs⟩
  have clCr : Cls K Cr := ⟨pgCr, hdCr, poCr, saCr⟩
  have insCt : C8.InsC K Ct := ⟨clCt, haCt, hn, htk, hmCt, if_pos (beq_self_eq_true _)⟩
  have insCn : C8.InsC K Cn := ⟨clCn, haCn, hn, htk, hmCn, if_pos (beq_self_eq_true _)⟩
  have TT : TillK K mg Ct := ⟨insCt, nCt_name, nCt_limit, nCt_heeds, M aCt⟩
  have TN : TownK K mg Cn := ⟨insCn, nCn_row, nCn_links, nCn_money, nCn_memory, nCn_tops, nCn_numbered, M aCn⟩
  have TS : SessK K mg Cs := ⟨clCs, nCs_now, nCs_past, M aCs⟩
  have TR : TrialK K mg Cr := ⟨clCr, nCr_session, nCr_kept_now, nCr_kept_past, M aCr⟩
  have F_isInt := fun_mk (st := sIsInteger) l_isInt c_isInt k_isInt
  have D_isInt : Dn K mg "is_integer" f_isInt _ ["value"] := ⟨M a_isInt, k_isInt, F_isInt.binds (ps := ["value"]) fun _ _ _ _ _ _ us hl => match us, hl with | [_], _ => rfl⟩
  have F_isBet := fun_mk (st := sIsBetween) l_isBet c_isBet k_isBet
  have D_isBet : Dn K mg "is_between" f_isBet _ ["value", "least", "most"] := ⟨M a_isBet, k_isBet, F_isBet.binds (ps := ["value", "least", "most"]) fun _ _ _ _ _ _ us hl => match us, hl with | [_, _, _], _ => rfl⟩
  have F_isNam := fun_mk (st := sIsName) l_isNam c_isNam k_isNam
  have D_isNam : Dn K mg "is_name" f_isNam _ ["value"] := ⟨M a_isNam, k_isNam, F_isNam.binds (ps := ["value"]) fun _ _ _ _ _ _ us hl => match us, hl with | [_], _ => rfl⟩
  have F_hasK := fun_mk (st := sHasKind) l_hasK c_hasK k_hasK
  have D_hasK : Dn K mg "has_kind" f_hasK _ ["value", "kind", "many"] := ⟨M a_hasK, k_hasK, F_hasK.binds (ps := ["value", "kind", "many"]) fun _ _ _ _ _ _ us hl => match us, hl with | [_, _, _], _ => rfl⟩
  have F_isMem := fun_mk (st := sIsMemory) l_isMem c_isMem k_isMem
  have D_isMem : Dn K mg "is_memory" f_isMem _ ["value"] := ⟨M a_isMem, k_isMem, F_isMem.binds (ps := ["value"]) fun _ _ _ _ _ _ us hl => match us, hl with | [_], _ => rfl⟩
  have F_chT := fun_mk (st := sCheckedTills) l_chT c_chT k_chT
  have D_chT : Dn K mg "checked_tills" f_chT _ ["tills"] := ⟨M a_chT, k_chT, F_chT.binds (ps := ["tills"]) fun _ _ _ _ _ _ us hl => match us, hl with | [_], _ => rfl⟩
  have F_isL := fun_mk (st := sIsLink) l_isL c_isL k_isL
  have D_isL : Dn K mg "is_link" f_isL _ ["value", "names"] := ⟨M a_isL, k_isL, F_isL.binds (ps := ["value", "names"]) fun _ _ _ _ _ _ us hl => match us, hl with | [_, _], _ => rfl⟩
  have F_chL := fun_mk (st := sCheckedLinks) l_chL c_chL k_chL
  have D_chL : Dn K mg "checked_links" f_chL _ ["links", "names"] := ⟨M a_chL, k_chL, F_chL.binds (ps := ["links", "names"]) fun _ _ _ _ _ _ us hl => match us, hl with | [_, _], _ => rfl⟩
  have F_chP := fun_mk (st := sCheckParts) l_chP c_chP k_chP
  have D_chP : Dn K mg "check_parts" f_chP _ ["money", "memory", "tops", "numbered"] := ⟨M a_chP, k_chP, F_chP.binds (ps := ["money", "memory", "tops", "numbered"]) fun _ _ _ _ _ _ us hl => match us, hl with | [_, _, _, _], _ => rfl⟩
  have F_pool := fun_mk (st := sPool) l_pool c_pool k_pool
  have D_pool : Dn K mg "_law_pool" f_pool _ ["_law_script", "_law_k"] := ⟨M a_pool, k_pool, F_pool.binds (ps := ["_law_script", "_law_k"]) fun _ _ _ _ _ _ us hl => match us, hl with | [_, _], _ => rfl⟩
  have F_draw := fun_mk (st := sDraw) l_draw c_draw k_draw
  have D_draw : Dn K mg "_law_draw" f_draw _ ["_law_pool_here", "_law_many"] := ⟨M a_draw, k_draw, F_draw.binds (ps := ["_law_pool_here", "_law_many"]) fun _ _ _ _ _ _ us hl => match us, hl with | [_, _], _ => rfl⟩
  have F_pick := fun_mk (st := sPick) l_pick c_pick k_pick
  have D_pick : Dn K mg "_law_pick" f_pick _ ["_law_pool_here", "_law_row"] := ⟨M a_pick, k_pick, F_pick.binds (ps := ["_law_pool_here", "_law_row"]) fun _ _ _ _ _ _ us hl => match us, hl with | [_, _], _ => rfl⟩
  have F_nms := fun_mk (st := sNames) l_nms c_nms k_nms
  have D_nms : Dn K mg "_law_names" f_nms _ ["_law_pool_here", "_law_count"] := ⟨M a_nms, k_nms, F_nms.binds (ps := ["_law_pool_here", "_law_count"]) fun _ _ _ _ _ _ us hl => match us, hl with | [_, _], _ => rfl⟩
  have F_plan := fun_mk (st := sPlan) l_plan c_plan k_plan
  have D_plan : Dn K mg "_law_plan" f_plan _ ["_law_pool_here", "_law_many", "_law_most"] := ⟨M a_plan, k_plan, F_plan.binds (ps := ["_law_pool_here", "_law_many", "_law_most"]) fun _ _ _ _ _ _ us hl => match us, hl with | [_, _, _], _ => rfl⟩
  have F_lmade := fun_mk (st := sMade) l_lmade c_lmade k_lmade
  have D_lmade : Dn K mg "_law_made" f_lmade _ ["_law_t"] := ⟨M a_lmade, k_lmade, F_lmade.binds (ps := ["_law_t"]) fun _ _ _ _ _ _ us hl => match us, hl with | [_], _ => rfl⟩
  have F_state := fun_mk (st := sState) l_state c_state k_state
  have D_state : Dn K mg "_law_state" f_state _ ["_law_session"] := ⟨M a_state, k_state, F_state.binds (ps := ["_law_session"]) fun _ _ _ _ _ _ us hl => match us, hl with | [_], _ => rfl⟩
  have F_visit := fun_mk (st := sVisit) l_visit c_visit k_visit
  have D_visit : Dn K mg "_law_visit" f_visit _ ["_law_session", "_law_one", "_law_name"] := ⟨M a_visit, k_visit, F_visit.binds (ps := ["_law_session", "_law_one", "_law_name"]) fun _ _ _ _ _ _ us hl => match us, hl with | [_, _, _], _ => rfl⟩
  have F_undg := fun_mk (st := sUndoing) l_undg c_undg k_undg
  have D_undg : Dn K mg "_law_undoing" f_undg _ ["_law_session"] := ⟨M a_undg, k_undg, F_undg.binds (ps := ["_law_session"]) fun _ _ _ _ _ _ us hl => match us, hl with | [_], _ => rfl⟩
  have F_rais := fun_mk (st := sRaising) l_rais c_rais k_rais
  have D_rais : Dn K mg "_law_raising" f_rais _ ["_law_session", "_law_name"] := ⟨M a_rais, k_rais, F_rais.binds (ps := ["_law_session", "_law_name"]) fun _ _ _ _ _ _ us hl => match us, hl with | [_, _], _ => rfl⟩
  have F_inner := fun_mk (st := sInner) l_inner c_inner k_inner
  have D_inner : Dn K mg "_law_inner" f_inner _ ["_law_session", "_law_name"] := ⟨M a_inner, k_inner, F_inner.binds (ps := ["_law_session", "_law_name"]) fun _ _ _ _ _ _ us hl => match us, hl with | [_, _], _ => rfl⟩
  have F_refd := fun_mk (st := sRefused) l_refd c_refd k_refd
  have D_refd : Dn K mg "_law_refused" f_refd _ ["_law_session", "_law_visitor"] := ⟨M a_refd, k_refd, F_refd.binds (ps := ["_law_session", "_law_visitor"]) fun _ _ _ _ _ _ us hl => match us, hl with | [_, _], _ => rfl⟩
  have F_empt := fun_mk (st := sEmptied) l_empt c_empt k_empt
  have D_empt : Dn K mg "_law_emptied" f_empt _ ["_law_session"] := ⟨M a_empt, k_empt, F_empt.binds (ps := ["_law_session"]) fun _ _ _ _ _ _ us hl => match us, hl with | [_], _ => rfl⟩
  have F_law := fun_mk (st := sLaw) l_law c_law k_law
  have F_tI := fun_mk (st := sTillInit) l_tI c_tI k_tI
  have F_tE := fun_mk (st := sTillEq) l_tE c_tE k_tE
  have D_tE : Mn K Ct "__eq__" f_tE _ ["self", "other"] := ⟨⟨a_tE, i_tE, k_tE⟩, F_tE.binds (ps := ["self", "other"]) fun _ _ _ _ _ _ us hl => match us, hl with | [_, _], _ => rfl⟩
  have F_nI := fun_mk (st := sTownInit) l_nI c_nI k_nI
  have F_nH := fun_mk (st := sTownContains) l_nH c_nH k_nH
  have D_nH : Mn K Cn "__contains__" f_nH _ ["self", "name"] := ⟨⟨a_nH, i_nH, k_nH⟩, F_nH.binds (ps := ["self", "name"]) fun _ _ _ _ _ _ us hl => match us, hl with | [_, _], _ => rfl⟩
  have F_nG := fun_mk (st := sTownGet) l_nG c_nG k_nG
  have D_nG : Mn K Cn "__getitem__" f_nG _ ["self", "name"] := ⟨⟨a_nG, i_nG, k_nG⟩, F_nG.binds (ps := ["self", "name"]) fun _ _ _ _ _ _ us hl => match us, hl with | [_, _], _ => rfl⟩
  have F_nE := fun_mk (st := sTownEq) l_nE c_nE k_nE
  have D_nE : Mn K Cn "__eq__" f_nE _ ["self", "other"] := ⟨⟨a_nE, i_nE, k_nE⟩, F_nE.binds (ps := ["self", "other"]) fun _ _ _ _ _ _ us hl => match us, hl with | [_, _], _ => rfl⟩
  have F_nN := fun_mk (st := sTownNames) l_nN c_nN k_nN
  have D_nN : Mn K Cn "names" f_nN _ ["self"] := ⟨⟨a_nN, i_nN, k_nN⟩, F_nN.binds (ps := ["self"]) fun _ _ _ _ _ _ us hl => match us, hl with | [_], _ => rfl⟩
  have F_nS := fun_mk (st := sTownSeat) l_nS c_nS k_nS
  have D_nS : Mn K Cn "seat" f_nS _ ["self", "name"] := ⟨⟨a_nS, i_nS, k_nS⟩, F_nS.binds (ps := ["self", "name"]) fun _ _ _ _ _ _ us hl => match us, hl with | [_, _], _ => rfl⟩
  have F_nM := fun_mk (st := sTownMade) l_nM c_nM k_nM
  have D_nM : Mn K Cn "made" f_nM _ ["self", "tills", "links", "parts"] := ⟨⟨a_nM, i_nM, k_nM⟩, F_nM.binds (ps := ["self", "tills", "links", "parts"]) fun _ _ _ _ _ _ us hl => match us, hl with | [_, _, _, _], _ => rfl⟩
  have F_nP := fun_mk (st := sTownParts) l_nP c_nP k_nP
  have D_nP : Mn K Cn "parts" f_nP _ ["self"] := ⟨⟨a_nP, i_nP, k_nP⟩, F_nP.binds (ps := ["self"]) fun _ _ _ _ _ _ us hl => match us, hl with | [_], _ => rfl⟩
  have F_nW := fun_mk (st := sTownWith) l_nW c_nW k_nW
  have D_nW : Mn K Cn "with_till" f_nW _ ["self", "till"] := ⟨⟨a_nW, i_nW, k_nW⟩, F_nW.binds (ps := ["self", "till"]) fun _ _ _ _ _ _ us hl => match us, hl with | [_, _], _ => rfl⟩
  have F_nC := fun_mk (st := sTownChanged) l_nC c_nC k_nC
  have D_nC : Mn K Cn "changed" f_nC _ ["self", "part", "value"] := ⟨⟨a_nC, i_nC, k_nC⟩, F_nC.binds (ps := ["self", "part", "value"]) fun _ _ _ _ _ _ us hl => match us, hl with | [_, _, _], _ => rfl⟩
  have F_sI := fun_mk (st := sSessInit) l_sI c_sI k_sI
  have D_sI : Mn K Cs "__init__" f_sI _ ["self", "town"] := ⟨⟨a_sI, i_sI, k_sI⟩, F_sI.binds (ps := ["self", "town"]) fun _ _ _ _ _ _ us hl => match us, hl with | [_, _], _ => rfl⟩
  have F_sC := fun_mk (st := sSessCurrent) l_sC c_sC k_sC
  have D_sC : Mn K Cs "current" f_sC _ ["self"] := ⟨⟨a_sC, i_sC, k_sC⟩, F_sC.binds (ps := ["self"]) fun _ _ _ _ _ _ us hl => match us, hl with | [_], _ => rfl⟩
  have F_sL := fun_mk (st := sSessLen) l_sL c_sL k_sL
  have D_sL : Mn K Cs "__len__" f_sL _ ["self"] := ⟨⟨a_sL, i_sL, k_sL⟩, F_sL.binds (ps := ["self"]) fun _ _ _ _ _ _ us hl => match us, hl with | [_], _ => rfl⟩
  have F_sG := fun_mk (st := sSessGoOn) l_sG c_sG k_sG
  have D_sG : Mn K Cs "go_on" f_sG _ ["self", "town"] := ⟨⟨a_sG, i_sG, k_sG⟩, F_sG.binds (ps := ["self", "town"]) fun _ _ _ _ _ _ us hl => match us, hl with | [_, _], _ => rfl⟩
  have F_sP := fun_mk (st := sSessPut) l_sP c_sP k_sP
  have D_sP : Mn K Cs "put" f_sP _ ["self", "till"] := ⟨⟨a_sP, i_sP, k_sP⟩, F_sP.binds (ps := ["self", "till"]) fun _ _ _ _ _ _ us hl => match us, hl with | [_, _], _ => rfl⟩
  have F_sA := fun_mk (st := sSessAssign) l_sA c_sA k_sA
  have D_sA : Mn K Cs "assign" f_sA _ ["self", "part", "value"] := ⟨⟨a_sA, i_sA, k_sA⟩, F_sA.binds (ps := ["self", "part", "value"]) fun _ _ _ _ _ _ us hl => match us, hl with | [_, _, _], _ => rfl⟩
  have F_sU := fun_mk (st := sSessUndo) l_sU c_sU k_sU
  have D_sU : Mn K Cs "undo" f_sU _ ["self"] := ⟨⟨a_sU, i_sU, k_sU⟩, F_sU.binds (ps := ["self"]) fun _ _ _ _ _ _ us hl => match us, hl with | [_], _ => rfl⟩
  have F_sT := fun_mk (st := sSessTrial) l_sT c_sT k_sT
  have D_sT : Mn K Cs "trial" f_sT _ ["self"] := ⟨⟨a_sT, i_sT, k_sT⟩, F_sT.binds (ps := ["self"]) fun _ _ _ _ _ _ us hl => match us, hl with | [_], _ => rfl⟩
  have F_sAt := fun_mk (st := sSessAttempt) l_sAt c_sAt k_sAt
  have D_sAt : Mn K Cs "attempt" f_sAt _ ["self", "visitor"] := ⟨⟨a_sAt, i_sAt, k_sAt⟩, F_sAt.binds (ps := ["self", "visitor"]) fun _ _ _ _ _ _ us hl => match us, hl with | [_, _], _ => rfl⟩
  have F_rI := fun_mk (st := sTrialInit) l_rI c_rI k_rI
  have D_rI : Mn K Cr "__init__" f_rI _ ["self", "session"] := ⟨⟨a_rI, i_rI, k_rI⟩, F_rI.binds (ps := ["self", "session"]) fun _ _ _ _ _ _ us hl => match us, hl with | [_, _], _ => rfl⟩
  have F_rE := fun_mk (st := sTrialEnter) l_rE c_rE k_rE
  have D_rE : Mn K Cr "__enter__" f_rE _ ["self"] := ⟨⟨a_rE, i_rE, k_rE⟩, F_rE.binds (ps := ["self"]) fun _ _ _ _ _ _ us hl => match us, hl with | [_], _ => rfl⟩
  have F_rX := fun_mk (st := sTrialExit) l_rX c_rX k_rX
  have D_rX : Mn K Cr "__exit__" f_rX _ ["self", "kind", "error", "trace"] := ⟨⟨a_rX, i_rX, k_rX⟩, F_rX.binds (ps := ["self", "kind", "error", "trace"]) fun _ _ _ _ _ _ us hl => match us, hl with | [_, _, _, _], _ => rfl⟩
  have F_bI := fun_mk (st := sBadPartInit) l_bI c_bI k_bI
  have B_bI := F_bI.binds (ps := ["self", "part"]) fun _ _ _ _ _ _ us hl => match us, hl with | [_, _], _ => rfl
  have F_uI := fun_mk (st := sNothingInit) l_uI c_uI k_uI
  have B_uI := F_uI.binds (ps := ["self", "name"]) fun _ _ _ _ _ _ us hl => match us, hl with | [_, _], _ => rfl
  have MkT : Mk K Ct f_tI := ⟨mkCt, a_tI, i_tI, kcCt⟩
  have MkN : Mk K Cn f_nI := ⟨mkCn, a_nI, i_nI, kcCn⟩
  have MkS : Mk K Cs f_sI := ⟨mkCs, a_sI, i_sI, kcCs⟩
  have MkR : Mk K Cr f_rI := ⟨mkCr, a_rI, i_rI, kcCr⟩
  have XB : ExK K mg "BadPart" "part" Cb f_bI _ "ValueError" "ValueError.__new__" "ValueError.__init__" [.type "ValueError", .type "Exception", .type "BaseException", .type "object"] := ⟨⟨PySem.F.excBase_ValueError, PySem.F.store_ValueError, ⟨_, _, _, _, _, _, _, _, _, _, _, _, _, _, _, xCb, etCb⟩, esCb, exCb, tyCb, ekCb⟩, a_bI, t_bI, M aCb, (show NoAttr K Cb "part" from nCb_part).taker, B_bI⟩
  have XU : ExK K mg "NothingToUndo" "name" Cu f_uI _ "RuntimeError" "RuntimeError.__new__" "RuntimeError.__init__" [.type "RuntimeError", .type "Exception", .type "BaseException", .type "object"] := ⟨⟨PySem.F.excBase_RuntimeError, PySem.F.store_RuntimeError, ⟨_, _, _, _, _, _, _, _, _, _, _, _, _, _, _, xCu, etCu⟩, esCu, exCu, tyCu, ekCu⟩, a_uI, t_uI, M aCu, (show NoAttr K Cu "name" from nCu_name).taker, B_uI⟩
  have R0 : BaseK K mg C0 := ⟨M aC0, brd, bga, bv⟩
  have RR : RunK K mg := ⟨M0 z_RuntimeError, rv⟩
  have EK : ErrK K mg Cb Cu := ⟨M aCb, M aCu, ⟨gaCb, ggCb, exCb, ehCb⟩, ⟨gaCu, ggCu, exCu, ehCu⟩, nCb_part, nCu_name, exmR exCb icCb tyCb ssCb, exmR exCb icCb tyCb sub, exmR exCu icCu tyCu ssCu⟩
  have PK_ : PartsK K mg pa := ⟨M aP, fun H => .inr ⟨_, _, _, lP, rfl, rfl, (by show 4 ≤ sizeLine; decide), .cons ⟨_, rfl⟩ (.cons ⟨_, rfl⟩ (.cons ⟨_, rfl⟩ (.cons ⟨_, rfl⟩ .nil)))⟩⟩
  obtain ⟨ds, vds, bds⟩ := till_dflt l_tI c_tI k_tI dT
  have pLI : ∀ p ∈ [(PL, ("law.<locals>.<lambda>" : Str)), (PI, "_law_inner.<locals>.<lambda>")], p.1 = PL → p.2 = ("law.<locals>.<lambda>" : Str) := fun p hp e => by
    rcases List.mem_cons.mp hp with rfl | hp
    · rfl
    · cases List.mem_singleton.mp hp
      exact absurd e.symm ne
  have pIL : ∀ p ∈ [(PL, ("law.<locals>.<lambda>" : Str)), (PI, "_law_inner.<locals>.<lambda>")], p.1 = PI → p.2 = ("_law_inner.<locals>.<lambda>" : Str) := fun p hp e => by
    rcases List.mem_cons.mp hp with rfl | hp
    · exact absurd e ne
    · cases List.mem_singleton.mp hp
      rfl
  have two : ∀ {Pr : Addr × Addr → Prop}, Pr (cL, PL) → Pr (cI, PI) → ∀ p ∈ [(cL, PL), (cI, PI)], Pr p := fun h1 h2 p hp => by
    rcases List.mem_cons.mp hp with rfl | hp
    · exact h1
    · cases List.mem_singleton.mp hp
      exact h2
  refine ⟨PySem.W.fnOf "law" "law" (defArgs sLaw) (defBody sLaw) (defScope sLaw) .none kV_law dc_law pm_law an_law (.ref cL) ct_law, [(cL, PL), (cI, PI)], spLaw [(PL, "law.<locals>.<lambda>"), (PI, "_law_inner.<locals>.<lambda>")] K, two tcL tcI, two nncL nncI, two (PySem.W.codeHd_of_K X (codeHd_one xcL bcL)) (PySem.W.codeHd_of_K X (codeHd_one xcI bcI)), fun s u => .of_eq rfl, fun H a ns hl _ hT hS => ?_, fun base KB GB hTB => ?_⟩
  · refine ⟨a, ns, rfl, hS, hl, fun p hp => ?_, fun _ => rfl⟩
    rcases List.mem_cons.mp hp with rfl | hp
    · exact TabS.nil (hT (cL, PL) (List.mem_cons_self ..))
    · cases List.mem_singleton.mp hp
      exact TabS.nil (hT (cI, PI) (List.mem_cons_of_mem _ (List.mem_cons_self ..)))
  have TBL : TabB base mg cL PL := hTB (cL, PL) (List.mem_cons_self ..)
  have TBI : TabB base mg cI PI := hTB (cI, PI) (List.mem_cons_of_mem _ (List.mem_cons_self ..))
  have G_isInt : FnOk l.prog w K mg base CX0 1 f_isInt _ ["value"] spIsInteger := ok_isInteger F_isInt B
  have G_isBet : FnOk l.prog w K mg base CX0 2 f_isBet _ ["value", "least", "most"] spIsBetween := ok_isBetween F_isBet G_isInt D_isInt
  have G_isNam : FnOk l.prog w K mg base CX0 1 f_isNam _ ["value"] spIsName := ok_isName F_isNam B Cc
  have G_hasK : FnOk l.prog w K mg base CX0 1 f_hasK _ ["value", "kind", "many"] (spHasKind K) := ok_hasKind F_hasK B
  have G_isMem : FnOk l.prog w K mg base CX0 3 f_isMem _ ["value"] spIsMemory := ok_isMemory F_isMem Cc G_hasK D_hasK G_isBet D_isBet
  have G_tE : FnOk l.prog w K mg base CX0 2 f_tE _ ["self", "other"] (spEq (TEq Ct)) := ok_tillEq F_tE TT B
  have G_chT : FnOk l.prog w K mg base CX0 1 f_chT _ ["tills"] (spCheckedTills Ct) := ok_checkedTills F_chT TT B Cc
  have G_isL : FnOk l.prog w K mg base CX0 1 f_isL _ ["value", "names"] spIsLink := ok_isLink F_isL B
  have G_chL : FnOk l.prog w K mg base CX0 2 f_chL _ ["links", "names"] spCheckedLinks := ok_checkedLinks F_chL B G_isL D_isL
  have G_bI : FnOk l.prog w K mg base CX0 1 f_bI _ ["self", "part"] (spExInit Cb "part") := ok_badPart F_bI R0 XB
  have G_uI : FnOk l.prog w K mg base CX0 1 f_uI _ ["self", "name"] (spExInit Cu "name") := ok_nothing F_uI RR XU
  have G_chP : FnOk l.prog w K mg base (L2.CX l.prog w) 4 f_chP _ ["money", "memory", "tops", "numbered"] (spCheckParts Cb) := ok_checkParts F_chP B Cc XB G_bI G_isBet D_isBet G_isMem D_isMem
  have G_nN : FnOk l.prog w K mg base CX0 1 f_nN _ ["self"] (spNames Cn Ct) := ok_townNames F_nN TN TT
  have G_nH : FnOk l.prog w K mg base CX0 1 f_nH _ ["self", "name"] (spHas Cn Ct) := ok_has F_nH B TN TT
  have G_nG : FnOk l.prog w K mg base CX0 1 f_nG _ ["self", "name"] (spGet Cn Ct) := ok_get F_nG B TN TT
  have G_nS : FnOk l.prog w K mg base CX0 2 f_nS _ ["self", "name"] (spSeat Cn Ct) := ok_seat F_nS TN G_nH D_nH G_nN D_nN
  have G_nP : FnOk l.prog w K mg base CX0 1 f_nP _ ["self"] (spParts Cn Ct) := ok_parts F_nP TN
  have G_tI : FnOk l.prog w K mg base CX0 3 f_tI _ ["self", "name", "limit", "heeds"] (spTillInit Ct) := ok_tillInit F_tI TT B Cc G_isNam D_isNam G_isBet D_isBet
  have G_nI : FnOk l.prog w K mg base (L2.CX l.prog w) 5 f_nI _ ["self", "tills", "links", "money", "memory", "tops", "numbered"] (spTownInit Cn Ct Cb) := ok_townInit F_nI TN G_chT D_chT G_chL D_chL G_chP D_chP G_nN D_nN
  have G_nM : FnOk l.prog w K mg base (L2.CX l.prog w) 7 f_nM _ ["self", "tills", "links", "parts"] (spMade Cn Ct Cb) := ok_made F_nM TN MkN G_nI (kb_town F_nI)
  have G_nW : FnOk l.prog w K mg base (L2.CX l.prog w) 8 f_nW _ ["self", "till"] (spWith Cn Ct) := ok_with F_nW B TN TT G_nS D_nS G_nM D_nM G_nP D_nP
  have G_nC : FnOk l.prog w K mg base (L2.CX l.prog w) 8 f_nC _ ["self", "part", "value"] (spChanged Cn Ct Cb) := ok_changed F_nC B TN PK_ G_nM D_nM G_nP D_nP
  have G_nE : FnOk l.prog w K mg base CX0 4 f_nE _ ["self", "other"] (spEq (NEq Cn Ct)) := ok_townEq F_nE B TN G_tE D_tE
  have G_sI : FnOk l.prog w K mg base CX0 1 f_sI _ ["self", "town"] (spSessInit Cs Cn Ct) := ok_sessInit F_sI B TN TS
  have G_sC : FnOk l.prog w K mg base CX0 1 f_sC _ ["self"] (spCurrent Cs Cn Ct) := ok_current F_sC TS
  have G_sL : FnOk l.prog w K mg base CX0 1 f_sL _ ["self"] (spSLen Cs Cn Ct) := ok_sLen F_sL B TS
  have G_sG : FnOk l.prog w K mg base CX0 1 f_sG _ ["self", "town"] (spGoOn Cs Cn Ct) := ok_goOn F_sG TS
  have G_sP : FnOk l.prog w K mg base (L2.CX l.prog w) 9 f_sP _ ["self", "till"] (spPut Cs Cn Ct) := ok_put F_sP TN TS G_sG D_sG G_nW D_nW
  have G_sA : FnOk l.prog w K mg base (L2.CX l.prog w) 9 f_sA _ ["self", "part", "value"] (spAssign Cs Cn Ct Cb) := ok_assign F_sA TN TS G_sG D_sG G_nC D_nC
  have G_sU : FnOk l.prog w K mg base (L2.CX l.prog w) 3 f_sU _ ["self"] (spUndo Cs Cn Ct Cu) := ok_undo F_sU TS XU G_uI
  have G_rI : FnOk l.prog w K mg base CX0 1 f_rI _ ["self", "session"] (spTrialInit Cr) := ok_trialInit F_rI TR
  have G_sT : FnOk l.prog w K mg base CX0 3 f_sT _ ["self"] (spTrial Cr) := ok_trial F_sT TR MkR G_rI D_rI.b
  have G_rE : FnOk l.prog w K mg base CX0 1 f_rE _ ["self"] (spEnter Cr Cs) := ok_enter F_rE TR TS
  have G_rX : KW.FnA l.prog w K mg base CX0 1 f_rX _ ["self", "kind", "error", "trace"] (spExit Cr Cs) := ok_exit F_rX TR TS
  have G_at10 : FnS l.prog w K mg base 12 f_sAt _ ["self", "visitor"] (spAttempt l.prog w K mg base 10 Cs) := ok_attempt (by decide) F_sAt TR TS G_sT D_sT G_rE D_rE G_rX D_rX
  have G_at13 : FnS l.prog w K mg base 15 f_sAt _ ["self", "visitor"] (spAttempt l.prog w K mg base 13 Cs) := ok_attempt (by decide) F_sAt TR TS G_sT D_sT G_rE D_rE G_rX D_rX
  have G_pool : FnOk l.prog w K mg base CX0 1 f_pool _ ["_law_script", "_law_k"] (spPool K) := ok_pool F_pool B
  have G_draw : FnOk l.prog w K mg base CX0 1 f_draw _ ["_law_pool_here", "_law_many"] spDraw := ok_draw F_draw B
  have G_pick : FnOk l.prog w K mg base CX0 2 f_pick _ ["_law_pool_here", "_law_row"] spPick := ok_pick F_pick B G_draw D_draw
  have G_nms : FnOk l.prog w K mg base CX0 3 f_nms _ ["_law_pool_here", "_law_count"] spLNames := ok_lNames F_nms B G_draw D_draw G_pick D_pick
  have G_plan : FnOk l.prog w K mg base CX0 4 f_plan _ ["_law_pool_here", "_law_many", "_law_most"] spPlan := ok_plan F_plan B G_draw D_draw G_pick D_pick G_nms D_nms
  have G_lmade : FnOk l.prog w K mg base CX0 7 f_lmade _ ["_law_t"] (spLMade Cn Ct) := ok_lMade F_lmade B TN TT MkT G_tI (kb_till F_tI) MkN G_nI (kb_town F_nI)
  have G_state : FnOk l.prog w K mg base CX0 3 f_state _ ["_law_session"] (spState Cs Cn Ct) := ok_state F_state B TS G_sC D_sC G_sL D_sL
  have SG : SessG l.prog w K mg base Cs Cn Ct Cb f_sC f_sL f_sP f_sA _ _ _ _ := ⟨TS, G_sC, D_sC, G_sL, D_sL, G_sP, D_sP, G_sA, D_sA⟩
  have G_visit : FnOk l.prog w K mg base CX0 10 f_visit _ ["_law_session", "_law_one", "_law_name"] (spVisit Cs Cn Ct) := ok_visit F_visit B SG TN TT MkT G_tI bds vds G_nE D_nE G_nG D_nG fnG
  have G_undg : FnOk l.prog w K mg base CX0 4 f_undg _ ["_law_session"] (spUndoing Cs Cn Ct) := ok_undoing F_undg B TS G_sC D_sC G_sL D_sL G_sU D_sU
  have G_rais : FnOk l.prog w K mg base (L2.CX l.prog w) 10 f_rais _ ["_law_session", "_law_name"] (spRaising Cs Cn Ct Cb) := ok_raising F_rais SG TT MkT G_tI bds vds
  have G_empt : FnOk l.prog w K mg base (L2.CX l.prog w) 4 f_empt _ ["_law_session"] (spEmptied Cs Cn Ct Cu) := ok_emptied F_empt B TS G_sU D_sU
  have G_inner : FnS l.prog w K mg base 13 f_inner _ ["_law_session", "_law_name"] (spInner [(PL, "law.<locals>.<lambda>"), (PI, "_law_inner.<locals>.<lambda>")] Cs Cn Ct) := ok_inner ⟨⟨_, _, _, _, _, _, _, _, rfl, l_inner, c_inner⟩, k_inner⟩ B SG TBI (List.mem_cons_of_mem _ (List.mem_cons_self ..)) pIL G_visit D_visit G_at10 D_sAt
  have G_refd : FnS l.prog w K mg base 16 f_refd _ ["_law_session", "_law_visitor"] (spRefused l.prog w K mg base Cs Cb Cu) := ok_refused F_refd TS EK G_at13 D_sAt
  exact ok_law ⟨⟨_, _, _, _, _, _, _, _, rfl, l_law, c_law⟩, k_law⟩ ⟨B, TS, TN, ⟨_, _, G_pool, D_pool⟩, ⟨_, _, G_plan, D_plan⟩, ⟨_, _, G_lmade, D_lmade⟩, ⟨_, _, G_draw, D_draw⟩, ⟨_, _, G_state, D_state⟩, ⟨_, _, G_sI, MkS, D_sI.b⟩, ⟨_, _, G_sA, D_sA⟩, ⟨_, _, G_sU, D_sU⟩, ⟨_, _, G_at13, D_sAt⟩, ⟨_, _, G_nE, D_nE⟩, nne, hmCn, ⟨_, _, G_visit, D_visit⟩, ⟨_, _, G_undg, D_undg⟩, ⟨_, _, G_rais, D_rais⟩, ⟨_, _, G_inner, D_inner⟩, ⟨_, _, G_refd, D_refd⟩, ⟨_, _, G_empt, D_empt⟩⟩ TBL (List.mem_cons_self ..) pLI
end CT
set_option Elab.async false
set_option maxRecDepth 100000
open PySem PySem.W PyProof.Rows in
set_option maxRecDepth 100000 in
set_option maxHeartbeats 0 in
theorem PySem.Challenge.cw_cutofftills_k70_whole_attempts_holds : PySem.Challenge.rw_cutofftills_k70_whole_attempts.Holds := by
  w_on; o_law; k_head; (case hw => w_witness2)
  k_fill
  refine LamX.walk_ofTs (l := PySem.Challenge.rw_cutofftills_k70_whole_attempts) (n := 63) (k := 17) (x := "_law_script") (CX := fun _ => L2.CX0) rfl (by decide) rfl ⟨rfl, by decide, by decide⟩ (fun w h Y => PySem.W.km_in_of Y) ?F (fun _ _ _ _ _ z => z)
  case F =>
    intro w mg fa h Y KX G hmg
    refine' CT.all_mk KX G hmg ?z_isinstance ?z_int ?z_bool ?z_str ?z_len ?z_all ?z_any ?z_tuple ?z_list ?z_sorted ?z_enumerate ?z_dict ?z_zip ?z_range ?z_max ?z_min ?z_sum ?z_abs ?k_letters ?k_mostLetters ?k_mostLimit ?k_mostMoney ?k_mostTops ?k_mostTills ?aCt ?aCn ?aCs ?aCr ?aCb ?aCu ?aC0 ?pgCt ?hdCt ?poCt ?saCt ?mkCt ?kcCt ?pgCn ?hdCn ?poCn ?saCn ?mkCn ?kcCn ?pgCs ?hdCs ?poCs ?saCs ?mkCs ?kcCs ?pgCr ?hdCr ?poCr ?saCr ?mkCr ?kcCr ?haCt ?hmCt ?haCn ?hmCn ?hn ?htk ?nCt_name ?nCt_limit ?nCt_heeds ?nCn_row ?nCn_links ?nCn_money ?nCn_memory ?nCn_tops ?nCn_numbered ?nCs_now ?nCs_past ?nCr_session ?nCr_kept_now ?nCr_kept_past ?nCb_part ?nCu_name ?nne ?xCb ?etCb ?esCb ?gaCb ?ggCb ?exCb ?tyCb ?ekCb ?ehCb ?icCb ?ssCb ?xCu ?etCu ?esCu ?gaCu ?ggCu ?exCu ?tyCu ?ekCu ?ehCu ?icCu ?ssCu ?sub ?brd ?bga ?bv ?z_RuntimeError ?rv ?aP ?lP ?a_isInt ?l_isInt ?c_isInt ?k_isInt ?a_isBet ?l_isBet ?c_isBet ?k_isBet ?a_isNam ?l_isNam ?c_isNam ?k_isNam ?a_hasK ?l_hasK ?c_hasK ?k_hasK ?a_isMem ?l_isMem ?c_isMem ?k_isMem ?a_chT ?l_chT ?c_chT ?k_chT ?a_isL ?l_isL ?c_isL ?k_isL ?a_chL ?l_chL ?c_chL ?k_chL ?a_chP ?l_chP ?c_chP ?k_chP ?a_pool ?l_pool ?c_pool ?k_pool ?a_draw ?l_draw ?c_draw ?k_draw ?a_pick ?l_pick ?c_pick ?k_pick ?a_nms ?l_nms ?c_nms ?k_nms ?a_plan ?l_plan ?c_plan ?k_plan ?a_lmade ?l_lmade ?c_lmade ?k_lmade ?a_state ?l_state ?c_state ?k_state ?a_visit ?l_visit ?c_visit ?k_visit ?a_undg ?l_undg ?c_undg ?k_undg ?a_rais ?l_rais ?c_rais ?k_rais ?a_inner ?l_inner ?c_inner ?k_inner ?a_refd ?l_refd ?c_refd ?k_refd ?a_empt ?l_empt ?c_empt ?k_empt ?a_law ?l_law ?c_law ?k_law ?a_tI ?i_tI ?l_tI ?c_tI ?k_tI ?a_tE ?i_tE ?l_tE ?c_tE ?k_tE ?a_nI ?i_nI ?l_nI ?c_nI ?k_nI ?a_nH ?i_nH ?l_nH ?c_nH ?k_nH ?a_nG ?i_nG ?l_nG ?c_nG ?k_nG ?a_nE ?i_nE ?l_nE ?c_nE ?k_nE ?a_nN ?i_nN ?l_nN ?c_nN ?k_nN ?a_nS ?i_nS ?l_nS ?c_nS ?k_nS ?a_nM ?i_nM ?l_nM ?c_nM ?k_nM ?a_nP ?i_nP ?l_nP ?c_nP ?k_nP ?a_nW ?i_nW ?l_nW ?c_nW ?k_nW ?a_nC ?i_nC ?l_nC ?c_nC ?k_nC ?a_sI ?i_sI ?l_sI ?c_sI ?k_sI ?a_sC ?i_sC ?l_sC ?c_sC ?k_sC ?a_sL ?i_sL ?l_sL ?c_sL ?k_sL ?a_sG ?i_sG ?l_sG ?c_sG ?k_sG ?a_sP ?i_sP ?l_sP ?c_sP ?k_sP ?a_sA ?i_sA ?l_sA ?c_sA ?k_sA ?a_sU ?i_sU ?l_sU ?c_sU ?k_sU ?a_sT ?i_sT ?l_sT ?c_sT ?k_sT ?a_sAt ?i_sAt ?l_sAt ?c_sAt ?k_sAt ?a_rI ?i_rI ?l_rI ?c_rI ?k_rI ?a_rE ?i_rE ?l_rE ?c_rE ?k_rE ?a_rX ?i_rX ?l_rX ?c_rX ?k_rX ?a_bI ?t_bI ?l_bI ?c_bI ?k_bI ?a_uI ?t_uI ?l_uI ?c_uI ?k_uI ?fnG ?dT ?xcL ?pcL ?bcL ?tcL ?nncL ?xcI ?pcI ?bcI ?tcI ?nncI ?ne
    (case z_isinstance => k_is)
    (case z_int => k_is)
    (case z_bool => k_is)
    (case z_str => k_is)
    (case z_len => k_is)
    (case z_all => k_is)
    (case z_any => k_is)
    (case z_tuple => k_is)
    (case z_list => k_is)
    (case z_sorted => k_is)
    (case z_enumerate => k_is)
    (case z_dict => k_is)
    (case z_zip => k_is)
    (case z_range => k_is)
    (case z_max => k_is)
    (case z_min => k_is)
    (case z_sum => k_is)
    (case z_abs => k_is)
    (case k_letters => k_is)
    (case k_mostLetters => k_is)
    (case k_mostLimit => k_is)
    (case k_mostMoney => k_is)
    (case k_mostTops => k_is)
    (case k_mostTills => k_is)
    (case aCt => k_is)
    (case aCn => k_is)
    (case aCs => k_is)
    (case aCr => k_is)
    (case aCb => k_is)
    (case aCu => k_is)
    (case aC0 => k_is)
    (case pgCt => k_is)
    (case hdCt => k_is)
    (case poCt => k_is)
    (case saCt => k_is)
    (case mkCt => k_is)
    (case kcCt => k_is)
    (case pgCn => k_is)
    (case hdCn => k_is)
    (case poCn => k_is)
    (case saCn => k_is)
    (case mkCn => k_is)
    (case kcCn => k_is)
    (case pgCs => k_is)
    (case hdCs => k_is)
    (case poCs => k_is)
    (case saCs => k_is)
    (case mkCs => k_is)
    (case kcCs => k_is)
    (case pgCr => k_is)
    (case hdCr => k_is)
    (case poCr => k_is)
    (case saCr => k_is)
    (case mkCr => k_is)
    (case kcCr => k_is)
    (case haCt => k_is)
    (case hmCt => k_is)
    (case haCn => k_is)
    (case hmCn => k_is)
    (case hn => k_is)
    (case htk => k_is)
    (case nCt_name => k_is)
    (case nCt_limit => k_is)
    (case nCt_heeds => k_is)
    (case nCn_row => k_is)
    (case nCn_links => k_is)
    (case nCn_money => k_is)
    (case nCn_memory => k_is)
    (case nCn_tops => k_is)
    (case nCn_numbered => k_is)
    (case nCs_now => k_is)
    (case nCs_past => k_is)
    (case nCr_session => k_is)
    (case nCr_kept_now => k_is)
    (case nCr_kept_past => k_is)
    (case nCb_part => k_is)
    (case nCu_name => k_is)
    (case nne => k_is)
    (case xCb => k_is)
    (case etCb => first | rfl | decide +kernel)
    (case esCb => k_is)
    (case gaCb => k_is)
    (case ggCb => k_is)
    (case exCb => k_is)
    (case tyCb => k_is)
    (case ekCb => k_is)
    (case ehCb => k_is)
    (case icCb => k_is)
    (case ssCb => first | k_is | rfl)
    (case xCu => k_is)
    (case etCu => first | rfl | decide +kernel)
    (case esCu => k_is)
    (case gaCu => k_is)
    (case ggCu => k_is)
    (case exCu => k_is)
    (case tyCu => k_is)
    (case ekCu => k_is)
    (case ehCu => k_is)
    (case icCu => k_is)
    (case ssCu => first | k_is | rfl)
    (case sub => k_is)
    (case brd => k_is)
    (case bga => k_is)
    (case bv => k_is)
    (case z_RuntimeError => k_is)
    (case rv => k_is)
    (case aP => k_is)
    (case lP => k_is)
    (case a_isInt => k_is)
    (case l_isInt => k_is)
    (case c_isInt => k_is)
    (case k_isInt => k_is)
    (case a_isBet => k_is)
    (case l_isBet => k_is)
    (case c_isBet => k_is)
    (case k_isBet => k_is)
    (case a_isNam => k_is)
    (case l_isNam => k_is)
    (case c_isNam => k_is)
    (case k_isNam => k_is)
    (case a_hasK => k_is)
    (case l_hasK => k_is)
    (case c_hasK => k_is)
    (case k_hasK => k_is)
    (case a_isMem => k_is)
    (case l_isMem => k_is)
    (case c_isMem => k_is)
    (case k_isMem => k_is)
    (case a_chT => k_is)
    (case l_chT => k_is)
    (case c_chT => k_is)
    (case k_chT => k_is)
    (case a_isL => k_is)
    (case l_isL => k_is)
    (case c_isL => k_is)
    (case k_isL => k_is)
    (case a_chL => k_is)
    (case l_chL => k_is)
    (case c_chL => k_is)
    (case k_chL => k_is)
    (case a_chP => k_is)
    (case l_chP => k_is)
    (case c_chP => k_is)
    (case k_chP => k_is)
    (case a_pool => k_is)
    (case l_pool => k_is)
    (case c_pool => k_is)
    (case k_pool => k_is)
    (case a_draw => k_is)
    (case l_draw => k_is)
    (case c_draw => k_is)
    (case k_draw => k_is)
    (case a_pick => k_is)
    (case l_pick => k_is)
    (case c_pick => k_is)
    (case k_pick => k_is)
    (case a_nms => k_is)
    (case l_nms => k_is)
    (case c_nms => k_is)
    (case k_nms => k_is)
    (case a_plan => k_is)
    (case l_plan => k_is)
    (case c_plan => k_is)
    (case k_plan => k_is)
    (case a_lmade => k_is)
    (case l_lmade => k_is)
    (case c_lmade => k_is)
    (case k_lmade => k_is)
    (case a_state => k_is)
    (case l_state => k_is)
    (case c_state => k_is)
    (case k_state => k_is)
    (case a_visit => k_is)
    (case l_visit => k_is)
    (case c_visit => k_is)
    (case k_visit => k_is)
    (case a_undg => k_is)
    (case l_undg => k_is)
    (case c_undg => k_is)
    (case k_undg => k_is)
    (case a_rais => k_is)
    (case l_rais => k_is)
    (case c_rais => k_is)
    (case k_rais => k_is)
    (case a_inner => k_is)
    (case l_inner => k_is)
    (case c_inner => k_is)
    (case k_inner => k_is)
    (case a_refd => k_is)
    (case l_refd => k_is)
    (case c_refd => k_is)
    (case k_refd => k_is)
    (case a_empt => k_is)
    (case l_empt => k_is)
    (case c_empt => k_is)
    (case k_empt => k_is)
    (case a_law => k_is)
    (case l_law => k_is)
    (case c_law => k_is)
    (case k_law => k_is)
    (case a_tI => k_is)
    (case i_tI => k_is)
    (case l_tI => k_is)
    (case c_tI => k_is)
    (case k_tI => k_is)
    (case a_tE => k_is)
    (case i_tE => k_is)
    (case l_tE => k_is)
    (case c_tE => k_is)
    (case k_tE => k_is)
    (case a_nI => k_is)
    (case i_nI => k_is)
    (case l_nI => k_is)
    (case c_nI => k_is)
    (case k_nI => k_is)
    (case a_nH => k_is)
    (case i_nH => k_is)
    (case l_nH => k_is)
    (case c_nH => k_is)
    (case k_nH => k_is)
    (case a_nG => k_is)
    (case i_nG => k_is)
    (case l_nG => k_is)
    (case c_nG => k_is)
    (case k_nG => k_is)
    (case a_nE => k_is)
    (case i_nE => k_is)
    (case l_nE => k_is)
    (case c_nE => k_is)
    (case k_nE => k_is)
    (case a_nN => k_is)
    (case i_nN => k_is)
    (case l_nN => k_is)
    (case c_nN => k_is)
    (case k_nN => k_is)
    (case a_nS => k_is)
    (case i_nS => k_is)
    (case l_nS => k_is)
    (case c_nS => k_is)
    (case k_nS => k_is)
    (case a_nM => k_is)
    (case i_nM => k_is)
    (case l_nM => k_is)
    (case c_nM => k_is)
    (case k_nM => k_is)
    (case a_nP => k_is)
    (case i_nP => k_is)
    (case l_nP => k_is)
    (case c_nP => k_is)
    (case k_nP => k_is)
    (case a_nW => k_is)
    (case i_nW => k_is)
    (case l_nW => k_is)
    (case c_nW => k_is)
    (case k_nW => k_is)
    (case a_nC => k_is)
    (case i_nC => k_is)
    (case l_nC => k_is)
    (case c_nC => k_is)
    (case k_nC => k_is)
    (case a_sI => k_is)
    (case i_sI => k_is)
    (case l_sI => k_is)
    (case c_sI => k_is)
    (case k_sI => k_is)
    (case a_sC => k_is)
    (case i_sC => k_is)
    (case l_sC => k_is)
    (case c_sC => k_is)
    (case k_sC => k_is)
    (case a_sL => k_is)
    (case i_sL => k_is)
    (case l_sL => k_is)
    (case c_sL => k_is)
    (case k_sL => k_is)
    (case a_sG => k_is)
    (case i_sG => k_is)
    (case l_sG => k_is)
    (case c_sG => k_is)
    (case k_sG => k_is)
    (case a_sP => k_is)
    (case i_sP => k_is)
    (case l_sP => k_is)
    (case c_sP => k_is)
    (case k_sP => k_is)
    (case a_sA => k_is)
    (case i_sA => k_is)
    (case l_sA => k_is)
    (case c_sA => k_is)
    (case k_sA => k_is)
    (case a_sU => k_is)
    (case i_sU => k_is)
    (case l_sU => k_is)
    (case c_sU => k_is)
    (case k_sU => k_is)
    (case a_sT => k_is)
    (case i_sT => k_is)
    (case l_sT => k_is)
    (case c_sT => k_is)
    (case k_sT => k_is)
    (case a_sAt => k_is)
    (case i_sAt => k_is)
    (case l_sAt => k_is)
    (case c_sAt => k_is)
    (case k_sAt => k_is)
    (case a_rI => k_is)
    (case i_rI => k_is)
    (case l_rI => k_is)
    (case c_rI => k_is)
    (case k_rI => k_is)
    (case a_rE => k_is)
    (case i_rE => k_is)
    (case l_rE => k_is)
    (case c_rE => k_is)
    (case k_rE => k_is)
    (case a_rX => k_is)
    (case i_rX => k_is)
    (case l_rX => k_is)
    (case c_rX => k_is)
    (case k_rX => k_is)
    (case a_bI => k_is)
    (case t_bI => k_is)
    (case l_bI => k_is)
    (case c_bI => k_is)
    (case k_bI => k_is)
    (case a_uI => k_is)
    (case t_uI => k_is)
    (case l_uI => k_is)
    (case c_uI => k_is)
    (case k_uI => k_is)
    (case fnG => k_is)
    (case dT => k_is)
    (case xcL => k_is)
    (case pcL => rfl)
    (case bcL => first | rfl | decide +kernel)
    (case tcL => exact PySem.W.km_tabs_of Y _ (by decide))
    (case nncL => first | rfl | decide)
    (case xcI => k_is)
    (case pcI => rfl)
    (case bcI => first | rfl | decide +kernel)
    (case tcI => exact PySem.W.km_tabs_of Y _ (by decide))
    (case nncI => first | rfl | decide)
    (case ne => decide)
#print axioms PySem.Challenge.cw_cutofftills_k70_whole_attempts_holds
