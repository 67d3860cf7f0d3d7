import PyProof.Rows.All
import Wide.All
import OpenK.AllK
import Wide.FinOn
import HandS.ForMost
import HandS.Exc
import HandS.WordsExc
import HandS.HotCalls
import HandS.Words
import KE.KWithOwn
import HandS.Lambda
import HandS.TryMany
import HandS.ExcInit
import PyProof.ExcBaseAll.LookupError
import HandS.Dict
import HandS.TupAny
import KE.KDictPairs
import HandS.Iter
import HandS.Walk
import KE.GoesEnum
import HandS.ExcOwn
import HandS.Call
import HandS.List
import HandS.OwnIter
import PyProof.InstSpecial
import OpenK.KMake
import HandS.SlotsOwn
import PyProof.InstEq
import OpenK.KWalk
import HandS.Conv
import HandS.Sort
import HandS.DictComp
import KE.KDictList
import HandS.Defaults
import HandS.HeadHook1
import HandS.HeadHook2
import HandS.HeadHook3
import HandS.HeadHook4
import HandS.HeadNt
import HandS.HeadWalk
import HandS.Codes
import HandS.ExcField
import HandS.ClsMeth
import HandS.Property
import HandS.Head0
import HandS.Head1
import HandS.Head2
import KE.KStateDown
import HandS.Comp
import HandS.Small
import HandS.Flow
import HandS.IsInst
import HandS.CallLocal
import PySem.Challenge.RW_sourwright_k72_texts_in_a_workshop
-- RWith
set_option Elab.async false
set_option linter.all false
set_option maxRecDepth 100000
set_option maxHeartbeats 400000
namespace Wx
open PySem PySem.Spec PyProof.Rows L2 L2H
/-- with's own hand, once its block was left by the error u: the way on, by the answer of __exit__ -/
def byAnswer (env : Env) (u : Value) (yes : Bool) : Sem Flow :=
  if yes then (do
    rule "with.exit-swallows"
    setFlight u none
    pure .next) else passOn "with" u env
/-- .. the call of __exit__ and its answer -/
def askExit (p : Pos) (env : Env) (fx : Value) (xs : List Value) (u : Value) : Sem Flow := do
  standAt p
  holding [u] (do
    let ty ← typeOf u
    let tb ← tracebackOf u
    let r ← withItem.marked u (.call fx ⟨xs ++ [ty, u, tb], []⟩)
    match r with
    | .none => byAnswer env u false
    | .bool b => byAnswer env u b
    | _ => (do
      let t ← withItem.marked u (.call (.type "bool") ⟨[r], []⟩)
      byAnswer env u (t == .bool true)))
def withErr (p : Pos) (env : Env) (fx : Value) (xs : List Value) (u : Value) : Sem Flow := do
  noteFrame u env
  setFlight u none
  askExit p env fx xs u
section
variable {prog : Program} {w : World} {A : Around} {E : Value → Shared → Prop} {s : Shared} {env : Env} {K : PySem.W.Frag} {x C fe fx : Addr} {ox : Obj} {od : Option Obj} {pos : Pos}
theorem with_any {b : Value → Sem Unit} {bdy : Sem Flow} {Q : Flow → Shared → Prop} (X : K.In s.heap) (I : PySem.W.InstAt s.heap x ox C od) (he : PySem.W.findIn K (.ref C) "__enter__" = some (some (.ref fe))) (hfe : PySem.W.isFn K (.ref fe) = true)
    (hx : PySem.W.findIn K (.ref C) "__exit__" = some (some (.ref fx))) (hfx : PySem.W.isFn K (.ref fx) = true)
    (h : wpAny (model prog w) A (call (.ref fe) [.ref x]) (fun v s₂ => wpAny (model prog w) A (b v) (fun _ s₃ => wpAny (model prog w) A bdy (fun f s₄ => wpAny (model prog w) A (call (.ref fx) [.ref x, .none, .none, .none]) (fun _ s₅ => Q f s₅) E s₄)
      (fun e s₄ => wpAny (model prog w) A (withErr pos env (.ref fx) [.ref x] e) Q E s₄) s₃) (fun e s₄ => wpAny (model prog w) A (withErr pos env (.ref fx) [.ref x] e) Q E s₄) s₂) E s) :
    wpAny (model prog w) A (withItem false pos env (pure (.ref x)) (some b) bdy) Q E s := by
  obtain ⟨cd, hcd, ae⟩ := PySem.W.kw_along he
  obtain ⟨cd', hcd', ax⟩ := PySem.W.kw_along hx
  cases hcd.symm.trans hcd'
  obtain ⟨hh, g, d, tt, os⟩ := s
  have L1 : PySem.W.Looks (model prog w) hh (specialOnItsLine (.ref x) "__enter__") (some (.ref fe), cd.mro) := PySem.W.kw_special X I hcd ae
  have L2 : PySem.W.Looks (model prog w) hh (specialOnItsLine (.ref x) "__exit__") (some (.ref fx), cd.mro) := PySem.W.kw_special X I hcd ax
  have L3 : PySem.W.Looks (model prog w) hh (bindSpecial (.ref fe) (.ref x)) (.ref fe, [.ref x]) := PySem.W.bind_fn X _ (beq_iff_eq.mp hfe)
  have L4 : PySem.W.Looks (model prog w) hh (bindSpecial (.ref fx) (.ref x)) (.ref fx, [.ref x]) := PySem.W.bind_fn X _ (beq_iff_eq.mp hfx)
  have L5 : PySem.W.Looks (model prog w) hh (aMethodOfAnotherBuiltinTypeStops (.ref fe) cd.mro) () := PySem.W.Looks.of_pure rfl
  have L6 : PySem.W.Looks (model prog w) hh (aMethodOfAnotherBuiltinTypeStops (.ref fx) cd.mro) () := PySem.W.Looks.of_pure rfl
  unfold withItem
  refine wpAny_bind (wpAny_pure ?_)
  refine wpAny_bind (wpAny_standAt ?_)
  simp only [Bool.false_eq_true, if_false]
  open PySem.W in kw_lk
  refine wpAny_mono h (fun v s₂ h₂ => ?_) fun _ _ z => z
  open PySem.W in kw_lk
  refine wpAny_attempt (PySem.W.kw_held ?_)
  show wpAny _ _ (b v >>= fun _ => bdy) _ _ _
  refine wpAny_bind (wpAny_mono h₂ (fun _ s₃ h₃ => wpAny_mono h₃ (fun f s₄ h₄ => ?_) fun e s₄ z => ?_) fun e s₄ z => ?_)
  · open PySem.W in kw_lk
    refine wpAny_mono h₄ (fun _ s₅ h₅ => ?_) fun _ _ z => z
    open PySem.W in kw_lk
    exact h₅
  · exact z
  · exact z
end
end Wx
namespace Wx
open PySem PySem.Spec PyProof.Rows L2 L2H
abbrev St := L2.St
/-! ### a def that raises nothing, called wherever (also while an exception is handled) -/
abbrev CXN : CXT := fun _ _ _ _ _ _ => False
structure FnT (P : Program) (w : World) (K : PySem.W.Frag) (mg : Str → Option Value) (base : Heap) (k : Nat) (f : Addr) (fd : FuncData) (ps : List Str) (sp : Sp) : Prop where
  len : ∀ vs H Q E, sp vs H Q E → vs.length = ps.length
  run : ∀ (A : Around) (outer : List Env) (s : Shared) (H : Hp) (args : Args) (us : List Value) (vs : List V) (Q : VK) (E : XK), RoomH k A → Env0 P w K mg base A outer s H → BindsTo s fd args (ps.zip us) → Vals vs us → sp vs H Q E →
    codeAny (model P w) A (.call (.ref f) args) (CR CXN outer P w H s Q E) s
/-- the context of such a def's body -/
abbrev cxT (P : Program) (w : World) (K : PySem.W.Frag) (mg : Str → Option Value) (base : Heap) (N : List Str) (qual : Str) (scope : Scope) (f : Addr) (cd : Value) (A : Around) (outer : List Env) (s : Shared) (H : Hp) (E : XK) : Cx :=
  { cxOf CXN P w K mg base N qual scope f cd A outer s H E with calm := false }
theorem inv_startT {P : Program} {w : World} {K : PySem.W.Frag} {mg : Str → Option Value} {base : Heap} {N ps : List Str} {qual : Str} {scope : Scope} {f : Addr} {cd : Value} {A : Around} {outer : List Env} {s s1 : Shared} {H : Hp} {E : XK} {us : List Value} {vs : List V}
    (S : FnScope N ps scope) (e0 : Env0 P w K mg base A outer s H) (hl : vs.length = ps.length) (r : Vals vs us)
    (x : InCallC s s.heap.objs.size (bindL (envOfC qual scope s.heap.objs.size f cd).kindOf (ps.zip us) fun _ => none) (cellsFrom (s.heap.objs.size + 1) scope.names []) (bindC (envOfC qual scope s.heap.objs.size f cd).kindOf (ps.zip us) fun _ => none) s1) :
    Inv (cxT P w K mg base N qual scope f cd A outer s H E) [] (L2.start N vs) H s1 := by
  have hpl : ps.length ≤ N.length := by have := congrArg List.length S.pre; rw [List.length_take] at this; omega
  obtain ⟨h1, tk, rfl, hk⟩ := x.done
  have noA : ∀ b : Addr, b ∉ (cxT P w K mg base N qual scope f cd A outer s H E).ex := fun b z => absurd (show b ∈ ([] : List Addr) from z) (by simp)
  refine ⟨⟨e0.mod, S.kind, rfl, rfl, Nat.le_refl _, fun y z c h1 h2 => ?_, fun y hy => ?_, fun y c _ h => ?_, (fun z => Bool.noConfusion (show false = true from z)), Around.frames_deeper e0.frames, .inr ⟨rfl, rfl⟩, fun b z => absurd z (noA b), e0.bs, e0.bsz, fun b _ _ => noA b, fun b z => absurd z (noA b), e0.funs, e0.frf⟩,
    rfl, e0.bare, Un.kept hk, ⟨_, x.toInCall.ns, fun i y v h1 h2 h3 => ?_⟩, fun y c h => ⟨_, x.cell y c h⟩, e0.hok.fresh (Nat.le_refl _), fun y c h => ?_, fun q hq => ?_, e0.hok.kept hk, ?_⟩
  · exact name_of_addr x.apart (PySem.mem_of_lookup h1) (PySem.mem_of_lookup h2)
  · have hy : scope.names.lookup y = some .cell ∨ scope.names.lookup y = some .free := hy
    rcases hy with hy | hy
    · exact cell_has hy
    · exact absurd rfl (S.nofree _ (PySem.mem_of_lookup hy))
  · exact Nat.le_of_lt (x.above y c (PySem.mem_of_lookup h))
  · have hi : i < vs.length := by
      unfold L2.start at h2
      by_cases hi : i < vs.length
      · exact hi
      · rw [List.getElem?_append_right (by simpa using hi)] at h2
        rw [List.getElem?_replicate] at h2
        split at h2 <;> cases h2
    have ha : vs[i]? = some v := by
      unfold L2.start at h2
      rw [List.getElem?_append_left (by simpa using hi), List.getElem?_map] at h2
      cases e : vs[i]? with
      | none => rw [e] at h2; cases h2
      | some a => rw [e] at h2; cases h2; rfl
    obtain ⟨u, hu, rv⟩ := r.get ha
    have hp : ps[i]? = some y := by
      rw [← S.pre, List.getElem?_take_of_lt (by omega)]; exact h1
    have ndP : ps.Nodup := by rw [← S.pre]; exact S.nd.sublist (List.take_sublist _ _)
    refine ⟨u, rv, ?_⟩
    rcases S.par y (List.mem_of_getElem? hp) with k | k
    · exact .inl ⟨k, bindL_get ndP hp hu k⟩
    · obtain ⟨c, e⟩ := cell_has (n := s.heap.objs.size + 1) k
      refine .inr ⟨.inl k, c, e, ?_⟩
      have q := x.cell y c e
      rw [bindC_get ndP hp hu (by show scope.names.lookup y ≠ _; rw [k]; decide)] at q
      exact q
  · exact e0.hok.fresh (Nat.le_of_lt (x.above y c (PySem.mem_of_lookup h)))
  · exact absurd (show q ∈ ([] : List (Addr × Obj)) from hq) (by simp)
  · unfold L2.start
    show _ = N.length
    rw [List.length_append, List.length_map, List.length_replicate]
    omega
theorem fn_ofT {P : Program} {w : World} {K : PySem.W.Frag} {mg : Str → Option Value} {base : Heap} {k : Nat} {f : Addr} {name qual : Str} {params : Arguments} {body : List Stmt} {scope : Scope} {dV kV doc pm cdv ct oc : Value} {an od : Option Addr}
    {osl : Array (Option Value)} {N ps : List Str} {sp : Sp} (lk : K.lookup f = some ⟨oc, od, .func (PySem.W.fnOf name qual params body scope dV kV doc pm an cdv ct), osl⟩) (hcd : PySem.W.codeIn K cdv qual = true) (S : FnScope N ps scope)
    (len : ∀ vs H Q E, sp vs H Q E → vs.length = ps.length)
    (hbody : ∀ (A : Around) (outer : List Env) (s : Shared) (H : Hp) (vs : List V) (Q : VK) (E : XK), RoomH k (A.deeper (envOfC qual scope s.heap.objs.size f cdv)) → sp vs H Q E →
      ∃ t, PSs (cxT P w K mg base N qual scope f cdv A outer s H E) body t ∧ t { nx := fun _ H' => Q .non H', rt := Q } (L2.start N vs) H) :
    FnT P w K mg base (k + 1) f (PySem.W.fnOf name qual params body scope dV kV doc pm an cdv ct) ps sp := by
  refine ⟨len, fun A outer s H args us vs Q E hr e0 hb r hsp => ?_⟩
  have hl := len _ _ _ _ hsp
  have KX : K.In s.heap := e0.mod.kin.keeps fun b o e => (e0.bs b o e).1
  have lim : s.heap.NoLimit := e0.mod.nolimit.keeps fun b o e => (e0.bs b o e).1
  have hkind : ∀ y ∈ ps.zip us, scope.names.lookup y.1 = some .local ∨ (scope.names.lookup y.1 = some .cell ∧ ((cellsFrom (s.heap.objs.size + 1) scope.names []).lookup y.1).isSome = true) := fun ⟨n, v⟩ hy => by
    rcases S.par n (List.of_mem_zip hy).1 with q | q
    · exact .inl q
    · exact .inr ⟨q, PySem.W.cellsFrom_some _ _ _ (.inl q)⟩
  refine codeAny_call_function hr.depth (KX _ _ lk) rfl S.co S.gen rfl (PySem.W.codeRec_of KX hcd) (hb _ _ _ _ ?_)
  refine wpAny_newFunctionEnv_cells S.kind hkind fun env he s1 x => ?_
  subst he
  refine ⟨lim.keeps x.toInCall.keep, codeAny_func ?_⟩
  obtain ⟨t, ht, hq⟩ := hbody A outer s H vs Q E (hr.deeper _) hsp
  have I : Inv (cxT P w K mg base N qual scope f cdv A outer s H E) [] (L2.start N vs) H s1 := inv_startT S e0 hl r x
  refine wpAny_mono (ht.run [] s1 (L2.start N vs) H _ I hq) (fun fl s' hs => ?_) fun e s' hs => hs
  have fin : ∀ {σ' : St} {H' : Hp} {v : V} {u : Value}, Inv (cxT P w K mg base N qual scope f cdv A outer s H E) [] σ' H' s' → RelV v u → Q v H' → CE outer P w H s Q u s' :=
    fun {σ' H' v u} J rv q => ⟨v, H', J.os, J.bare, J.base, J.hok, rv, q⟩
  cases fl with
  | ret u =>
    obtain ⟨v, σ', H', J, rv, q⟩ := hs
    exact fin J rv q
  | next =>
    obtain ⟨σ', H', J, q⟩ := hs
    exact fin (v := V.non) (u := Value.none) J rfl q
  | brk =>
    obtain ⟨_, _, _, q⟩ := hs
    exact False.elim q
  | cont =>
    obtain ⟨_, _, _, q⟩ := hs
    exact False.elim q
end Wx
namespace Wx
open PySem PySem.Spec PyProof.Rows L2 L2H
theorem Fun.okT {P : Program} {w : World} {K : PySem.W.Frag} {mg : Str → Option Value} {base : Heap} {x qual : Str} {st : Stmt} {f : Addr} {fd : FuncData} {N ps : List Str} {k : Nat} {sp : Sp} (F : Fun K x qual st f fd) (S : FnScope N ps (defScope st)) (len : ∀ vs H Q E, sp vs H Q E → vs.length = ps.length)
    (hbody : ∀ (cdv : Value) (A : Around) (outer : List Env) (s : Shared) (H : Hp) (vs : List V) (Q : VK) (E : XK), RoomH k (A.deeper (envOfC qual (defScope st) s.heap.objs.size f cdv)) → sp vs H Q E →
      ∃ t, PSs (cxT P w K mg base N qual (defScope st) f cdv A outer s H E).nox (defBody st) t ∧ t { nx := fun _ H' => Q .non H', rt := Q } (start N vs) H) : FnT P w K mg base (k + 1) f fd ps sp := by
  obtain ⟨oc, od, kV, doc, pm, an, cdv, ct, osl, rfl, lk, hcd⟩ := F.ex
  refine fn_ofT lk hcd S len fun A outer s H vs Q E hr hsp => ?_
  obtain ⟨t, h, q⟩ := hbody cdv A outer s H vs Q E hr hsp
  exact ⟨t, h.nox, q⟩
section
variable {X : Cx} {k : Nat} {f : Addr} {fd : FuncData} {ps : List Str} {sp : Sp}
/-- such a def is called (in a mark): what CE tells, the state ahead being s -/
theorem codeT {pins : List (Addr × Obj)} {σ : St} {H : Hp} {s : Shared} {A : Around} {Q : VK} {E : XK} {us : List Value} {vs : List V} {R : Result → Shared → Prop} (F : FnT X.prog X.w X.K X.mg X.base k f fd ps sp) (hr : RoomH k A) (hA : A.frames = X.A.frames) (hb : Binds X.K fd ps [])
    (I : Inv X pins σ H s) (r : Vals vs us) (h : sp vs H Q E) (hR : ∀ u s', CE X.stack X.prog X.w H s Q u s' → R (.ok (.ret u)) s') : codeAny (model X.prog X.w) A (.call (.ref f) ⟨us, []⟩) R s := by
  have hl : us.length = ps.length := by rw [← r.length]; exact F.len _ _ _ _ h
  have b := hb s us I.kIn (by rw [List.append_nil]; exact hl)
  rw [List.append_nil] at b
  have e0 := I.env0
  refine codeAny_mono (F.run A X.stack s H ⟨us, []⟩ us vs Q E hr ⟨hA.trans e0.frames, e0.mod, e0.bs, e0.bsz, e0.funs, e0.frf, e0.hok, e0.bare⟩ b r h) fun r s' hq => ?_
  cases r with
  | error e => exact False.elim hq
  | ok fl =>
    cases fl with
    | ret u => exact hR u s' hq
    | next => exact False.elim hq
    | brk => exact False.elim hq
    | cont => exact False.elim hq
theorem run_fnT {pins : List (Addr × Obj)} {σ : St} {H : Hp} {s : Shared} {Q : VK} {E : XK} {us : List Value} {vs : List V} (F : FnT X.prog X.w X.K X.mg X.base k f fd ps sp) (hr : RoomH k X.A) (hb : Binds X.K fd ps [])
    (I : Inv X pins σ H s) (r : Vals vs us) (h : sp vs H Q E) : wpAny (model X.prog X.w) X.A (call (.ref f) us) (EP X pins σ Q) X.xe s :=
  wpAny_call (codeT F hr rfl hb I r h fun u s' c => I.after c)
end
/-- the ends behind a with: __exit__ runs, then the end is as it was -/
def endsW (spx : Sp) (x : V) (D : Ends) : Ends :=
  { nx := fun σ H => spx [x, .non, .non, .non] H (fun _ H' => D.nx σ H') (fun _ _ _ => False)
    rt := fun v H => spx [x, .non, .non, .non] H (fun _ H' => D.rt v H') (fun _ _ _ => False)
    bk := fun σ H => spx [x, .non, .non, .non] H (fun _ H' => D.bk σ H') (fun _ _ _ => False)
    ct := fun σ H => spx [x, .non, .non, .non] H (fun _ H' => D.ct σ H') (fun _ _ _ => False) }
/-- what is wished of an exception of the body: __exit__ runs with it, returns None, and it flies on -/
def wWith (spx : Sp) (x : V) (Wout : WX) : WX := fun cls d σ H => ∃ c, cls = .ref c ∧ ∀ a tv, H a = none → (tv = V.non ∨ ∃ T, tv = V.ref T ∧ H T = none) →
  spx [x, .ref c, .ref a, tv] H (fun v H' => v = .non ∧ Wout cls d σ H') (fun _ _ _ => False)
def sWith (C : Addr) (spe spx : Sp) (i : Nat) (Wout : WX) (tc : TE) (tb : WX → TS) : TS := fun D σ H => tc σ H fun x H1 => ∃ a dx fs, x = .ref a ∧ H1 a = some (.ins C dx fs) ∧
  spe [x] H1 (fun v H2 => tb (wWith spx x Wout) (endsW spx x D) (σ.set i (some v)) H2) (fun _ _ _ => False)
section
variable {X : Cx} {k : Nat} {C fe fx : Addr} {fde fdx : FuncData} {pse psx : List Str} {spe spx : Sp} {ctx : Expr} {tc : TE} {tb : WX → TS} {body : List Stmt} {i : Nat} {y : Str} {py pos : Pos} {Wout : WX}
theorem exit_err {pins : List (Addr × Obj)} {D : Ends} {x : Addr} {p : Pos} (hs : X.stack = X.env :: X.outer) (hf : X.env.frame = some X.env.locals) (FX : FnT X.prog X.w X.K X.mg X.base k fx fdx psx spx) (bx : Binds X.K fdx psx []) (hr : ∀ e, RoomH k (X.A.mark e))
    (tk : Takes X Wout) (ok : X.Ok) {xe : Value → Shared → Prop} {u : Value} {s' : Shared} (xx : XE (X.tr (X.pn ++ pins) xe) (wWith spx (.ref x) Wout) u s') :
    wpAny (model X.prog X.w) X.A (noteFrame u X.env) (fun _ s₂ => wpAny (model X.prog X.w) X.A (setFlight u none) (fun _ s₃ => wpAny (model X.prog X.w) X.A (askExit p X.env (.ref fx) [.ref x] u) (SP X pins D) X.xe s₃) X.xe s₂) X.xe s' := by
  have hfr : X.A.frames = some (X.env :: X.outer) := by rw [ok.frames, hs]
  obtain ⟨a, B, sI, pins', σ', H', cls, d, rfl, J', nb, up, sky, na, os, ag, c, rfl, wx⟩ := xx
  have J : Inv X pins σ' H' sI := J'.ofTry ok
  have sky' : Sky B (X.env :: X.outer) a (Zc (.ref c) d) X.env.locals s'.heap := by rw [← hs]; exact sky
  refine Sky.land Zc.steady hfr hf sky' fun h3 fl3 up3 => ?_
  have J3 : Inv X pins σ' H' { s' with heap := h3 } := J.landed nb fl3.1 (up.trans up3) os ag
  obtain ⟨oe3, vs3, he3, hz3, hd3⟩ := fl3.there
  have notFr : ∀ {h : Heap} {b : Addr} {o : Obj} {vs : Array Value}, h.FunFrames B (X.env :: X.outer) → h.get? b = some o → o.data = .fields vs → b ∉ frs (X.env :: X.outer) := fun {h b o vs} ff e dd hm => by
    obtain ⟨_, o', e', hnf⟩ := ff.mem hm
    rw [e] at e'; cases e'
    exact hnf _ dd
  obtain ⟨k1, k2, k3, oe, vs, T, oT, ts, he, hz, hd, h1, nT, hTa, hT, hdT, ht3⟩ := id fl3
  have nfa : a ∉ frs X.stack := by rw [hs]; exact notFr k3 he hd
  have nfT : T ∉ frs X.stack := by rw [hs]; exact notFr k3 hT hdT
  have naT : H' T = none := (J.inGround nb).gone nT
  refine wpAny_bind (wpAny_standAt (wpAny_holding ?_))
  refine wpAny_bind (wpAny_typeOf_ref he ?_)
  rw [hz.1]
  -- the traceback
  have tb_ : ∀ {Q : Value → Shared → Prop}, (∀ tv u, RelV tv u → (tv = V.non ∨ ∃ T, tv = V.ref T ∧ H' T = none) → Q u { s' with heap := h3 }) → wpAny (model X.prog X.w) X.A (tracebackOf (.ref a)) Q X.xe { s' with heap := h3 } := fun {Q} q => by
    unfold tracebackOf
    refine wpAny_bind (wpAny_field he hd h1 ?_)
    have h1lt : 1 < ts.size := Nat.lt_of_lt_of_le (by decide) (Nat.le_of_lt (Array.getElem?_eq_some_iff.mp ht3).1)
    dsimp only
    refine wpAny_bind (wpAny_field (i := 1) hT hdT (Array.getElem?_eq_getElem h1lt) ?_)
    split
    · exact wpAny_pure (q .non _ rfl (.inl rfl))
    · first
      | exact wpAny_pure (q (.ref T) _ rfl (.inr ⟨T, rfl, naT⟩))
      | exact wpAny_bind (wpAny_pure (wpAny_pure (q (.ref T) _ rfl (.inr ⟨T, rfl, naT⟩))))
  refine wpAny_bind (tb_ fun tv ut rt ht => ?_)
  have hsp := wx a tv na ht
  unfold withItem.marked
  refine wpAny_bind (wpAny_bind (wpAny_run (codeT FX (hr _) rfl bx J3 (vs := [.ref x, .ref c, .ref a, tv]) (.cons rfl (.cons rfl (.cons rfl (.cons rt .nil)))) hsp fun u5 s5 ce => ?_) (by intro z; cases z)))
  refine wpAny_pure ?_
  obtain ⟨v5, H5, os5, ag5, un5, hok5, r5, e5, w5⟩ := ce
  subst e5
  obtain rfl : u5 = Value.none := r5
  dsimp only
  unfold byAnswer
  simp only [Bool.false_eq_true, if_false]
  -- a and T as they were
  have he5 : s5.heap.get? a = some oe := un5.keep a oe he na nfa (by simp)
  have hT5 : s5.heap.get? T = some oT := un5.keep T oT hT naT nfT (by simp)
  have na5 : H5 a = none := un5.free a oe he na (by simp)
  have nT5 : H5 T = none := un5.free T oT hT naT (by simp)
  obtain ⟨G, g1, g2⟩ := restrict s5.heap fun b => decide (b ≠ a ∧ b ≠ T)
  have gK : ∀ b o, s5.heap.get? b = some o → b ≠ a → b ≠ T → G.get? b = some o := fun b o e n1 n2 => by
    rw [g1 b (by simp [n1, n2])]; exact e
  have gS : ∀ b o, G.get? b = some o → s5.heap.get? b = some o ∧ b ≠ a ∧ b ≠ T := fun b o e => by
    by_cases hb : b ≠ a ∧ b ≠ T
    · rw [g1 b (by simp [hb])] at e
      exact ⟨e, hb⟩
    · rw [g2 b (by simpa using hb)] at e; cases e
  have nBa : ∀ b o, sI.heap.get? b = some o → b ≠ a ∧ b ≠ T := fun b o e => by
    by_cases hb : b ∈ frs X.stack
    · exact ⟨fun z => nfa (z ▸ hb), fun z => nfT (z ▸ hb)⟩
    · have z := nb b o e hb
      refine ⟨fun q => ?_, fun q => ?_⟩
      · rw [q, k2] at z; cases z
      · rw [q, nT] at z; cases z
  have frS : ∀ b o, sI.heap.get? b = some o → b ∈ frs X.stack → ∃ sl, h3.get? b = some { o with slots := sl } := fun b o e hb => by
    obtain ⟨_, o', e', hdn⟩ := J.stack.mem hb
    rw [e] at e'; cases e'
    exact (up.trans up3) b o e hdn
  have hokG : HOk X.prog X.w H5 G := fun b ob q => (hok5 b ob q).stay (fun c u hc r => by
    have hn : ∀ y, H5 y = none → c ≠ y := fun y hy z => by
      subst z
      rcases hc with z | z
      · rw [z] at hy; rw [hy] at q; cases q
      · rw [hy] at z; cases z
    exact gK c u r (hn a na5) (hn T nT5)) (fun _ r => r) fun _ _ r => r
  have J5 : Inv X pins σ' H5 { sI with heap := G, gens := s5.gens, drawn := s5.drawn, toks := s5.toks } := by
    refine J.call (ch := []) ⟨fun b o e n hb _ => ?_, fun b o e n hb _ => ?_, fun b o e n _ => ?_, fun b o e _ => ?_, un5.tups, un5.frzs, un5.tbls⟩ hokG ag5 (fun _ z => nomatch z)
    · exact gK b o (un5.keep b o (k1 b o (nb b o e hb)) n hb (by simp)) (nBa b o e).1 (nBa b o e).2
    · obtain ⟨sl, e3⟩ := frS b o e hb
      obtain ⟨sl2, e4⟩ := un5.slot b _ e3 n hb (by simp)
      exact ⟨sl2, gK b _ e4 (nBa b o e).1 (nBa b o e).2⟩
    · by_cases hb : b ∈ frs X.stack
      · obtain ⟨sl, e3⟩ := frS b o e hb
        exact un5.free b _ e3 n (by simp)
      · exact un5.free b o (k1 b o (nb b o e hb)) n (by simp)
    · by_cases hb : b ∈ frs X.stack
      · obtain ⟨sl, e3⟩ := frS b o e hb
        obtain ⟨o', e4⟩ := un5.there b _ e3 (by simp)
        exact ⟨o', gK b _ e4 (nBa b o e).1 (nBa b o e).2⟩
      · obtain ⟨o', e4⟩ := un5.there b o (k1 b o (nb b o e hb)) (by simp)
        exact ⟨o', gK b _ e4 (nBa b o e).1 (nBa b o e).2⟩
  have hG : ∀ b o, (PySem.W.hideAll G (frs X.stack)).get? b = some o → s5.heap.get? b = some o ∧ b ≠ a ∧ b ≠ T := fun b o e => gS b o (PySem.W.of_hideAll _ e)
  have hide_none : ∀ b, (∀ o, G.get? b ≠ some o) → (PySem.W.hideAll G (frs X.stack)).get? b = none := fun b h => by
    cases q : (PySem.W.hideAll G (frs X.stack)).get? b with
    | none => rfl
    | some o => exact absurd (PySem.W.of_hideAll _ q) (h o)
  have Ba : (PySem.W.hideAll G (frs X.stack)).get? a = none := hide_none a fun o e => (gS a o e).2.1 rfl
  have BT : (PySem.W.hideAll G (frs X.stack)).get? T = none := hide_none T fun o e => (gS T o e).2.2 rfl
  have fr5 : s5.heap.FunFrames (PySem.W.hideAll G (frs X.stack)) (X.env :: X.outer) := by
    have st5 : s5.heap.FunFrames X.base X.stack := Heap.FunFrames.of_keeps (fun b o e _ => ⟨o, (gS b o e).1, rfl⟩) J5.stack
    rw [← hs]
    exact funFrames_none st5 fun b hb => PySem.W.hideAll_none _ hb
  have fl5 : HandSPX.FlyingZ (PySem.W.hideAll G (frs X.stack)) (X.env :: X.outer) a (Zc (.ref c) d) s5.heap :=
    ⟨fun b o e => (hG b o e).1, Ba, fr5, oe, vs, T, oT, ts, he5, hz, hd, h1, BT, hTa, hT5, hdT, ht3⟩
  unfold PySem.passOn
  refine wpAny_bind (wpAny_field he5 hd h1 ?_)
  rw [if_neg (show ¬ ((Value.ref T == Value.none) = true) from by simp)]
  have fin : wpAny (model X.prog X.w) X.A (setFlight (.ref a) X.env.frame) (fun _ s4 => wpAny (model X.prog X.w) X.A (throw (.ref a) : Sem Flow) (SP X pins D) X.xe s4) X.xe s5 := by
    rw [hf]
    refine HandSPX.setFlight_upZ fl5 fun h4 hh4 up4 => wpAny_throw (tk _ _ ?_)
    refine ⟨a, _, { sI with heap := G, gens := s5.gens, drawn := s5.drawn, toks := s5.toks }, pins, σ', H5, .ref c, d, rfl, J5, fun b o e hb => PySem.W.hideAll_get _ e hb, fun b o e hn => ?_, .inr (.inr (by rw [hs]; rw [hs] at hh4; exact hh4)), na5, ?_, ag5, w5⟩
    · exact up4 b o (gS b o e).1 hn
    · show s5.os = sI.os
      rw [← os]; exact os5
  first
    | exact wpAny_bind (wpAny_pure (wpAny_bind fin))
    | exact wpAny_bind fin
/-- what the with's own hand does with an error of the body -/
def xeW (X : Cx) (fx a : Addr) (p : Pos) (pins : List (Addr × Obj)) (D : Ends) : Value → Shared → Prop := fun u s' => wpAny (model X.prog X.w) X.A (noteFrame u X.env) (fun _ s₂ => wpAny (model X.prog X.w) X.A (setFlight u none) (fun _ s₃ => wpAny (model X.prog X.w) X.A (askExit p X.env (.ref fx) [.ref a] u) (SP X pins D) X.xe s₃) X.xe s₂) X.xe s'
theorem passes_xeW {fx a : Addr} {p : Pos} {pins : List (Addr × Obj)} {D : Ends} : PassesOwn (model X.prog X.w) X.A X.env (xeW X fx a p pins D) := PassesOwn.looking
theorem xeW_err {fx a : Addr} {p : Pos} {pins : List (Addr × Obj)} {D : Ends} {u : Value} {s : Shared} (h : xeW X fx a p pins D u s) : wpAny (model X.prog X.w) X.A (withErr p X.env (.ref fx) [.ref a] u) (SP X pins D) X.xe s := by
  unfold withErr
  exact wpAny_bind (wpAny_mono h (fun _ s5 h5 => wpAny_bind (wpAny_mono h5 (fun _ s6 h6 => h6) fun _ _ z => z)) fun _ _ z => z)
theorem ps_with (hs : X.stack = X.env :: X.outer) (hf : X.env.frame = some X.env.locals) (hN : X.N.Nodup) (hi : X.N[i]? = some y) (hln : X.env.kindOf y = some .local)
    (he : PySem.W.findIn X.K (.ref C) "__enter__" = some (some (.ref fe))) (hfe : PySem.W.isFn X.K (.ref fe) = true)
    (hx : PySem.W.findIn X.K (.ref C) "__exit__" = some (some (.ref fx))) (hfx : PySem.W.isFn X.K (.ref fx) = true)
    (FE : FnOk X.prog X.w X.K X.mg X.base L2.CX0 k fe fde pse spe) (hrE : Room k X.A) (be : Binds X.K fde pse [])
    (FX : FnT X.prog X.w X.K X.mg X.base k fx fdx psx spx) (bx : Binds X.K fdx psx []) (hr : ∀ e, RoomH k (X.A.mark e)) (hr0 : RoomH k X.A)
    (tk : Takes X Wout) (hc : PE X ctx tc)
    (hb : ∀ (W : WX) (pn : List (Addr × Obj)) (xe : Value → Shared → Prop), Takes (X.tr pn xe) W → PassesOwn (model X.prog X.w) X.A X.env xe → PSs (X.tr pn xe) body (tb W)) :
    PS X (.With [⟨ctx, some (.Name y py)⟩] body pos) (sWith C spe spx i Wout tc tb) := by
  refine ⟨fun pins s σ H D I h => ?_⟩
  have ok := I.ok
  refine PySem.W.kw_execN ?_
  refine wpAny_mono (hc.run pins s σ H _ I h) (fun v s1 hv => ?_) (fun _ _ z => z)
  obtain ⟨x, H1, I1, rx, a, dx, fs, ex, ea, q⟩ := hv
  unfold PySem.W.KwIn
  subst ex
  obtain rfl : v = Value.ref a := rx
  obtain ⟨mA, OM, _, _, _, _⟩ := ins_get I1.hok ea
  obtain ⟨od, IA, _⟩ := OM.look
  refine with_any (b := assign (.Name y py) X.env) I1.kIn IA he hfe hx hfx ?_
  refine wpAny_mono (run_fn (vs := [.ref a]) (dvs := []) FE hrE be .nil pass0 I1 (.cons rfl .nil) q) (fun v2 s2 ⟨x2, H2, I2, r2, q2⟩ => ?_) (fun _ _ z => z)
  refine wpAny_assign_Name (store_ok I2 hN hi (.inl hln) r2 (fun s3 I3 => ?_) (.inr hln))
  refine wpAny_mono ((hb (wWith spx (.ref a) Wout) (X.pn ++ pins) (xeW X fx a ctx.pos pins D)
    (fun u s' xx => exit_err hs hf FX bx hr tk ok xx) passes_xeW).run [] s3 _ H2 (endsW spx (.ref a) D) (I3.toTry _) q2) (fun f s4 hsp => ?_) (fun e s4 he4 => ?_)
  · have fin : ∀ {σ4 : St} {H4 : Hp} {Q : Hp → Prop} {R : Shared → Prop}, Inv (X.tr (X.pn ++ pins) (xeW X fx a ctx.pos pins D)) [] σ4 H4 s4 → spx [.ref a, .non, .non, .non] H4 (fun _ H' => Q H') (fun _ _ _ => False) → (∀ s5 H5, Inv X pins σ4 H5 s5 → Q H5 → R s5) →
        wpAny (model X.prog X.w) X.A (call (.ref fx) [.ref a, .none, .none, .none]) (fun _ s5 => R s5) X.xe s4 := fun {σ4 H4 Q R} J4 q4 hR =>
      wpAny_mono (run_fnT FX hr0 bx (J4.ofTry ok) (vs := [.ref a, .non, .non, .non]) (.cons rfl (.cons rfl (.cons rfl (.cons rfl .nil)))) q4) (fun u5 s5 ⟨_, H5, I5, _, q5⟩ => hR s5 H5 I5 q5) (fun _ _ z => z)
    cases f with
    | next =>
      obtain ⟨σ4, H4, J4, q4⟩ := hsp
      exact fin J4 q4 fun s5 H5 I5 q5 => ⟨σ4, H5, I5, q5⟩
    | brk =>
      obtain ⟨σ4, H4, J4, q4⟩ := hsp
      exact fin J4 q4 fun s5 H5 I5 q5 => ⟨σ4, H5, I5, q5⟩
    | cont =>
      obtain ⟨σ4, H4, J4, q4⟩ := hsp
      exact fin J4 q4 fun s5 H5 I5 q5 => ⟨σ4, H5, I5, q5⟩
    | ret u =>
      obtain ⟨v4, σ4, H4, J4, r4, q4⟩ := hsp
      exact fin J4 q4 fun s5 H5 I5 q5 => ⟨v4, σ4, H5, I5, r4, q5⟩
  · exact xeW_err he4
end
end Wx
-- RLam
set_option Elab.async false
set_option linter.all false
set_option maxRecDepth 100000
set_option maxHeartbeats 400000
namespace Lx
open PySem PySem.Spec PyProof.Rows L2 LamX
abbrev St := L2.St
/-! ### code objects made at run time, with their own tables -/
/-- the code object at c, of the name q, its own table at P -/
def CodeP (c : Addr) (q : Str) (P : Addr) : HO := .ext fun h => PySem.W.CodeHd h c P ∧ h.CodeRec (.ref c) q
/-- the table at P: each code object that it tells bears the name q, and has its own table within D -/
def TabP (H : Hp) (P : Addr) (q : Str) (D : Addr → Prop) : Prop := ∃ ps : Array Value, H P = some (.tbl ps) ∧ TriplesOk ps.toList ∧ ∀ (pos : Pos) (cv : Value), codeAmong pos ps.toList = some cv → ∃ c P', cv = .ref c ∧ H c = some (CodeP c q P') ∧ D P'
theorem codeP_ne {c P : Addr} {q : Str} (ps : Array Value) : CodeP c q P ≠ .tbl ps := fun z => by
  unfold CodeP at z
  cases z
theorem TabP.ext {H H' : Hp} {P : Addr} {q : Str} {D D' : Addr → Prop} (t : TabP H P q D) (e : ExtN H H') (eP : H' P = H P) (d : ∀ a, D a → D' a) : TabP H' P q D' := by
  obtain ⟨ps, h1, h2, h3⟩ := t
  refine ⟨ps, eP.trans h1, h2, fun pos cv hc => ?_⟩
  obtain ⟨c, P', e1, e2, e3⟩ := h3 pos cv hc
  exact ⟨c, P', e1, e _ _ e2 codeP_ne, d _ e3⟩
theorem TabP.ext' {H H' : Hp} {P : Addr} {q : Str} {D : Addr → Prop} (t : TabP H P q D) (e : ∀ b o, H b = some o → H' b = some o) : TabP H' P q D := by
  obtain ⟨ps, h1, h2, h3⟩ := t
  refine ⟨ps, e _ _ h1, h2, fun pos cv hc => ?_⟩
  obtain ⟨c, P', e1, e2, e3⟩ := h3 pos cv hc
  exact ⟨c, P', e1, e _ _ e2, e3⟩
/-- an empty table -/
theorem TabP.nil {H : Hp} {P : Addr} {q : Str} {D : Addr → Prop} (h : H P = some (.tbl #[])) : TabP H P q D := ⟨#[], h, True.intro, fun pos cv hc => by
  have z : codeAmong pos [] = some cv := hc
  simp [codeAmong] at z⟩
section
variable {M : Model} {A : Around} {E : Value → Shared → Prop} {s : Shared} {name qual : Str} {params : Arguments} {body : Expr} {scope : Scope} {env : Env} {c P : Addr} {ps : Array Value} {pos : Pos} {firstLine : Nat} {mg : Str → Option Value}
  {clos : List (Str × Addr)} {Q : Value → Shared → Prop}
/-- a lambda whose code object is made now: its own table is known -/
theorem make_new (hcl : closureFor scope env = pure clos) (hge0 : env.globals = mainGlobals) (hg : s.heap.Ns mainGlobals mg) (hcode : env.code = .ref c) (C : PySem.W.CodeHd s.heap c P) (hP : s.heap.get? P = some (PySem.W.tabObj ps)) (ht : TriplesOk ps.toList)
    (hnf : codeAmong pos ps.toList = none) (hgP : mainGlobals ≠ P) (hb : s.heap.BuiltinsAt mg P)
    (h : ∀ c' P' ctv h' tk, Heap.ExtBut P s.heap h' → s.heap.objs.size ≤ c' → c' < h'.objs.size → s.heap.objs.size ≤ P' → h'.IsCode c' P' #[] → h'.TableAt c' P' #[] → h'.CodeRec (.ref c') qual → h'.get? P = some (PySem.W.tabObj (ps ++ #[rawInt pos.line, rawInt pos.col, .ref c'])) →
      Q (.ref h'.objs.size) { s with heap := h'.push (PySem.W.kla_obj name qual params body scope clos ((mg "__name__").getD .none) c' ctv), toks := tk }) :
    wpAny M A (makeFunction name qual params (.expr body) scope env [] [] [] pos firstLine) Q E s := by
  rw [makeFunction_eq]
  simp only [List.zip_nil_right, List.filterMap_nil, List.isEmpty_nil, if_true, pure_bind]
  obtain ⟨bm, ob, hbm, hne0, _, hneP, hbo, hcls, hdict, hdata⟩ := hb
  unfold makeTail
  rw [hcl, hge0]
  refine wpAny_bind (wpAny_pure ?_)
  cases clos with
  | nil =>
    simp only [List.isEmpty_nil, if_true]
    refine wpAny_bind (wpAny_pure ?_)
    refine wpAny_bind (wpAny_functionCodeX hcode (C.code hP ht) (C.tab hP) hnf fun c' h' tk hx hge hlt _ hrec htb ⟨P', p1, p2, p3⟩ => ?_)
    have hg' := hg.extBut hx hgP
    refine wpAny_bind (wpAny_builtinsFor hg' hbm hne0 (hx _ _ hneP hbo) hcls hdict hdata ?_)
    refine wpAny_bind (wpAny_nsGet hg' ?_)
    exact wpAny_bind (wpAny_pure (wpAny_newObj_type (h c' P' .none h' tk hx hge hlt p1 p2 p3 hrec htb.2) (by size_fits)))
  | cons q r =>
    simp only [List.isEmpty_cons, Bool.false_eq_true, if_false]
    refine wpAny_bind (wpAny_newTextTuple ?_)
    refine wpAny_bind (wpAny_functionCodeX hcode ((C.keeps fun b o e => Heap.get?_push_of_some _ e).code (Heap.get?_push_of_some _ hP) ht) ((C.keeps fun b o e => Heap.get?_push_of_some _ e).tab (Heap.get?_push_of_some _ hP)) hnf fun c' h' tk hx hge hlt _ hrec htb ⟨P', p1, p2, p3⟩ => ?_)
    have hg' := (hg.push _).extBut hx hgP
    have hx' : Heap.ExtBut P s.heap h' := fun b o hb' e => hx b o hb' (Heap.get?_push_of_some _ e)
    have hge' : s.heap.objs.size ≤ c' := Nat.le_trans (by rw [Heap.size_push]; omega) hge
    have hp' : s.heap.objs.size ≤ P' := Nat.le_trans (by rw [Heap.size_push]; omega) p1
    refine wpAny_bind (wpAny_builtinsFor hg' hbm hne0 (hx' _ _ hneP hbo) hcls hdict hdata ?_)
    refine wpAny_bind (wpAny_nsGet hg' ?_)
    exact wpAny_bind (wpAny_pure (wpAny_newObj_type (h c' P' _ h' tk hx' hge' hlt hp' p2 p3 hrec htb.2) (by size_fits)))
end
section
variable {X : Cx} {pins : List (Addr × Obj)} {σ : L2.St} {H : Hp} {s : Shared}
/-- what is known behind the making of a code object c with the table P', told in the table P -/
abbrev madeH (H : Hp) (P : Addr) (qs : Array Value) (c P' : Addr) (q : Str) : Hp := upd (upd (upd H P (.tbl qs)) P' (.tbl #[])) c (CodeP c q P')
theorem inv_tableP {P c P' : Addr} {q : Str} {ps more : Array Value} {h' : Heap} {t' : Nat} (I : Inv X pins σ H s) (hP : H P = some (.tbl ps)) (k : ∀ b o, b ≠ P → s.heap.get? b = some o → h'.get? b = some o)
    (hm : h'.get? P = some { cls := .none, data := .fields (ps ++ more) }) (hc : s.heap.objs.size ≤ c) (hp : s.heap.objs.size ≤ P') (ne : c ≠ P') (C : PySem.W.CodeHd h' c P') (hr : h'.CodeRec (.ref c) q) (hP' : h'.get? P' = some { cls := .none, data := .fields #[] }) :
    Inv X pins σ (madeH H P (ps ++ more) c P' q) { s with heap := h', toks := t' } := by
  have nC : H c = none := I.hok.fresh hc
  have nP' : H P' = none := I.hok.fresh hp
  have nPc : P ≠ c := ne_of_none hP nC
  have nPP : P ≠ P' := ne_of_none hP nP'
  have at_ : ∀ b, b ≠ P → b ≠ c → b ≠ P' → madeH H P (ps ++ more) c P' q b = H b := fun b h1 h2 h3 => by
    show upd (upd (upd H P _) P' _) c _ b = H b
    rw [upd_ne h2, upd_ne h3, upd_ne h1]
  have atP : madeH H P (ps ++ more) c P' q P = some (.tbl (ps ++ more)) := by
    show upd (upd (upd H P _) P' _) c _ P = _
    rw [upd_ne nPc, upd_ne nPP, upd_same]
  have nP : ∀ b u, H b = some u → (∀ q, u ≠ .tbl q) → b ≠ P := fun b u e q z => by
    rw [z, hP] at e
    exact q ps (Option.some.inj e).symm
  have nN : ∀ b, H b = none → b ≠ P := fun b e z => by
    rw [z, hP] at e
    cases e
  have lt' : ∀ b o y, s.heap.objs.size ≤ y → s.heap.get? b = some o → b ≠ y := fun b o y hy e z => by
    rw [z] at e
    exact Nat.lt_irrefl _ (Nat.lt_of_lt_of_le (Heap.lt_size e) hy)
  have sm : ∀ b u y, H y = none → H b = some u → b ≠ y := fun b u y hy e => ne_of_none e hy
  have go : ∀ b u, H b = some u → (∀ q, u ≠ .tbl q) → madeH H P (ps ++ more) c P' q b = some u := fun b u e n => (at_ b (nP b u e n) (sm b u c nC e) (sm b u P' nP' e)).trans e
  have code : PySem.W.CodeHd h' c P' ∧ h'.CodeRec (.ref c) q := ⟨C, hr⟩
  have ob : ∃ o, h'.get? c = some o := by
    obtain ⟨c2, o, vs, t, e, g, _⟩ := hr
    cases e
    exact ⟨o, g⟩
  refine I.step (g' := s.gens) (d' := s.drawn) (ch := []) (fun b hb => absurd hb (by simp)) (fun b o _ _ _ e n => k b o (nN b n) e) (fun b o _ _ _ e n => ⟨o.slots, k b o (nN b n) e⟩)
    (fun b o _ e n => by rw [at_ b (nN b n) (lt' b o c hc e) (lt' b o P' hp e)]; exact n) (fun b o _ e => ?_) (fun b xs e => go b _ e (fun q z => by cases z)) (fun b o u e => go b _ e (fun q z => by cases z)) (fun b qs e => ?_) (fun m hn => ?_) (fun b u e => ?_) I.bare
  · by_cases hb : b = P
    · rw [hb]
      exact ⟨_, hm⟩
    · exact ⟨o, k b o hb e⟩
  · by_cases hb : b = P
    · rw [hb, hP] at e
      cases e
      rw [hb, atP]
      exact ⟨more, rfl⟩
    · rw [at_ b hb (sm b _ c nC e) (sm b _ P' nP' e), e]
      exact ⟨#[], by simp⟩
  · obtain ⟨ob, es, ep, ho, r⟩ := hn
    exact ⟨ob, es, ep, k _ ob (nN _ I.free) ho, r⟩
  · by_cases hb : b = c
    · have e : madeH H P (ps ++ more) c P' q b = some u := e
      rw [hb] at e
      have e2 : some (CodeP c q P') = some u := by rw [← e]; exact upd_same.symm
      cases e2
      rw [hb]
      exact ⟨code, ob, fun h1 h2 ⟨c1, c2⟩ st => by
        obtain ⟨o, vs, file, tf, flags, tg, inF, text, tt, e, r⟩ := c1
        obtain ⟨c3, o3, vs3, t3, e3, g3, r3⟩ := c2
        cases e3
        exact ⟨⟨o, vs, file, tf, flags, tg, inF, text, tt, st _ e, r⟩, ⟨c, o3, vs3, t3, rfl, st _ g3, r3⟩⟩⟩
    · by_cases hb2 : b = P'
      · have e : madeH H P (ps ++ more) c P' q b = some u := e
        have e2 : some (HO.tbl #[]) = some u := by
          rw [← e, hb2]
          show _ = upd (upd (upd H P _) P' _) c _ P'
          rw [upd_ne (Ne.symm ne), upd_same]
        cases e2
        rw [hb2]
        exact hP'
      · by_cases hb3 : b = P
        · rw [hb3, atP] at e
          cases e
          rw [hb3]
          exact hm
        · rw [at_ b hb3 hb hb2] at e
          refine (I.hok b u e).stay (fun d v hd q => k d v ?_ q) (fun d q => go d _ q (fun q z => by cases z)) fun d xs q => go d _ q (fun q z => by cases z)
          rcases hd with z | z
          · rw [z]
            exact hb3
          · exact nP d _ z (fun q z => by cases z)
/-- what is known of the code object of the lambda just made -/
structure Made (H H1 : Hp) (P : Addr) (c' : Addr) (q : Str) (P' : Addr) : Prop where
  ext : ExtN H H1
  code : H1 c' = some (CodeP c' q P')
  /-- another table is as it was; the new one is empty, or there was one -/
  hit : H1 = H ∨ (H P' = none ∧ H1 P' = some (.tbl #[]) ∧ ∀ b, b ≠ P → b ≠ P' → (∃ ps, H b = some (.tbl ps)) → H1 b = H b)
/-- the lambda is made: its code object is new, or found in the table -/
theorem lam_make {D : Addr → Prop} {c P : Addr} {q : Str} {params : Arguments} {body : Expr} {scope : Scope} {pos : Pos} {E : Value → Shared → Prop} {Q : Value → Shared → Prop} (I : Inv X pins σ H s) (C : PySem.W.CodeHd s.heap c P) (bm : s.heap.BuiltinsAt X.mg P) (gP : mainGlobals ≠ P) (hcode : X.env.code = .ref c)
    (hT : TabP H P q D) (hq : X.env.qual ++ "<lambda>" = q) (hdef : defaultsOf params X.env = ([], [])) (hfree : ∀ y ∈ scope.names, y.2 = .free → ∃ c, X.env.cells.lookup y.1 = some c)
    (h : ∀ (f c' P' : Addr) (pm ctv : Value) (H1 : Hp) (s' : Shared), Inv X pins σ H1 s' → Made H H1 P c' q P' → (H1 = H → D P') → (∀ D' : Addr → Prop, (∀ a, D a → D' a) → D' P' → TabP H1 P q D') →
      s'.heap.get? f = some (PySem.W.kla_obj "<lambda>" q params body scope (cloFrom X.env.cells scope.names []) pm c' ctv) → H1 f = none → f ∉ frs X.stack → Q (.ref f) s') :
    wpAny (model X.prog X.w) X.A (eval (.Lambda params body scope pos) X.env) Q E s := by
  subst hq
  obtain ⟨ps, hP, ht, ha⟩ := id hT
  refine PySem.W.kla_eval hdef ?_
  have hP' : s.heap.get? P = some { cls := .none, data := .fields ps } := I.hok P _ hP
  have nofr : ∀ f, s.heap.objs.size ≤ f → f ∉ frs X.stack := fun f hf z => by
    rcases List.mem_cons.mp (I.stkSub _ z) with e | e
    · have h1 := I.lt
      rw [← e] at h1
      exact Nat.lt_irrefl _ (Nat.lt_of_lt_of_le h1 hf)
    · exact I.nofs hf e
  cases hc : codeAmong pos ps.toList with
  | none =>
    refine make_new (mg := X.mg) (c := c) (P := P) (ps := ps) (closure_ok hfree) I.ok.glob (I.mod.glob.keeps I.bk) hcode C hP' ht hc gP bm fun c' Pn ctv h' tk hx hge hlt hgp hic hta hrec htb => ?_
    have hsz : s.heap.objs.size ≤ h'.objs.size := Nat.le_trans hge (Nat.le_of_lt hlt)
    have nC : H c' = none := I.hok.fresh hge
    have nPn : H Pn = none := I.hok.fresh hgp
    have hcn : c' ≠ Pn := by
      obtain ⟨_, _, _, _, _, _, _, _, _, _, _, _, _, _, _, _, _, _, _, _, n⟩ := hic
      exact n
    have push : ∀ {o : Obj} {b : Addr} {ob : Obj}, h'.get? b = some ob → (h'.push o).get? b = some ob := fun e => Heap.get?_push_of_some _ e
    have CH : PySem.W.CodeHd h' c' Pn := .of hic hta
    have I1 := inv_tableP (t' := tk) (more := #[rawInt pos.line, rawInt pos.col, .ref c']) (h' := h'.push (PySem.W.kla_obj "<lambda>" (X.env.qual ++ "<lambda>") params body scope (cloFrom X.env.cells scope.names []) ((X.mg "__name__").getD .none) c' ctv)) I hP
      (fun b o hb e => push (hx b o hb e)) (push htb) hge hgp hcn (CH.keeps fun b o e => push e) (hrec.keeps fun b o e => push e) (push hta.2)
    have nP : ∀ b u, H b = some u → (∀ q, u ≠ .tbl q) → b ≠ P := fun b u e q z => by
      rw [z, hP] at e
      exact q ps (Option.some.inj e).symm
    have hE : ExtN H (madeH H P (ps ++ #[rawInt pos.line, rawInt pos.col, .ref c']) c' Pn (X.env.qual ++ "<lambda>")) := fun b o e n => by
      show upd (upd (upd H P _) Pn _) c' _ b = _
      rw [upd_ne (ne_of_none e nC), upd_ne (ne_of_none e nPn), upd_ne (nP b o e n)]
      exact e
    have hco : madeH H P (ps ++ #[rawInt pos.line, rawInt pos.col, .ref c']) c' Pn (X.env.qual ++ "<lambda>") c' = some (CodeP c' (X.env.qual ++ "<lambda>") Pn) := upd_same
    have hPP : madeH H P (ps ++ #[rawInt pos.line, rawInt pos.col, .ref c']) c' Pn (X.env.qual ++ "<lambda>") P = some (.tbl (ps ++ #[rawInt pos.line, rawInt pos.col, .ref c'])) := by
      show upd (upd (upd H P _) Pn _) c' _ P = _
      rw [upd_ne (ne_of_none hP nC), upd_ne (ne_of_none hP nPn), upd_same]
    have eL : (ps ++ #[rawInt pos.line, rawInt pos.col, .ref c']).toList = ps.toList ++ [rawInt pos.line, rawInt pos.col, .ref c'] := by simp
    refine h h'.objs.size c' Pn ((X.mg "__name__").getD .none) ctv _ _ I1 ⟨hE, hco, .inr ⟨nPn, ?_, fun b n1 n2 ⟨qs, e⟩ => ?_⟩⟩ (fun z => ?_) (fun D' hD hn => ⟨_, hPP, by rw [eL]; exact PySem.TriplesOk_snoc _ _ _ _ ht, fun p' cv hcv => ?_⟩) (Heap.get?_push_size _ rfl) ?_ (nofr _ hsz)
    · show upd (upd (upd H P _) Pn _) c' _ Pn = _
      rw [upd_ne (Ne.symm hcn), upd_same]
    · show upd (upd (upd H P _) Pn _) c' _ b = _
      rw [upd_ne (ne_of_none e nC), upd_ne n2, upd_ne n1]
    · rw [z] at hco
      rw [hco] at nC
      cases nC
    · rw [eL] at hcv
      rcases among_app _ ht hcv with z | z
      · obtain ⟨c0, P0, e1, e2, e3⟩ := ha p' cv z
        exact ⟨c0, P0, e1, hE _ _ e2 codeP_ne, hD _ e3⟩
      · exact ⟨c', Pn, z, hco, hn⟩
    · have n1 : h'.objs.size ≠ c' := Nat.ne_of_gt hlt
      have n2 : h'.objs.size ≠ P := Nat.ne_of_gt (Nat.lt_of_lt_of_le (Heap.lt_size hP') hsz)
      have n3 : h'.objs.size ≠ Pn := Nat.ne_of_gt (Heap.lt_size hta.2)
      show upd (upd (upd H P _) Pn _) c' _ _ = _
      rw [upd_ne n1, upd_ne n3, upd_ne n2]
      exact I.hok.fresh hsz
  | some cv =>
    obtain ⟨c', Pn, e, hco, hD⟩ := ha pos cv hc
    subst e
    refine PySem.W.kla_makeFunctionHit (mg := X.mg) (c := c) (P := P) (ps := ps) (closure_ok hfree) I.ok.glob (I.mod.glob.keeps I.bk) hcode C hP' ht hc bm fun ctv h' tk hx hsz => ?_
    have I1 : Inv X pins σ H { s with heap := h'.push (PySem.W.kla_obj "<lambda>" (X.env.qual ++ "<lambda>") params body scope (cloFrom X.env.cells scope.names []) ((X.mg "__name__").getD .none) c' ctv), toks := tk } := I.kept fun b o e => Heap.get?_push_of_some _ (hx b o e)
    exact h h'.objs.size c' Pn ((X.mg "__name__").getD .none) ctv H _ I1 ⟨ExtN.refl H, hco, .inl rfl⟩ (fun _ => hD) (fun D' hD' hn => ⟨ps, hP, ht, fun pos cv hcv => by
      obtain ⟨c0, P0, e1, e2, e3⟩ := ha pos cv hcv
      exact ⟨c0, P0, e1, e2, hD' _ e3⟩⟩) (Heap.get?_push_size _ rfl) (I.hok.fresh hsz) (nofr _ hsz)
end
/-! ### a lambda's names -/
/-- parameters ps, captured names, globals; N: the maker's names -/
structure LamP (sc scope : Scope) (N ps : List Str) : Prop where
  kind : scope.kind = .function
  co : scope.isCoroutine = false
  gen : scope.isGenerator = false
  nocell : ∀ y ∈ scope.names, y.2 ≠ .cell
  own : ∀ y ∈ scope.names, y.2 = .local → y.1 ∈ ps
  par : ∀ y ∈ ps, scope.names.lookup y = some .local
  nd : ps.Nodup
  dis : ∀ y ∈ ps, y ∉ N
  free : ∀ y ∈ scope.names, y.2 = .free → sc.names.lookup y.1 = some .cell ∨ sc.names.lookup y.1 = some .free
def lamPB (sc scope : Scope) (N ps : List Str) : Bool :=
  decide (scope.kind = .function) && !scope.isCoroutine && !scope.isGenerator && (scope.names.all fun y => !decide (y.2 = .cell) && (!decide (y.2 = .local) || decide (y.1 ∈ ps)) && (!decide (y.2 = .free) || decide (sc.names.lookup y.1 = some .cell) || decide (sc.names.lookup y.1 = some .free)))
    && (ps.all fun y => decide (scope.names.lookup y = some .local) && !decide (y ∈ N)) && decide ps.Nodup
theorem lamP_by {sc scope : Scope} {N ps : List Str} (h : lamPB sc scope N ps = true) : LamP sc scope N ps := by
  unfold lamPB at h
  simp only [Bool.and_eq_true, Bool.or_eq_true, Bool.not_eq_true', decide_eq_true_eq, decide_eq_false_iff_not, List.all_eq_true] at h
  obtain ⟨⟨⟨⟨⟨h1, h2⟩, h3⟩, h4⟩, h5⟩, h6⟩ := h
  refine ⟨h1, h2, h3, fun y hy => (h4 y hy).1.1, fun y hy e => ?_, fun y hy => (h5 y hy).1, h6, fun y hy => (h5 y hy).2, fun y hy e => ?_⟩
  · rcases (h4 y hy).1.2 with z | z
    · exact absurd e z
    · exact z
  · rcases (h4 y hy).2 with (z | z) | z
    · exact absurd e z
    · exact .inl z
    · exact .inr z
theorem LamP.has {X : Cx} {scope : Scope} {ps : List Str} (L : LamP X.env.scope scope X.N ps) (ok : X.Ok) : ∀ y ∈ scope.names, y.2 = .free → ∃ c, X.env.cells.lookup y.1 = some c := fun y hy e => by
  rcases L.free y hy e with k | k
  · exact ok.has _ (.inl k)
  · exact ok.has _ (.inr k)
/-- the context of the lambda's body, entered at s from the frames outer -/
def lamCx (X : Cx) (A : Around) (outer : List Env) (s : Shared) (H : Hp) (E : XK) (scope : Scope) (ps : List Str) (f c' : Addr) : Cx where
  prog := X.prog
  w := X.w
  K := X.K
  mg := X.mg
  base := X.base
  A := A.deeper (lamEnv X scope s.heap.objs.size f c')
  N := X.N ++ ps
  s_0 := s
  H_0 := H
  env := lamEnv X scope s.heap.objs.size f c'
  outer := outer
  stack := lamEnv X scope s.heap.objs.size f c' :: outer
  ex := []
  fn := fun _ => false
  calm := true
  pn := []
  xe := fun e s' => wpAny (model X.prog X.w) (A.deeper (lamEnv X scope s.heap.objs.size f c')) (leaving (lamEnv X scope s.heap.objs.size f c') e) (fun _ s'' => L2.CX X.prog X.w outer H s E e s'') (fun e' s'' => L2.CX X.prog X.w outer H s E e' s'') s'
theorem lookup_of_mem {y : Str} {u : Value} : ∀ {l : List (Str × Value)}, (y, u) ∈ l → (∀ v, (y, v) ∈ l → v = u) → l.lookup y = some u
  | [], h, _ => nomatch h
  | p :: r, h, hu => by
    rw [List.lookup_cons]
    by_cases e : y = p.1
    · have : p = (y, p.2) := by rw [e]
      rw [beq_iff_eq.mpr e]
      have hp := hu p.2 (by rw [← this]; exact List.mem_cons_self)
      simp [hp]
    · rw [beq_eq_false_iff_ne.mpr e]
      rcases List.mem_cons.mp h with z | z
      · exact absurd (by rw [← z]) e
      · exact lookup_of_mem z fun v hv => hu v (List.mem_cons_of_mem _ hv)
theorem zip_lookup {ps : List Str} {us : List Value} {j : Nat} {y : Str} {u : Value} (nd : ps.Nodup) (h1 : ps[j]? = some y) (h2 : us[j]? = some u) : (ps.zip us).reverse.lookup y = some u := by
  refine lookup_of_mem ?_ fun v hv => ?_
  · rw [List.mem_reverse]
    exact List.mem_of_getElem? (i := j) (by rw [List.getElem?_zip_eq_some]; exact ⟨h1, h2⟩)
  · rw [List.mem_reverse] at hv
    obtain ⟨i, hi⟩ := List.mem_iff_getElem?.mp hv
    rw [List.getElem?_zip_eq_some] at hi
    have e := nodup_ix nd hi.1 h1
    have e2 := hi.2
    rw [e, h2] at e2
    exact (Option.some.inj e2).symm
section
variable {X : Cx} {pins : List (Addr × Obj)} {σ : L2.St} {H HZ : Hp} {s s1 : Shared}
theorem lam_start {A : Around} {outer : List Env} {E : XK} {scope : Scope} {ps : List Str} {f c' : Addr} {h₁ : Heap} {tk : Nat} {us : List Value} {vs : List V} (I : Inv X pins σ H s) (L : LamP X.env.scope scope X.N ps) (e0 : Env0 X.prog X.w X.K X.mg X.base A outer s1 HZ) (hd : A.handled = none)
    (hl : vs.length = ps.length) (rv : Vals vs us)
    (un : Un (frs X.stack) [] H HZ s.heap s1.heap) (hns : h₁.Ns s1.heap.objs.size fun y => (ps.zip us).reverse.lookup y) (kp : ∀ b o, s1.heap.get? b = some o → h₁.get? b = some o) :
    Inv (lamCx X A outer s1 HZ E scope ps f c') [] (σ ++ vs.map some) HZ { s1 with heap := h₁, toks := tk } := by
  have hfree := L.has I.ok
  have cm : ∀ {y c}, (cloFrom X.env.cells scope.names []).lookup y = some c → X.env.cells.lookup y = some c := fun {y c} e => by
    rcases cloFrom_mem (PySem.mem_of_lookup e) with hm | ⟨h1, h2⟩
    · cases hm
    · obtain ⟨c1, hc⟩ := hfree _ h1 rfl
      have hc : X.env.cells.lookup y = some c1 := hc
      have e2 : c = c1 := by
        rw [h2, hc] <;> rfl
      rw [e2]
      exact hc
  have look : ∀ {y}, scope.names.lookup y = some .free → ∃ c, (cloFrom X.env.cells scope.names []).lookup y = some c := fun {y} hl => by
    have hy : (y, NameKind.free) ∈ scope.names := PySem.mem_of_lookup hl
    exact mem_lookup (cloFrom_has (cells := X.env.cells) (acc := []) hy)
  have cellK : ∀ {c : Addr} {v : Option Value}, H c = none → s.heap.IsCell c v → h₁.IsCell c v := fun {c v} n ⟨o, ho, hd⟩ => by
    obtain ⟨sl, q⟩ := un.any ho n (by simp)
    exact ⟨_, kp _ _ q, hd⟩
  have noA : ∀ b : Addr, b ∉ (lamCx X A outer s1 HZ E scope ps f c').ex := fun b z => absurd (show b ∈ ([] : List Addr) from z) (by simp)
  refine ⟨⟨e0.mod, L.kind, rfl, rfl, Nat.le_refl _, fun y z c e1 e2 => I.ok.inj y z c (cm e1) (cm e2), fun y hy => ?_, fun y c z _ => ?_, fun _ => hd, Around.frames_deeper e0.frames, .inr ⟨rfl, rfl⟩, fun b z => absurd z (noA b), e0.bs, e0.bsz, fun b _ _ => noA b,
      fun b z => absurd z (noA b), e0.funs, e0.frf⟩,
    rfl, e0.bare, Un.kept kp, ⟨_, hns, fun i y v e1 e2 e3 => ?_⟩, fun y c e => ?_, e0.hok.fresh (Nat.le_refl _), fun y c e => ?_, fun q hq => absurd (show q ∈ ([] : List (Addr × Obj)) ++ [] from hq) (by simp), e0.hok.kept kp, ?_⟩
  · have hy : scope.names.lookup y = some .cell ∨ scope.names.lookup y = some .free := hy
    rcases hy with hy | hy
    · exact absurd rfl (L.nocell _ (PySem.mem_of_lookup hy))
    · exact look hy
  · have z : false = true := z
    cases z
  · have e3 : Vis scope y := e3
    have e1 : (X.N ++ ps)[i]? = some y := e1
    by_cases hi : i < X.N.length
    · rw [List.getElem?_append_left hi] at e1
      rw [List.getElem?_append_left (by rw [I.len]; exact hi)] at e2
      rcases e3 with k | k | k
      · exact absurd (List.mem_of_getElem? e1) (L.dis _ (L.own _ (PySem.mem_of_lookup k) rfl))
      · exact absurd rfl (L.nocell _ (PySem.mem_of_lookup k))
      · obtain ⟨m, hn, hl⟩ := I.loc
        have hvis : Vis X.env.scope y := (L.free _ (PySem.mem_of_lookup k) rfl).elim (fun k => .inr (.inl k)) (fun k => .inr (.inr k))
        obtain ⟨w', r, q⟩ := hl i y v e1 e2 hvis
        obtain ⟨c2, h2⟩ := look k
        refine ⟨w', r, .inr ⟨.inr k, c2, h2, ?_⟩⟩
        have c1 := cm h2
        rcases q with ⟨k', _⟩ | ⟨_, c3, e', z⟩
        · have k' : X.env.scope.names.lookup y = some .local := k'
          rcases L.free _ (PySem.mem_of_lookup k) rfl with k2 | k2 <;> rw [show X.env.scope.names.lookup y = _ from k2] at k' <;> cases k'
        · rw [c1] at e'
          cases e'
          exact cellK (I.freeC y _ c1) z
    · rw [List.getElem?_append_right (by omega)] at e1
      rw [List.getElem?_append_right (by rw [I.len]; omega), I.len, List.getElem?_map] at e2
      have hv : vs[i - X.N.length]? = some v := by
        cases e : vs[i - X.N.length]? with
        | none => rw [e] at e2; cases e2
        | some a => rw [e] at e2; cases e2; rfl
      obtain ⟨u, hu, ru⟩ := rv.get hv
      exact ⟨u, ru, .inl ⟨L.par y (List.mem_of_getElem? e1), zip_lookup L.nd e1 hu⟩⟩
  · obtain ⟨w', z⟩ := I.cell y c (cm e)
    exact ⟨w', cellK (I.freeC y c (cm e)) z⟩
  · obtain ⟨v, o, ho, hd⟩ := I.cell y c (cm e)
    exact un.free c o ho (I.freeC y c (cm e)) (by simp)
  · show (σ ++ vs.map some).length = (X.N ++ ps).length
    rw [List.length_append, List.length_append, List.length_map, I.len, hl]
/-- the context of a def called from X at s -/
abbrev cxZ (X : Cx) (CXg : CXT) (Ng : List Str) (qg : Str) (sg : Scope) (g : Addr) (cdg : Value) (s : Shared) (H : Hp) (Eg : XK) : Cx := cxOf CXg X.prog X.w X.K X.mg X.base Ng qg sg g cdg X.A X.stack s H Eg
/-- the lambda runs, called in a def that X called at s -/
theorem act_run {CXg : CXT} {Eg : XK} {Ng : List Str} {qg q : Str} {sg : Scope} {g f c' : Addr} {cdg pm ctv : Value} {params : Arguments} {body : Expr} {scope : Scope} {ps : List Str} {k : Nat} {pn : List (Addr × Obj)} {xe : Value → Shared → Prop} {W : WX} {E : XK} {tb : TE}
    (I : Inv X pins σ H s) (L : LamP X.env.scope scope X.N ps) (hq : X.env.qual ++ "<lambda>" = q) (hf : s.heap.get? f = some (PySem.W.kla_obj "<lambda>" q params body scope (cloFrom X.env.cells scope.names []) pm c' ctv)) (hfn : H f = none) (hfr : f ∉ frs X.stack)
    (hbind : ∀ us : List Value, us.length = ps.length → bindArgs (PySem.W.kla_fn "<lambda>" q params body scope (cloFrom X.env.cells scope.names []) pm (.ref c') ctv) ⟨us, []⟩ = pure (ps.zip us))
    (tk : Takes ((cxZ X CXg Ng qg sg g cdg s H Eg).tr pn xe) W) (hr : Room (k + 1) (X.A.deeper (envOfC qg sg s.heap.objs.size g cdg)))
    (hbody : ∀ (A : Around) (outer : List Env) (s : Shared) (H : Hp), Room k (A.deeper (lamEnv X scope s.heap.objs.size f c')) → PE (lamCx X A outer s H E scope ps f c') body tb)
    {pinsZ : List (Addr × Obj)} {σZ : St} {H1 : Hp} {s1 : Shared} {us : List Value} {vs : List V} {Q : VK} (hW : ∀ cls d H', E cls d H' → W cls d σZ H') (I1 : Inv ((cxZ X CXg Ng qg sg g cdg s H Eg).tr pn xe) pinsZ σZ H1 s1) (r : Vals vs us) (hl : vs.length = ps.length)
    (hc : ∃ P', H1 c' = some (CodeP c' q P')) (ht : tb (σ ++ vs.map some) H1 Q) : wpAny (model X.prog X.w) (X.A.deeper (envOfC qg sg s.heap.objs.size g cdg)) (call (.ref f) us) (EP ((cxZ X CXg Ng qg sg g cdg s H Eg).tr pn xe) pinsZ σZ Q) xe s1 := by
  subst hq
  have of1 : s1.heap.get? f = some (PySem.W.kla_obj "<lambda>" (X.env.qual ++ "<lambda>") params body scope (cloFrom X.env.cells scope.names []) pm c' ctv) := I1.base.keep f _ hf hfn hfr (fun z => nomatch (show f ∈ ([] : List Addr) from z))
  have un : Un (frs X.stack) [] H H1 s.heap s1.heap := I1.base
  obtain ⟨P', hc⟩ := hc
  obtain ⟨⟨_, hcr⟩, _, _⟩ := I1.hok c' _ hc
  have hus : us.length = ps.length := by rw [← r.length]; exact hl
  have rc : codeAny (model X.prog X.w) (X.A.deeper (envOfC qg sg s.heap.objs.size g cdg)) (.call (.ref f) ⟨us, []⟩) (CR (L2.CX X.prog X.w) (envOfC qg sg s.heap.objs.size g cdg :: X.stack) X.prog X.w H1 s1 Q E) s1 := by
    refine PySem.W.kla_callFunE hr.depth of1 rfl L.co L.gen rfl hcr ?_
    rw [hbind us hus]
    refine wpAny_pure (wpAny_newFunctionEnv (fun y hy => L.nocell y hy) (fun y hy => L.par y.1 (List.of_mem_zip (show (y.1, y.2) ∈ ps.zip us from hy)).1) (fun h₁ hns hsb => ⟨I1.nolimit.fresh _ hsb, ?_⟩) L.kind)
    show codeAny _ _ (.expr body (lamEnv X scope s1.heap.objs.size f c')) _ _
    have kp : ∀ b o, s1.heap.get? b = some o → h₁.get? b = some o := fun b o e => hsb.extBut b o (Nat.ne_of_lt (Heap.lt_size e)) (Heap.get?_push_of_some _ e)
    have J : Inv (lamCx X (X.A.deeper (envOfC qg sg s.heap.objs.size g cdg)) (envOfC qg sg s.heap.objs.size g cdg :: X.stack) s1 H1 E scope ps f c') [] (σ ++ vs.map some) H1 { s1 with heap := h₁, toks := s1.toks + (ps.zip us).length } :=
      lam_start I L I1.env0 hr.hd hl r un hns kp
    refine PySem.W.kla_codeExpr (wpAny_mono ((hbody _ _ s1 H1 (hr.deeper _)).run [] _ _ H1 Q J ht) (fun v s' hq => ?_) fun e s' hq => hq)
    obtain ⟨w', H', J', rv, q⟩ := hq
    exact ⟨w', H', J'.os, J'.bare, J'.base, J'.hok, rv, q⟩
  refine wpAny_call (codeAny_mono rc fun r s' hq => ?_)
  cases r with
  | error e => exact tk e s' (XE.of_call I1 hW hq)
  | ok fl =>
    cases fl with
    | ret u => exact I1.after hq
    | next => exact False.elim hq
    | brk => exact False.elim hq
    | cont => exact False.elim hq
end
/-! ### a call with a lambda -/
/-- a reading of a lambda: what it may raise, its arguments, the heap, the wanted end -/
abbrev TL := XK → List V → Hp → VK → Prop
/-- a promise of a def whose last argument is a lambda -/
abbrev SpL := TL → List V → Hp → VK → XK → Prop
/-- a(): the lambda at f, of the code object c', is called in the def -/
def Act0 (Z : Cx) (a : Str) (i : Nat) (f c' : Addr) (q : Str) (tl : TL) : Prop := ∀ (W : WX) (pn : List (Addr × Obj)) (xe : Value → Shared → Prop) (p1 p2 : Pos), Takes (Z.tr pn xe) W →
  PE (Z.tr pn xe) (.Call (.Name a p1) [] [] p2) (fun σZ HZ Q => σZ[i]? = some (some (.ref f)) ∧ (∃ P', HZ c' = some (CodeP c' q P')) ∧ tl (WE W σZ) [] HZ Q)
/-- a(e, ..) -/
def Act1 (Z : Cx) (a : Str) (i : Nat) (f c' : Addr) (q : Str) (n : Nat) (tl : TL) : Prop := ∀ (W : WX) (pn : List (Addr × Obj)) (xe : Value → Shared → Prop) (p1 p2 : Pos) (e : Expr) (es : List Expr) (ta : TA), Takes (Z.tr pn xe) W → PA (Z.tr pn xe) (e :: es) ta →
  starEach (e :: es) Z.env = (false, eval e Z.env) :: starEach es Z.env → (backTo p2 (starEach es Z.env)).any (·.1) = false →
  PE (Z.tr pn xe) (.Call (.Name a p1) (e :: es) [] p2) (fun σZ HZ Q => σZ[i]? = some (some (.ref f)) ∧ ta σZ HZ fun us H1 => us.length = n ∧ (∃ P', H1 c' = some (CodeP c' q P')) ∧ tl (WE W σZ) us H1 Q)
section
variable {X : Cx} {pins : List (Addr × Obj)} {σ : L2.St} {H : Hp} {s : Shared}
section
variable {CXg : CXT} {Eg : XK} {Ng : List Str} {qg q : Str} {sg : Scope} {g f c' : Addr} {cdg pm ctv : Value} {params : Arguments} {body : Expr} {scope : Scope} {ps : List Str} {k i : Nat} {t : XK → TE} {a : Str}
theorem act0_of (I : Inv X pins σ H s) (L : LamP X.env.scope scope X.N []) (hq : X.env.qual ++ "<lambda>" = q) (hf : s.heap.get? f = some (PySem.W.kla_obj "<lambda>" q params body scope (cloFrom X.env.cells scope.names []) pm c' ctv)) (hfn : H f = none) (hfr : f ∉ frs X.stack)
    (hbind : ∀ us : List Value, us.length = ([] : List Str).length → bindArgs (PySem.W.kla_fn "<lambda>" q params body scope (cloFrom X.env.cells scope.names []) pm (.ref c') ctv) ⟨us, []⟩ = pure (([] : List Str).zip us))
    (hr : Room (k + 1) (X.A.deeper (envOfC qg sg s.heap.objs.size g cdg)))
    (hbody : ∀ (A : Around) (outer : List Env) (s : Shared) (H : Hp) (E : XK), Room k (A.deeper (lamEnv X scope s.heap.objs.size f c')) → PE (lamCx X A outer s H E scope [] f c') body (t E))
    (hN : Ng[i]? = some a) (hv : Vis sg a) (hd : (a == ("__debug__" : Str)) = false := by decide) (hcd : (a == ("__classdict__" : Str)) = false := by decide) :
    Act0 (cxZ X CXg Ng qg sg g cdg s H Eg) a i f c' q (fun E us H' Q' => t E (σ ++ us.map some) H' Q') := by
  intro W pn xe p1 p2 tk
  refine ⟨fun pinsZ sZ σZ HZ Q IZ h => ?_⟩
  obtain ⟨hs, hc, ht⟩ := h
  refine wpAny_Call_Name_kw (thn ((pe_var (pos := p1) (i := i) hN hv hd hcd).run pinsZ sZ σZ HZ (fun v H1 => v = .ref f ∧ H1 = HZ) IZ ⟨.ref f, hs, rfl, rfl⟩) fun u s1 ⟨v, H1, I1, r1, q1⟩ => ?_)
  obtain ⟨ev, eH⟩ := q1
  subst ev
  rw [eH] at I1
  obtain rfl : u = Value.ref f := r1
  have of1 : s1.heap.get? f = some (PySem.W.kla_obj "<lambda>" q params body scope (cloFrom X.env.cells scope.names []) pm c' ctv) := I1.base.keep f _ hf hfn hfr (fun z => nomatch (show f ∈ ([] : List Addr) from z))
  refine PySem.W.callWith_F0 ⟨_, _, _, _, of1⟩ ?_
  exact act_run (vs := []) (us := []) I L hq hf hfn hfr hbind tk hr (fun A outer s H hr2 => hbody A outer s H _ hr2) (fun _ _ _ z => z) I1 .nil rfl hc ht
theorem act1_of (I : Inv X pins σ H s) (L : LamP X.env.scope scope X.N ps) (hq : X.env.qual ++ "<lambda>" = q) (hf : s.heap.get? f = some (PySem.W.kla_obj "<lambda>" q params body scope (cloFrom X.env.cells scope.names []) pm c' ctv)) (hfn : H f = none) (hfr : f ∉ frs X.stack)
    (hbind : ∀ us : List Value, us.length = ps.length → bindArgs (PySem.W.kla_fn "<lambda>" q params body scope (cloFrom X.env.cells scope.names []) pm (.ref c') ctv) ⟨us, []⟩ = pure (ps.zip us))
    (hr : Room (k + 1) (X.A.deeper (envOfC qg sg s.heap.objs.size g cdg)))
    (hbody : ∀ (A : Around) (outer : List Env) (s : Shared) (H : Hp) (E : XK), Room k (A.deeper (lamEnv X scope s.heap.objs.size f c')) → PE (lamCx X A outer s H E scope ps f c') body (t E))
    (hN : Ng[i]? = some a) (hv : Vis sg a) (hd : (a == ("__debug__" : Str)) = false := by decide) (hcd : (a == ("__classdict__" : Str)) = false := by decide) :
    Act1 (cxZ X CXg Ng qg sg g cdg s H Eg) a i f c' q ps.length (fun E us H' Q' => t E (σ ++ us.map some) H' Q') := by
  intro W pn xe p1 p2 e es ta tk ha hst hpl
  refine ⟨fun pinsZ sZ σZ HZ Q IZ h => ?_⟩
  obtain ⟨hs, h⟩ := h
  refine wpAny_Call_Name_kw (thn ((pe_var (pos := p1) (i := i) hN hv hd hcd).run pinsZ sZ σZ HZ (fun v H1 => v = .ref f ∧ H1 = HZ) IZ ⟨.ref f, hs, rfl, rfl⟩) fun u s1 ⟨v, H1, I1, r1, q1⟩ => ?_)
  obtain ⟨ev, eH⟩ := q1
  subst ev
  rw [eH] at I1
  obtain rfl : u = Value.ref f := r1
  have fnAt : ∀ {pins' : List (Addr × Obj)} {σ' : St} {H' : Hp} {s' : Shared}, Inv ((cxZ X CXg Ng qg sg g cdg s H Eg).tr pn xe) pins' σ' H' s' → s'.heap.get? f = some (PySem.W.kla_obj "<lambda>" q params body scope (cloFrom X.env.cells scope.names []) pm c' ctv) := fun I' => I'.base.keep f _ hf hfn hfr (fun z => nomatch (show f ∈ ([] : List Addr) from z))
  refine PySem.W.callWith_F ⟨_, _, _, _, fnAt I1⟩ (thn (ha.run p2 pinsZ s1 σZ HZ _ I1 h) fun us s2 ⟨vs, H2, I2, r2, hl, hc, ht⟩ => ⟨⟨_, _, _, _, fnAt I2⟩, ?_⟩) hst hpl
  exact act_run (vs := vs) (us := us) I L hq hf hfn hfr hbind tk hr (fun A outer s H hr2 => hbody A outer s H _ hr2) (fun _ _ _ z => z) I2 r2 hl hc ht
end
/-- the def that gets a lambda (of the code name q) as its last argument: A tells how it may be called there -/
def Gives (X : Cx) (k : Nat) (CXg : CXT) (Ng : List Str) (qg : Str) (sg : Scope) (g : Addr) (cdg : Value) (bg : List Stmt) (q : Str) (A : Cx → Addr → Addr → TL → Prop) (spL : SpL) : Prop :=
  ∀ (f c' : Addr) (s : Shared) (H : Hp) (vs : List V) (Q : VK) (E : XK) (tl : TL), Room (k + 1) (X.A.deeper (envOfC qg sg s.heap.objs.size g cdg)) → A (cxZ X CXg Ng qg sg g cdg s H E) f c' tl → (∃ P', H c' = some (CodeP c' q P')) → spL tl vs H Q E →
    ∃ t, PSs (cxZ X CXg Ng qg sg g cdg s H E) bg t ∧ t { nx := fun _ H' => Q .non H', rt := Q } (L2.start Ng (vs ++ [.ref f])) H
/-- the maker's code object and its table -/
inductive Src (X : Cx) (c P : Addr) (H : Hp) : Prop
  | base (h : TabB X.base X.mg c P) : Src X c P H
  | run (c0 P0 : Addr) (h : TabB X.base X.mg c0 P0) (q : Str) (e : H c = some (CodeP c q P)) : Src X c P H
theorem Src.get {c P : Addr} (r : Src X c P H) (I : Inv X pins σ H s) {ps : Array Value} (hP : H P = some (.tbl ps)) : PySem.W.CodeHd s.heap c P ∧ s.heap.BuiltinsAt X.mg P ∧ mainGlobals ≠ P := by
  have hP' : s.heap.get? P = some { cls := .none, data := .fields ps } := I.hok P _ hP
  cases r with
  | base h => exact ⟨h.code.keeps I.bk, h.bm.keeps I.bk, h.gP⟩
  | run c0 P0 h q e =>
    obtain ⟨⟨cc, _⟩, _, _⟩ := I.hok c _ e
    obtain ⟨bm, o, b1, b2, b3, b4, b5, b6, b7, b8⟩ := h.bm.keeps I.bk
    refine ⟨cc, ⟨bm, o, b1, b2, b3, fun z => ?_, b5, b6, b7, b8⟩, fun z => ?_⟩
    · rw [z, hP'] at b5
      cases b5
      cases b6
    · obtain ⟨og, es, ep, e1, e2, _⟩ := I.mod.glob.keeps I.bk
      rw [z, hP'] at e1
      cases e1
      cases e2
/-- what holds behind the making of the lambda -/
def tMade (P : Addr) (q : Str) (H : Hp) (R : Addr → Hp → Prop) : Prop := ∃ D : Addr → Prop, TabP H P q D ∧ ∀ (H1 : Hp) (c' P' : Addr), Made H H1 P c' q P' → (H1 = H → D P') → (∀ D' : Addr → Prop, (∀ a, D a → D' a) → D' P' → TabP H1 P q D') → R c' H1
section
variable {CXg : CXT} {spL : SpL} {x q : Str} {g c P : Addr} {k : Nat} {pg : Arguments} {bg : List Stmt} {sg : Scope} {dV kV doc pm cdv ct oc : Value} {an od : Option Addr} {osl : Array (Option Value)} {Ng pN ps : List Str} {E : St → XK}
  {params : Arguments} {body e1 : Expr} {scope : Scope} {t : Addr → XK → TE} {t1 : TE} {p lpos pos : Pos} {A : Cx → Addr → Addr → TL → Prop}
theorem lam_tail {Q : VK} {us : List Value} {vs : List V}
    (lk : X.K.lookup g = some ⟨oc, od, .func (PySem.W.fnOf x x pg bg sg dV kV doc pm an cdv ct), osl⟩) (hcg : PySem.W.codeIn X.K cdv x = true) (hb : L2.Binds X.K (PySem.W.fnOf x x pg bg sg dV kV doc pm an cdv ct) pN []) (Sg : FnScope Ng pN sg)
    (hG : Gives X k CXg Ng x sg g cdv bg q A spL)
    (hA : ∀ (f c' : Addr) (pm ctv : Value) (s : Shared) (H : Hp) (E : XK), Inv X pins σ H s → s.heap.get? f = some (PySem.W.kla_obj "<lambda>" q params body scope (cloFrom X.env.cells scope.names []) pm c' ctv) → H f = none → f ∉ frs X.stack → Room (k + 1) (X.A.deeper (envOfC x sg s.heap.objs.size g cdv)) →
      A (cxZ X CXg Ng x sg g cdv s H E) f c' (fun E us H' Q' => t c' E (σ ++ us.map some) H' Q'))
    (hcode : X.env.code = .ref c) (hq : X.env.qual ++ "<lambda>" = q) (hr : Room (k + 2) X.A) (hdef : defaultsOf params X.env = ([], [])) (hfree : ∀ y ∈ scope.names, y.2 = .free → ∃ c, X.env.cells.lookup y.1 = some c) (hx : ∀ σ, PassesAt CXg X σ (E σ))
    (I : Inv X pins σ H s) (sr : Src X c P H) (r : Vals vs us) (hl : vs.length + 1 = pN.length) (h : tMade P q H fun c' H1 => spL (fun E us H' Q' => t c' E (σ ++ us.map some) H' Q') vs H1 Q (E σ)) :
    wpAny (model X.prog X.w) X.A (eval (.Lambda params body scope lpos) X.env) (fun u s' => X.K.In s'.heap ∧ wpAny (model X.prog X.w) X.A (call (.ref g) (us ++ [u])) (EP X pins σ Q) X.xe s') X.xe s := by
  obtain ⟨D, hT, h⟩ := h
  obtain ⟨ps', hP, _⟩ := id hT
  obtain ⟨C, bm, gP⟩ := sr.get I hP
  refine lam_make I C bm gP hcode hT hq hdef hfree fun f c' P' pm' ctv H1 s' I1 md hD hT1 hf hfn hfr => ?_
  refine ⟨I1.kIn, ?_⟩
  have hsp := h H1 c' P' md hD hT1
  have r2 : Vals (vs ++ [.ref f]) (us ++ [Value.ref f]) := r.append (.cons rfl .nil)
  have hl2 : (vs ++ [V.ref f]).length = pN.length := by rw [List.length_append]; exact hl
  have hu2 : (us ++ [Value.ref f]).length = pN.length := by rw [← r2.length]; exact hl2
  have b := hb s' (us ++ [.ref f]) I1.kIn (by rw [List.append_nil]; exact hu2)
  rw [List.append_nil] at b
  have rc : codeAny (model X.prog X.w) X.A (.call (.ref g) ⟨us ++ [.ref f], []⟩) (CR CXg X.stack X.prog X.w H1 s' Q (E σ)) s' :=
    run_ofS (N := Ng) (ps := pN) (us := us ++ [.ref f]) (vs := vs ++ [.ref f]) lk hcg Sg hr I1.env0 b r2 hl2 fun hr' => hG f c' s' H1 vs Q (E σ) _ hr' (hA f c' pm' ctv s' H1 (E σ) I1 hf hfn hfr hr') ⟨P', md.code⟩ hsp
  refine wpAny_call (codeAny_mono rc fun r s2 hq => ?_)
  cases r with
  | error e => exact hx σ pins H1 s' e s2 I1 hq
  | ok fl =>
    cases fl with
    | ret u => exact I1.after hq
    | next => exact False.elim hq
    | brk => exact False.elim hq
    | cont => exact False.elim hq
/-- x(lambda: body) -/
theorem pe_lamcall0 {a : Str} {i : Nat} (hg : Gl X x) (hm : X.mg x = some (.ref g)) (hk : PySem.W.keepIn X.K (.ref g) = true)
    (lk : X.K.lookup g = some ⟨oc, od, .func (PySem.W.fnOf x x pg bg sg dV kV doc pm an cdv ct), osl⟩) (hcg : PySem.W.codeIn X.K cdv x = true) (hb : L2.Binds X.K (PySem.W.fnOf x x pg bg sg dV kV doc pm an cdv ct) pN []) (Sg : FnScope Ng pN sg) (hN : Ng[i]? = some a) (hv : Vis sg a)
    (hG : Gives X k CXg Ng x sg g cdv bg q (fun Z f c' tl => Act0 Z a i f c' q tl) spL) (hpN : pN.length = 1)
    (hcode : X.env.code = .ref c) (hq : X.env.qual ++ "<lambda>" = q) (hr : Room (k + 2) X.A) (L : LamP X.env.scope scope X.N []) (hdef : defaultsOf params X.env = ([], [])) (hx : ∀ σ, PassesAt CXg X σ (E σ))
    (hbind : ∀ (q : Str) (cl : List (Str × Addr)) (pm cv ctv : Value) (us : List Value), us.length = ([] : List Str).length → bindArgs (PySem.W.kla_fn "<lambda>" q params body scope cl pm cv ctv) ⟨us, []⟩ = pure (([] : List Str).zip us))
    (hbody : ∀ (A : Around) (outer : List Env) (s : Shared) (H : Hp) (E : XK) (f c' : Addr), Room k (A.deeper (lamEnv X scope s.heap.objs.size f c')) → PE (lamCx X A outer s H E scope [] f c') body (t c' E))
    (hdb : (x == ("__debug__" : Str)) = false := by decide) (hd : (a == ("__debug__" : Str)) = false := by decide) (hcd : (a == ("__classdict__" : Str)) = false := by decide) :
    PE X (.Call (.Name x p) [.Lambda params body scope lpos] [] pos) (fun σ H Q => Src X c P H ∧ tMade P q H fun c' H1 => spL (fun E us H' Q' => t c' E (σ ++ us.map some) H' Q') [] H1 Q (E σ)) := by
  refine ⟨fun pins s σ H Q I h => ?_⟩
  obtain ⟨sr, h⟩ := h
  refine wpAny_Call_Name_kw (ld_glob I hg hm ?_ hdb)
  refine PySem.W.callWith_K (h₀ := X.base) I.ok.mod.kin hk ?_ (by rfl) (by rfl)
  show wpAny _ _ (spliced ((false, eval (.Lambda params body scope lpos) X.env) :: backTo pos (starEach [] X.env))) _ _ s
  refine Calls.spliced_cons (wpAny_mono (lam_tail (us := []) (vs := []) (A := fun Z f c' tl => Act0 Z a i f c' q tl) lk hcg hb Sg hG (fun f c' pm ctv s H E I1 hf hfn hfr hr' => act0_of I1 L hq hf hfn hfr (hbind _ _ _ _ _) hr' (fun A outer s H E hr2 => hbody A outer s H E f c' hr2) hN hv hd hcd)
    hcode hq hr hdef (L.has I.ok) hx I sr .nil (by rw [hpN]; rfl) h) (fun u s' ⟨k1, k2⟩ => ?_) (fun _ _ z => z))
  refine Calls.spliced_nil ⟨?_, k2⟩
  exact k1
/-- x(e1, lambda ..: body) -/
theorem pe_lamcall1 {a : Str} {i : Nat} (hg : Gl X x) (hm : X.mg x = some (.ref g)) (hk : PySem.W.keepIn X.K (.ref g) = true)
    (lk : X.K.lookup g = some ⟨oc, od, .func (PySem.W.fnOf x x pg bg sg dV kV doc pm an cdv ct), osl⟩) (hcg : PySem.W.codeIn X.K cdv x = true) (hb : L2.Binds X.K (PySem.W.fnOf x x pg bg sg dV kV doc pm an cdv ct) pN []) (Sg : FnScope Ng pN sg) (hN : Ng[i]? = some a) (hv : Vis sg a)
    (hG : Gives X k CXg Ng x sg g cdv bg q (fun Z f c' tl => Act1 Z a i f c' q ps.length tl) spL) (hpN : pN.length = 2)
    (hcode : X.env.code = .ref c) (hq : X.env.qual ++ "<lambda>" = q) (hr : Room (k + 2) X.A) (L : LamP X.env.scope scope X.N ps) (hdef : defaultsOf params X.env = ([], [])) (hx : ∀ σ, PassesAt CXg X σ (E σ))
    (hbind : ∀ (q : Str) (cl : List (Str × Addr)) (pm cv ctv : Value) (us : List Value), us.length = ps.length → bindArgs (PySem.W.kla_fn "<lambda>" q params body scope cl pm cv ctv) ⟨us, []⟩ = pure (ps.zip us))
    (hbody : ∀ (A : Around) (outer : List Env) (s : Shared) (H : Hp) (E : XK) (f c' : Addr), Room k (A.deeper (lamEnv X scope s.heap.objs.size f c')) → PE (lamCx X A outer s H E scope ps f c') body (t c' E))
    (h1 : PE X e1 t1) (hst : starEach [e1, .Lambda params body scope lpos] X.env = (false, eval e1 X.env) :: starEach [.Lambda params body scope lpos] X.env := by rfl)
    (hdb : (x == ("__debug__" : Str)) = false := by decide) (hd : (a == ("__debug__" : Str)) = false := by decide) (hcd : (a == ("__classdict__" : Str)) = false := by decide) :
    PE X (.Call (.Name x p) [e1, .Lambda params body scope lpos] [] pos) (fun σ H Q => t1 σ H fun v H2 => Src X c P H2 ∧ tMade P q H2 fun c' H1 => spL (fun E us H' Q' => t c' E (σ ++ us.map some) H' Q') [v] H1 Q (E σ)) := by
  refine ⟨fun pins s σ H Q I h => ?_⟩
  refine wpAny_Call_Name_kw (ld_glob I hg hm ?_ hdb)
  refine PySem.W.callWith_K (h₀ := X.base) I.ok.mod.kin hk ?_ hst (by rfl)
  rw [hst]
  show wpAny _ _ (spliced ((false, eval e1 X.env) :: (false, eval (.Lambda params body scope lpos) X.env) :: backTo pos (starEach [] X.env))) _ _ s
  refine Calls.spliced_cons (thn (h1.run pins s σ H _ I h) fun u s1 ⟨v, H2, I2, r2, sr, h2⟩ => ?_)
  refine Calls.spliced_cons (wpAny_mono (lam_tail (us := [u]) (vs := [v]) (A := fun Z f c' tl => Act1 Z a i f c' q ps.length tl) lk hcg hb Sg hG (fun f c' pm ctv s H E I1 hf hfn hfr hr' => act1_of I1 L hq hf hfn hfr (hbind _ _ _ _ _) hr' (fun A outer s H E hr2 => hbody A outer s H E f c' hr2) hN hv hd hcd)
    hcode hq hr hdef (L.has I.ok) hx I2 sr (.cons r2 .nil) (by rw [hpN]; rfl) h2) (fun u s' ⟨k1, k2⟩ => ?_) (fun _ _ z => z))
  refine Calls.spliced_nil ⟨?_, k2⟩
  exact k1
end
end
end Lx
-- RTry
set_option Elab.async false
set_option linter.all false
set_option maxRecDepth 100000
set_option maxHeartbeats 400000
namespace Tx
open PySem PySem.Spec PyProof.Rows L2
abbrev St := L2.St
/-- the ends of an except suite whose name stands in slot i: the name goes -/
abbrev endsGone (i : Nat) (D : Ends) : Ends := { nx := fun σ' H' => D.nx (σ'.set i none) H', rt := D.rt, bk := fun σ' H' => D.bk (σ'.set i none) H', ct := fun σ' H' => D.ct (σ'.set i none) H' }
/-- what the clauses 'except C as n' wish of an exception of the body, one after the other -/
def wManyAs (K : PySem.W.Frag) (i : Nat) (Wout : WX) (D : Ends) : List (Value × (Addr → Value → Option Addr → TS)) → WX
  | [] => Wout
  | (c, ts) :: r => fun cls d σ H => ∃ b, PySem.W.exmOne K cls c = some b ∧ (b = true → ∀ a, H a = none → ts a cls d (endsGone i D) (σ.set i (some (.ref a))) H) ∧ (b = false → wManyAs K i Wout D r cls d σ H)
inductive HdsAs (X : Cx) (n : Str) : List ExceptHandler → List (Value × (Addr → Value → Option Addr → TS)) → Prop
  | nil : HdsAs X n [] []
  | cons {x : Str} {c : Value} {ts : Addr → Value → Option Addr → TS} {b₀ : Stmt} {suite : List Stmt} {np pos' : Pos} {hds : List ExceptHandler} {l : List (Value × (Addr → Value → Option Addr → TS))} (hc : Names X x c)
      (hsu : ∀ (a : Addr) (oe : Obj) (cls : Value) (d : Option Addr) (pn : List (Addr × Obj)), Zc cls d oe → (∃ vs, oe.data = .fields vs) → PSs (X.suite a ((a, oe) :: pn)) (b₀ :: suite) (ts a cls d)) (r : HdsAs X n hds l) :
      HdsAs X n (.ExceptHandler (some (.Name x np)) (some n) (b₀ :: suite) pos' :: hds) ((c, ts) :: l)
section
variable {X : Cx} {n : Str} {i : Nat} {body : List Stmt} {h₀ : ExceptHandler} {hds : List ExceptHandler} {l : List (Value × (Addr → Value → Option Addr → TS))} {pos : Pos} {tb : WX → TS} {Wout : WX}
theorem ps_try_manyAs (hs : X.stack = X.env :: X.outer) (hf : X.env.frame = some X.env.locals) (hN : X.N.Nodup) (hi : X.N[i]? = some n) (hln : X.env.kindOf n = some .local) (tk : Takes X Wout)
    (hb : ∀ (W : WX) (pn : List (Addr × Obj)) (xe : Value → Shared → Prop), Takes (X.tr pn xe) W → PassesOwn (model X.prog X.w) X.A X.env xe → PSs (X.tr pn xe) body (tb W))
    (hh : HdsAs X n (h₀ :: hds) l) : PS X (.Try body (h₀ :: hds) [] [] pos) (fun D σ H => tb (wManyAs X.K i Wout D l) D σ H) := by
  refine ⟨fun pins s σ H D I h => ?_⟩
  have ok := I.ok
  have hfr : X.A.frames = some (X.env :: X.outer) := by rw [ok.frames, hs]
  refine wpAny_Try_except ?_
  refine wpAny_mono ((hb (wManyAs X.K i Wout D l) (X.pn ++ pins) (fun e s₁ => wpAny (model X.prog X.w) X.A (noteFrame e X.env) (fun _ s₂ => wpAny (model X.prog X.w) X.A (setFlight e none) (fun _ s₃ =>
    wpAny (model X.prog X.w) X.A (handleBy e X.env (h₀ :: hds)) (SP X pins D) X.xe s₃) X.xe s₂) X.xe s₁) (fun u s' xx => ?_) PassesOwn.looking).run [] s σ H D (I.toTry _) h) (fun f s1 hsp => ?_) (fun e s1 he => he)
  · obtain ⟨a, B, sI, pins', σ', H', cls, d, rfl, J', nb, up, sky, na, os, ag, w⟩ := xx
    have J : Inv X pins σ' H' sI := J'.ofTry ok
    have sky' : Sky B (X.env :: X.outer) a (Zc cls d) X.env.locals s'.heap := by rw [← hs]; exact sky
    show wpAny (model X.prog X.w) X.A (noteFrame (.ref a) X.env) _ _ _
    refine Sky.land Zc.steady hfr hf sky' fun h3 fl3 up3 => ?_
    have J3 : Inv X pins σ' H' { s' with heap := h3 } := J.landed nb fl3.1 (up.trans up3) os ag
    obtain ⟨oe3, vs3, he3, hz3, hd3⟩ := fl3.there
    have notFr : ∀ {h : Heap} {o : Obj} {vs : Array Value}, h.FunFrames B (X.env :: X.outer) → h.get? a = some o → o.data = .fields vs → a ∉ frs (X.env :: X.outer) := fun {h o vs} ff e dd hm => by
      obtain ⟨_, o', e', hnf⟩ := ff.mem hm
      rw [e] at e'; cases e'
      exact hnf _ dd
    have nfr := notFr fl3.2.2.1 he3 hd3
    have nL : a ≠ X.env.locals := fun z => nfr (List.mem_filterMap.mpr ⟨X.env, List.mem_cons_self, by rw [hf, z]⟩)
    have nF : a ∉ X.fs := fun hm => by
      obtain ⟨e, he, q⟩ := List.mem_filterMap.mp hm
      exact nfr (List.mem_filterMap.mpr ⟨e, List.mem_cons_of_mem _ he, q⟩)
    have S3 := J3.suite he3 hd3 na nL nF
    have go : ∀ {hds' : List ExceptHandler} {l' : List (Value × (Addr → Value → Option Addr → TS))}, HdsAs X n hds' l' → wManyAs X.K i Wout D l' cls d σ' H' →
        wpAny (model X.prog X.w) X.A (handleBy (.ref a) X.env hds') (SP X pins D) X.xe { s' with heap := h3 } := by
      intro hds' l' hk
      induction hk with
      | nil =>
        intro w
        refine wpAny_handleBy_nil ?_
        obtain ⟨k1, k2, k3, oe, vs, T, oT, ts', he, hz, hd, h1, hr⟩ := id fl3
        unfold PySem.passOn
        refine wpAny_bind (wpAny_field he hd h1 ?_)
        rw [if_neg (show ¬ ((Value.ref T == Value.none) = true) from by simp)]
        have fin : wpAny (model X.prog X.w) X.A (setFlight (.ref a) X.env.frame) (fun _ s4 => wpAny (model X.prog X.w) X.A (throw (.ref a) : Sem Flow) (SP X pins D) X.xe s4) X.xe { s' with heap := h3 } := by
          rw [hf]
          refine HandSPX.setFlight_upZ fl3 fun h4 hh4 up4 => wpAny_throw (tk _ _ ?_)
          exact ⟨a, B, sI, pins, σ', H', cls, d, rfl, J, nb, (up.trans up3).trans up4, .inr (.inr (by rw [hs]; exact hh4)), na, os, ag, w⟩
        first
          | exact wpAny_bind (wpAny_pure (wpAny_bind fin))
          | exact wpAny_bind fin
      | @cons x c ts b₀ suite np pos' hds2 l2 hc hsu r ih =>
        intro w
        obtain ⟨b, hb1, hyes, hno⟩ := w
        refine wpAny_handleBy_cons (codeAny_handlers_test ?_) (by intro q; cases q)
        have LT : PySem.W.Looks (model X.prog X.w) h3 (typeOf (.ref a)) cls := fun A Q E s k q => wpAny_typeOf_ref (k _ _ he3) (by rw [hz3.1]; exact q)
        have LM := PySem.W.exm_one (M := model X.prog X.w) (J3.kIn) LT hb1
        have test : ∀ {Q : Value → Shared → Prop} {E : Value → Shared → Prop}, Q c { s' with heap := h3 } → wpAny (model X.prog X.w) (X.A.mark (some (.ref a))) (eval (.Name x np) X.env) Q E { s' with heap := h3 } := fun {Q E} q => by
          obtain ⟨hg, hdbg, hm | ⟨hm, hv, hnn⟩⟩ := hc
          · exact ld_glob (X := X.suite a ((a, oe3) :: (X.pn ++ pins))) S3 hg hm q hdbg
          · exact ld_blt (X := X.suite a ((a, oe3) :: (X.pn ++ pins))) S3 hg hm hv q hnn hdbg
        refine test (LM.here ?_)
        cases b with
        | true =>
          refine codeAny_handlers_suite_as ?_
          refine HandSPX.lands_againZ fl3 fun h4 fl4 up4 => ?_
          have J4 : Inv X pins σ' H' { s' with heap := h4 } := J.landed nb fl4.1 ((up.trans up3).trans up4) os ag
          obtain ⟨oe4, vs4, he4, hz4, hd4⟩ := fl4.there
          have S4 := J4.suite he4 hd4 na nL nF
          refine store_ok (X := X.suite a ((a, oe4) :: (X.pn ++ pins))) (v := .ref a) S4 hN hi (.inl hln) rfl (fun s5 S5 => ?_) (.inr hln)
          refine wpAny_mono ((hsu a oe4 cls d (X.pn ++ pins) hz4 ⟨_, hd4⟩).run [] s5 _ H' _ S5 (hyes rfl a na)) (fun f s6 hsp => ?_) (fun _ _ z => False.elim z)
          have end_ : ∀ {σ6 : St} {H6 : Hp} {Q : Shared → Prop}, Inv (X.suite a ((a, oe4) :: (X.pn ++ pins))) [] σ6 H6 s6 → (∀ s7, Inv X pins (σ6.set i none) H6 s7 → Q s7) →
              wpAny (model X.prog X.w) X.A (do bindName X.env n .none; unbindBehindTheSuite X.env n pos') (fun _ s7 => Q s7) X.xe s6 := fun {σ6 H6 Q} S6 hq => gone_ok (S6.unsuite ok) hN hi hln hq
          cases f with
          | next =>
            obtain ⟨σ6, H6, S6, q6⟩ := hsp
            exact end_ S6 fun s7 J7 => ⟨_, _, J7, q6⟩
          | brk =>
            obtain ⟨σ6, H6, S6, q6⟩ := hsp
            exact end_ S6 fun s7 J7 => ⟨_, _, J7, q6⟩
          | cont =>
            obtain ⟨σ6, H6, S6, q6⟩ := hsp
            exact end_ S6 fun s7 J7 => ⟨_, _, J7, q6⟩
          | ret u =>
            obtain ⟨v6, σ6, H6, S6, r6, q6⟩ := hsp
            exact end_ S6 fun s7 J7 => ⟨_, _, _, J7, r6, q6⟩
        | false =>
          show wpAny _ X.A (handleBy (.ref a) X.env hds2) _ _ _
          exact ih (hno rfl)
    exact go hh w
  · cases f with
    | next =>
      obtain ⟨σ', H', J', q⟩ := hsp
      exact wpAny_execs_nil ⟨σ', H', J'.ofTry ok, q⟩
    | brk =>
      obtain ⟨σ', H', J', q⟩ := hsp
      exact ⟨σ', H', J'.ofTry ok, q⟩
    | cont =>
      obtain ⟨σ', H', J', q⟩ := hsp
      exact ⟨σ', H', J'.ofTry ok, q⟩
    | ret u =>
      obtain ⟨v, σ', H', J', r, q⟩ := hsp
      exact ⟨v, σ', H', J'.ofTry ok, r, q⟩
end
end Tx
-- RKey
set_option Elab.async false
set_option linter.all false
set_option maxRecDepth 100000
set_option maxHeartbeats 1000000
namespace PySem
namespace KeyX
open PySem.W PySem.Calls PyProof.Rows PySem.HandSPX
open Builtin Builtin.ObjectAttr
abbrev keTail : List Value := [.type "KeyError", .type "LookupError", .type "Exception", .type "BaseException", .type "object"]
/-- own classes, then KeyError's mro -/
def refsKE : List Value → Bool
  | .ref _ :: r => refsKE r
  | l => l == keTail
theorem refsKE_cases (l : List Value) (e : refsKE l = true) : (∃ c r, l = .ref c :: r ∧ refsKE r = true) ∨ l = keTail := by
  cases l with
  | nil => exact .inr (beq_iff_eq.mp e)
  | cons a r =>
    cases a <;> first | exact .inl ⟨_, _, rfl, e⟩ | exact .inr (beq_iff_eq.mp e)
theorem refsKE_pass (self : Value) : ∀ l : List Value, refsKE l = true → refuseLoop self "__setattr__" l = pure () := by
  intro l
  induction l with
  | nil => intro e; exact absurd e (by decide)
  | cons a r ih =>
    intro e
    rcases refsKE_cases (a :: r) e with ⟨c, r', q, h⟩ | q
    · obtain ⟨rfl, rfl⟩ := List.cons.inj q
      rw [refuseLoop_ref]; exact ih h
    · rw [q]
      first
        | rfl
        | (show refuseLoop self "__setattr__" keTail = pure (); simp [refuseLoop])
theorem refsKE_contains (X : String) : ∀ l : List Value, refsKE l = true → l.contains (.type X) = keTail.contains (.type X) := by
  intro l
  induction l with
  | nil => intro e; exact absurd e (by decide)
  | cons a r ih =>
    intro e
    rcases refsKE_cases (a :: r) e with ⟨c, r', q, h⟩ | q
    · obtain ⟨rfl, rfl⟩ := List.cons.inj q
      rw [List.contains_cons, ih h]; rfl
    · rw [q]
theorem refsKE_ne {l : List Value} (e : refsKE l = true) : l.isEmpty = false := by
  cases l with
  | nil => exact absurd e (by decide)
  | cons _ _ => rfl
section
variable {M : Model} {A : Around} {E : Value → Shared → Prop} {h : Heap} {g : Array GenState} {d : Drawn} {t : Nat} {os : OsState}
variable {nm q : Str} {C N : Addr} {bs bm bmB : List Value} {hdct : Bool} {sn : List Str} {sub : List Value} {ab : Bool} {col : Option Bool} {dd : Option Addr} {k0 k1 k2 k3 k5 : Option Value} {B newId initId : String}

theorem check_new (F : ExcBaseFacts B newId initId bmB) (hB : bm.contains (.type B) = true) {rest : List Value} {Q : Unit → Shared → Prop}
    (hC : h.get? C = some (excClassObj nm q C N bs bm hdct sn sub ab col dd k0 k1 k2 k3 k5 newId)) (hq : Q () ⟨h, g, d, t, os⟩) : wpAny M A (checkBuiltinCall newId ⟨.ref C :: rest, []⟩) Q E ⟨h, g, d, t, os⟩ := by
  have hcont : (Value.ref C :: bm).contains (.type B) = true := by rw [List.contains_cons, hB, Bool.or_true]
  have hstar := F.noStar
  simp only [checkBuiltinCall, F.newKind, F.newSplit, F.newRow]
  repeat (first | refine wpAny_loadPart_at hC ?_ | (refine wpAny_isSubtype_exc hC ?_; rw [hcont]) | refine wpAny_staticBase_exc hC ?_ | refine wpAny_madeBy_exc hC ?_ | simp only [bne_self_eq_false, Bool.false_eq_true, if_false] | wp_step)
  exact hq
end
section
variable {prog : Program} {w : World} {A : Around} {E : Value → Shared → Prop} {R : Result → Shared → Prop} {h : Heap} {g : Array GenState} {d : Drawn} {t : Nat} {os : OsState}
variable {nm q : Str} {C N : Addr} {bs bm bmB : List Value} {hdct : Bool} {sn : List Str} {sub : List Value} {ab : Bool} {col : Option Bool} {dd : Option Addr} {k0 k1 k2 k3 k5 : Option Value} {B newId initId : String}

theorem newO (F : ExcBaseFacts B newId initId bmB) (hB : bm.contains (.type B) = true) (hA : bm.contains (.type "AttributeError") = false) (hNm : bm.contains (.type "NameError") = false) {rest : List Value}
    (hC : h.get? C = some (excClassObj nm q C N bs bm hdct sn sub ab col dd k0 k1 k2 k3 k5 newId))
    (hq : R (.ok (.ret (.ref (h.objs.size + 1)))) ⟨(h.push { cls := .type "tuple", data := .seq rest.toArray }).push
      { cls := .ref C, data := .fields #[.ref h.objs.size, .none, .none, .none, .bool false, .none] }, g, d, t, os⟩) (hrest : rest.length ≤ sizeLine) :
    codeAny (model prog w) A (.builtin newId ⟨.ref C :: rest, []⟩) R ⟨h, g, d, t, os⟩ := by
  have hends := F.ends
  have hcB : (Value.ref C :: bm).contains (.type B) = true := by rw [List.contains_cons, hB, Bool.or_true]
  have hcA : (Value.ref C :: bm).contains (.type "AttributeError") = false := by rw [List.contains_cons, hA]; rfl
  have hcN : (Value.ref C :: bm).contains (.type "NameError") = false := by rw [List.contains_cons, hNm]; rfl
  refine codeAny_builtinAt F.entry ?_
  unfold Builtin.«BaseException.__new__»
  refine wpAt_bind ?_
  show wpAt _ _ _ (stack >>= _) _ _ _
  refine wpAt_bind (wpAt_stack fun p below => wpAt_of_wpAny ?_)
  wp_walk
  refine wpAt_of_wpAny ?_
  rw [F.owner]
  repeat (first | with_reducible refine wpAny_madeHere_exc F.canon hC ?_ | with_reducible refine wpAny_loadPart_at hC ?_ | (with_reducible refine wpAny_isSubtype_exc hC ?_; first | rw [hcB] | rw [hcA] | rw [hcN]) | wp_step)
  show R _ _
  rw [Heap.size_push]
  exact hq

theorem type_callO (F : ExcBaseFacts B newId initId bmB) (hB : bm.contains (.type B) = true) (hA : bm.contains (.type "AttributeError") = false) (hNm : bm.contains (.type "NameError") = false) {rest : List Value} {fI : Addr} {Q : Fin → Shared → Prop}
    (hC : h.get? C = some (excClassObj nm q C N bs bm hdct sn sub ab col dd k0 k1 k2 k3 k5 newId))
    (hi : W.Looks (model prog w) h (typeLookup (.ref C) "__init__") (some (.ref fI))) (hb : ∀ self, W.Looks (model prog w) h (bindSpecial (.ref fI) self) (.ref fI, [self])) (hrest : rest.length ≤ sizeLine)
    (hq : codeAny (model prog w) A (.call (.ref fI) ⟨.ref (h.objs.size + 1) :: rest, []⟩)
      (fun r s' => match r with | .ok (.ret v) => v = .none ∧ Q (.done (.ret (.ref (h.objs.size + 1)))) s' | .ok _ => False | .error e => E e s')
      ⟨(h.push (W.kdv_tup rest)).push (excO C h.objs.size), g, d, t, os⟩) :
    wpAny (model prog w) A (Builtin.«type.__call__» ⟨.ref C :: rest, []⟩) Q E ⟨h, g, d, t, os⟩ := by
  repeat (first | with_reducible refine wpAny_loadPart_at hC ?_ | with_reducible refine wpAny_madeBy_exc hC ?_ | wp_step)
  refine codeAny_call_builtin_code (Code.quiet_builtin _ F.quiet) (check_new F hB hC ?_)
  refine newO F hB hA hNm hC ?_ hrest
  show wpAny _ _ _ _ _ _
  have k : ∀ b o, h.get? b = some o → ((h.push (W.kdv_tup rest)).push (excO C h.objs.size)).get? b = some o := fun b o e => Heap.get?_push_of_some _ (Heap.get?_push_of_some _ e)
  have hC₁ := k _ _ hC
  have hget : ((h.push (W.kdv_tup rest)).push (excO C h.objs.size)).get? (h.objs.size + 1) = some (excO C h.objs.size) := by heap_get
  have hcC : (Value.ref C :: bm).contains (.ref C) = true := by simp
  have i1 := hi.keeps k
  have b1 := (hb (.ref (h.objs.size + 1))).keeps k
  unfold isInstance
  repeat (first | with_reducible refine wpAny_loadPart_at hget ?_ | (with_reducible refine wpAny_isSubtype_exc hC₁ ?_; rw [hcC]) | wp_step)
  show wpAny _ _ (typeLookup (.ref C) _) _ _ _
  refine i1.at ?_
  refine wpAny_holding (wpAny_bind (b1.at ?_))
  refine wpAny_bind (wpAny_call (codeAny_mono hq fun r s' z => ?_))
  rcases r with e | (v | _ | _ | _) <;> first | exact z | exact z.elim | skip
  obtain ⟨rfl, z⟩ := z
  first
    | exact wpAny_pure (wpAny_pure z)
    | (wp_walk; exact z)

theorem callO (F : ExcBaseFacts B newId initId bmB) (hB : bm.contains (.type B) = true) (hA : bm.contains (.type "AttributeError") = false) (hNm : bm.contains (.type "NameError") = false) {rest : List Value} {fI : Addr}
    (hC : h.get? C = some (excClassObj nm q C N bs bm hdct sn sub ab col dd k0 k1 k2 k3 k5 newId))
    (hi : W.Looks (model prog w) h (typeLookup (.ref C) "__init__") (some (.ref fI))) (hb : ∀ self, W.Looks (model prog w) h (bindSpecial (.ref fI) self) (.ref fI, [self])) (hrest : rest.length ≤ sizeLine)
    (hq : codeAny (model prog w) (A.under (.builtin "type.__call__" ⟨.ref C :: rest, []⟩)) (.call (.ref fI) ⟨.ref (h.objs.size + 1) :: rest, []⟩) (W.InitBack (h.objs.size + 1) R)
      ⟨(h.push (W.kdv_tup rest)).push (excO C h.objs.size), g, d, t, os⟩) :
    codeAny (model prog w) A (.call (.ref C) ⟨rest, []⟩) R ⟨h, g, d, t, os⟩ := by
  have f1 := tc_lookup
  have f2 := tc_bind (.ref C)
  have hTy : (⟨h, g, d, t, os⟩ : Shared).TypeIs (.ref C) "type" := ⟨_, hC, rfl⟩
  refine codeAny_of_tree ?_
  show wpAny _ _ (callAny (.ref C) _) _ _ _
  repeat (any_goals (first | assumption | with_reducible refine wpAny_loadPart_at hC ?_ | wp_step))
  refine ⟨rfl, ?_⟩
  refine codeAny_call_builtin_at (Code.quiet_builtin _ (by decide +kernel)) entry_typeCall (wpAny_check_type_call_sub hC (type_callO F hB hA hNm hC hi hb hrest ?_))
  refine codeAny_mono hq fun r s' z => ?_
  rcases r with e | (v | _ | _ | _) <;> exact z

end
section
variable {prog : Program} {w : World} {A : Around} {E : Value → Shared → Prop} {R : Result → Shared → Prop} {hp : Heap} {g : Array GenState} {d : Drawn} {t : Nat} {os : OsState}
theorem osaN {K : W.Frag} {name : Str} {tk : Tok} {v : Value} {x C : Addr} {fv : Array Value} {cd : ClassData}
    (X : K.In hp) (hx : hp.get? x = some { cls := .ref C, data := .fields fv }) (hcd : W.clsIn K C = some cd) (hm : refsKE cd.mro = true) (hh : cd.hasDict = true) (ha : W.findIn K (.ref C) name = some none)
    (hq : ∀ h' tk' dx, (∀ b o, b ≠ x → hp.get? b = some o → h'.get? b = some o) → hp.objs.size ≤ dx → dx ≠ x → h'.get? x = some { cls := .ref C, dict := some dx, data := .fields fv } →
      h'.Ns1 dx (fun y => if y = name then some v else none) → R (.ok (.ret .none)) ⟨h', g, d, tk', os⟩) :
    codeAny (model prog w) A (.call (.builtin "object.__setattr__") ⟨[.ref x, .str name tk, v], []⟩) R ⟨hp, g, d, t, os⟩ := by
  have I : W.InstAt hp x { cls := .ref C, data := .fields fv } C none := ⟨hx, rfl, rfl, trivial⟩
  have SF := F.store_object
  have ne := refsKE_ne hm
  have hob : cd.mro.contains (.type "object") = true := (refsKE_contains "object" _ hm).trans (by decide +kernel)
  have hxs : x ≠ hp.objs.size := Nat.ne_of_lt (Heap.lt_size hx)
  have sub : W.Looks (model prog w) hp (isInstance (.ref x) (.type "object")) true := I.type.andThen (W.looks_mroIn X (by unfold W.mroIn; rw [hcd, Option.bind_some, if_neg (by rw [ne]; decide), hob]))
  refine codeAny_call_builtin SF.slot.plain SF.entry (@W.check_slot (model prog w) _ _ ⟨hp, g, d, t, os⟩ "object.__setattr__" "object" "__setattr__" (.ref x) [.str name tk, v] [] _ SF.kind SF.split sub (SF.args (.ref x) (.str name tk) v) ?_)
  have hmr : W.Looks (model prog w) hp (mroOf (.ref C)) cd.mro := (W.looks_clsIn X hcd).andThen .now
  have L3 : W.Looks (model prog w) hp (storeTaker? none) none := .now
  have hcls : W.Looks (model prog w) hp (classData C) cd := W.looks_clsIn X hcd
  rw [W.osa_eq, refuse_eq]
  refine wpAny_bind (wpAny_bind (I.type.at (wpAny_bind (hmr.at ?_))))
  rw [refsKE_pass _ _ hm]
  refine wpAny_pure (wpAny_bind (I.type.at (wpAny_bind ((W.looks_findIn X ha).at (wpAny_bind (L3.at ?_))))))
  show wpAny _ _ (storeInOwnDict (.ref x) (.ref C) (.str name tk) name v false) _ _ _
  obtain ⟨nm, bs, mro, ns, qn, hd, sn, sb, ab, col, del⟩ := cd
  dsimp only at hh
  subst hh
  unfold storeInOwnDict ownDictForStores
  repeat (first | with_reducible refine store_in_new ?_ ?_ | with_reducible refine wpAny_loadPart_at hx ?_ | with_reducible refine hcls.at ?_ | wp_step)
  · exact ⟨_, #[], _, (Heap.get?_update_ne _ _ _ _ hxs.symm).trans (Heap.get?_push_at rfl rfl), rfl, fun e he => absurd he (by simp), fun _ => rfl⟩
  · intro h' tk' hn' hs
    have hx₁ : (hp.push { cls := .type "dict", data := .dict #[] }).get? x = some { cls := .ref C, data := .fields fv } := Heap.get?_push_of_some _ hx
    refine hq h' tk' hp.objs.size (fun b o hb ho => ?_) (Nat.le_refl _) hxs.symm ?_ hn'
    · exact (hs.2 b (Nat.ne_of_lt (Heap.lt_size ho))).trans ((Heap.get?_update_ne _ _ _ _ hb).trans (Heap.get?_push_of_some _ ho))
    · exact (hs.2 x hxs).trans (Heap.get?_update_self _ hx₁ rfl)
/-- a further field of an exception that has its dict -/
theorem osaO {K : W.Frag} {name : Str} {tk : Tok} {v : Value} {x C dx : Addr} {fv : Array Value} {cd : ClassData} {m0 : Str → Option Value} {nl : List Str}
    (X : K.In hp) (hx : hp.get? x = some { cls := .ref C, dict := some dx, data := .fields fv }) (hns : hp.Ns1 dx m0) (hw : Within m0 nl) (hz : nl.length ≤ 1000) (hcd : W.clsIn K C = some cd) (hm : refsKE cd.mro = true) (hh : cd.hasDict = true)
    (ha : W.findIn K (.ref C) name = some none)
    (hq : ∀ h' tk', (∀ b o, b ≠ dx → hp.get? b = some o → h'.get? b = some o) → h'.Ns1 dx (fun y => if y = name then some v else m0 y) → R (.ok (.ret .none)) ⟨h', g, d, tk', os⟩) :
    codeAny (model prog w) A (.call (.builtin "object.__setattr__") ⟨[.ref x, .str name tk, v], []⟩) R ⟨hp, g, d, t, os⟩ := by
  obtain ⟨oD, esD, epD, hoD, hdD, _⟩ := hns.count hw
  have I : W.InstAt hp x { cls := .ref C, dict := some dx, data := .fields fv } C (some oD) := ⟨hx, rfl, rfl, hoD⟩
  have SF := F.store_object
  have ne := refsKE_ne hm
  have hob : cd.mro.contains (.type "object") = true := (refsKE_contains "object" _ hm).trans (by decide +kernel)
  have sub : W.Looks (model prog w) hp (isInstance (.ref x) (.type "object")) true := I.type.andThen (W.looks_mroIn X (by unfold W.mroIn; rw [hcd, Option.bind_some, if_neg (by rw [ne]; decide), hob]))
  refine codeAny_call_builtin SF.slot.plain SF.entry (@W.check_slot (model prog w) _ _ ⟨hp, g, d, t, os⟩ "object.__setattr__" "object" "__setattr__" (.ref x) [.str name tk, v] [] _ SF.kind SF.split sub (SF.args (.ref x) (.str name tk) v) ?_)
  have hmr : W.Looks (model prog w) hp (mroOf (.ref C)) cd.mro := (W.looks_clsIn X hcd).andThen .now
  have L3 : W.Looks (model prog w) hp (storeTaker? none) none := .now
  have hcls : W.Looks (model prog w) hp (classData C) cd := W.looks_clsIn X hcd
  rw [W.osa_eq, refuse_eq]
  refine wpAny_bind (wpAny_bind (I.type.at (wpAny_bind (hmr.at ?_))))
  rw [refsKE_pass _ _ hm]
  refine wpAny_pure (wpAny_bind (I.type.at (wpAny_bind ((W.looks_findIn X ha).at (wpAny_bind (L3.at ?_))))))
  show wpAny _ _ (storeInOwnDict (.ref x) (.ref C) (.str name tk) name v false) _ _ _
  obtain ⟨nm, bs, mro, ns, qn, hd, sn, sb, ab, col, del⟩ := cd
  dsimp only at hh
  subst hh
  unfold storeInOwnDict ownDictForStores
  repeat (first | with_reducible refine PySem.OEX.store_in_old hns hw hz ?_ | with_reducible refine wpAny_loadPart_at hx ?_ | with_reducible refine hcls.at ?_ | wp_step)
  intro h' tk' hn' hs
  exact hq h' tk' (fun b o hb ho => (hs.2 b hb).trans ho) hn'
end
end KeyX
end PySem

namespace L2
open PySem PySem.Spec PyProof.Rows
/-- what the written part says of the class -/
structure OexK (K : PySem.W.Frag) (C : Addr) : Prop where
  cls : ∃ nm q N bs bm sn sub ab col dd k0 k1 k2 k3 k5, K.lookup C = some (excClassObj nm q C N bs bm true sn sub ab col dd k0 k1 k2 k3 k5 "LookupError.__new__") ∧ PySem.KeyX.refsKE bm = true
  sa : PySem.W.findIn K (.ref C) "__setattr__" = some (some (.builtin "object.__setattr__"))
  exC : PySem.W.subIn K (.ref C) (.type "BaseException") = some true
  tyC : PySem.W.typeIn K (.ref C) = some (.type "type")
  kC : PySem.W.keepIn K (.ref C) = true
section
variable {X : Cx} {pins : List (Addr × Obj)} {σ : St} {H : Hp} {s : Shared} {a C dx : Addr} {f : Str} {y : V} {u : Value} {fs : List (Str × V)} {Q : Unit → Shared → Prop} {E : Value → Shared → Prop} {A : Around}
/-- self.f = y, the first one -/
theorem ostK_new (T : OexK X.K C) (I : Inv X pins σ H s) (e : H a = some (exo a C none)) (hno : PySem.W.findIn X.K (.ref C) f = some none) (ry : RelV y u)
    (h : ∀ dx s', H dx = none → dx ≠ a → Inv X pins σ (upd (upd H dx (exd dx [(f, y)])) a (exo a C (some dx))) s' → Q () s') : wpAny (model X.prog X.w) A (setAttr (.ref a) f u) Q E s := by
  obtain ⟨nm, q, N, bs, bm, sn, sub, ab, col, dd, k0, k1, k2, k3, k5, hC, hbm⟩ := T.cls
  have hcl : PySem.W.clsIn X.K C = some { name := nm, bases := bs, mro := .ref C :: bm, ns := N, qualname := q, hasDict := true, slotNames := sn, subclasses := sub, abstract := ab, collection := col, hasDel := false } := by unfold PySem.W.clsIn; rw [hC] <;> rfl
  obtain ⟨t1, ho⟩ := exo_at I.hok e
  obtain ⟨hp, g, d, t, os⟩ := s
  refine PySem.W.set_plain I.kIn (ox := { cls := .ref C, dict := none, data := .fields #[.ref t1, .none, .none, .none, .bool false, .none] }) (od := none) ⟨ho, rfl, rfl, trivial⟩ T.sa ?_
  refine PySem.KeyX.osaN I.kIn ho hcl (show PySem.KeyX.refsKE (.ref C :: bm) = true from hbm) rfl hno (fun h' tk' dx k dn dne hx hn => ?_)
  have hnd : H dx = none := I.hok.fresh dn
  have nd : ∀ {b : Addr} {o : Obj}, hp.get? b = some o → b ≠ dx := fun {b o} q => Nat.ne_of_lt (Nat.lt_of_lt_of_le (Heap.lt_size q) dn)
  have na : ∀ {b : Addr}, H b = none → b ≠ a := fun {b} n z => by
    rw [z, e] at n
    cases n
  have Un1 : Un X.fs [] H (upd (upd H dx (exd dx [(f, y)])) a (exo a C (some dx))) hp h' := {
    keep := fun b o q n _ _ => k b o (na n) q
    slot := fun b o q n _ _ => ⟨o.slots, k b o (na n) q⟩
    free := fun b o q n _ => by rw [upd_ne (na n), upd_ne (nd q)]; exact n
    there := fun b o q _ => by
      by_cases hb : b = a
      · exact ⟨_, by rw [hb]; exact hx⟩
      · exact ⟨o, k b o hb q⟩
    tups := fun b xs q => by rw [upd_ne (at_ne e q exo_tup), upd_ne (ne_of_none q hnd)]; exact q
    frzs := fun b o v q => by rw [upd_ne (at_ne e q exo_frz), upd_ne (ne_of_none q hnd)]; exact q
    tbls := fun b ps q => ⟨#[], by rw [upd_ne (at_ne e q exo_tbl), upd_ne (ne_of_none q hnd), q]; simp⟩ }
  refine h dx _ hnd dne (I.un (t' := tk') Un1 fun b o q => ?_)
  by_cases hb : b = a
  · subst hb
    rw [upd_same] at q
    cases q
    exact exo_ok hx
  · rw [upd_ne hb] at q
    by_cases hd : b = dx
    · subst hd
      rw [upd_same] at q
      cases q
      exact exd_ok hn (relO_put (fs := []) ry fun g => True.intro)
    · rw [upd_ne hd] at q
      exact (I.hok b o q).stay (fun c v hc z => k c v (by
          rcases hc with hc | hc
          · rw [hc]
            exact hb
          · exact at_ne e hc exo_own) z)
        (fun c hc => by rw [upd_ne (at_ne e hc exo_own), upd_ne (ne_of_none hc hnd)]; exact hc) (fun c xs hc => by rw [upd_ne (at_ne e hc exo_tup), upd_ne (ne_of_none hc hnd)]; exact hc)
/-- self.f = y, a further one -/
theorem ostK_old (T : OexK X.K C) (I : Inv X pins σ H s) (e : H a = some (exo a C (some dx))) (ed : H dx = some (exd dx fs)) (hl : fs.length ≤ 900) (hno : PySem.W.findIn X.K (.ref C) f = some none) (ry : RelV y u)
    (h : ∀ s', Inv X pins σ (upd H dx (exd dx ((f, y) :: fs))) s' → Q () s') : wpAny (model X.prog X.w) A (setAttr (.ref a) f u) Q E s := by
  obtain ⟨nm, q, N, bs, bm, sn, sub, ab, col, dd, k0, k1, k2, k3, k5, hC, hbm⟩ := T.cls
  have hcl : PySem.W.clsIn X.K C = some { name := nm, bases := bs, mro := .ref C :: bm, ns := N, qualname := q, hasDict := true, slotNames := sn, subclasses := sub, abstract := ab, collection := col, hasDel := false } := by unfold PySem.W.clsIn; rw [hC] <;> rfl
  obtain ⟨t1, ho⟩ := exo_at I.hok e
  obtain ⟨mA, hns, rel⟩ := exd_at I.hok ed
  have hw := within_of rel
  obtain ⟨hp, g, d, t, os⟩ := s
  obtain ⟨oD, _, _, hoD, _, _⟩ := hns.count hw
  refine PySem.W.set_plain I.kIn (ox := { cls := .ref C, dict := some dx, data := .fields #[.ref t1, .none, .none, .none, .bool false, .none] }) (od := some oD) ⟨ho, rfl, rfl, hoD⟩ T.sa ?_
  refine PySem.KeyX.osaO I.kIn ho hns hw (by rw [List.length_map]; omega) hcl (show PySem.KeyX.refsKE (.ref C :: bm) = true from hbm) rfl hno (fun h' tk' k hn => ?_)
  have hd : ∃ o, h'.get? dx = some o := by
    obtain ⟨o, _, _, e', _⟩ := hn
    exact ⟨o, e'⟩
  exact h _ (I.write (t' := tk') (x := dx) (e := dx) (o := exd dx ((f, y) :: fs)) (by rw [ed]; exact True.intro) (.inl rfl) k hd (exd_ok hn (relO_put ry rel)))
end
/-- self.f = e -/
def tOstK (K : PySem.W.Frag) (f : Str) (to te : TE) : TS := fun D σ H => te σ H fun y H1 => to σ H1 fun x H2 => ∃ a C : Addr, x = .ref a ∧ OexK K C ∧ PySem.W.findIn K (.ref C) f = some none ∧
  ((H2 a = some (exo a C none) ∧ ∀ dx, H2 dx = none → dx ≠ a → D.nx σ (upd (upd H2 dx (exd dx [(f, y)])) a (exo a C (some dx)))) ∨
    ∃ (dx : Addr) (fs : List (Str × V)), H2 a = some (exo a C (some dx)) ∧ H2 dx = some (exd dx fs) ∧ fs.length ≤ 900 ∧ D.nx σ (upd H2 dx (exd dx ((f, y) :: fs))))
section
variable {X : Cx} {o e : Expr} {es : List Expr} {to te : TE} {ta : TA} {f : Str} {p p' p1 p2 pos : Pos}
theorem ps_ostK (ho : PE X o to) (he : PE X e te) (hs : swapsWith e (some (.Attribute o f p')) pos.line X.env = pure false := by rfl) : PS X (.Assign [.Attribute o f p'] e pos) (tOstK X.K f to te) := by
  refine ⟨fun pins s σ H D I h => ?_⟩
  refine plainObj_wpAny_Assign_Attribute (thn (he.run pins s σ H _ I h) fun v s1 ⟨y, H1, I1, r1, q1⟩ => thn (ho.run pins s1 σ H1 _ I1 q1) fun u s2 ⟨x, H2, I2, r2, a, C, ex, T, hno, q⟩ => ?_) hs
  subst ex
  obtain rfl : u = Value.ref a := r2
  rcases q with ⟨ea, q⟩ | ⟨dx, fs, ea, ed, hl, q⟩
  · exact ostK_new T I2 ea hno r1 fun dx s' n ne J => ⟨σ, _, J, q dx n ne⟩
  · exact ostK_old T I2 ea ed hl hno r1 fun s' J => ⟨σ, _, J, q⟩
theorem pmk_oexK {CX : CXT} {x : Str} {C fI : Addr} {k : Nat} {fd : FuncData} {ps : List Str} {sp : Sp} {ds : List Value} {dvs : List V} (T : OexK X.K C) (iC : PySem.W.findIn X.K (.ref C) "__init__" = some (some (.ref fI))) (tI : PySem.W.typeIn X.K (.ref fI) = some (.type "function"))
    (F1 : FnOk X.prog X.w X.K X.mg X.base CX k fI fd ps sp) (hr : Room (k + 1) X.A) (hb : Binds X.K fd ps ds) (hd : Vals dvs ds) (hx : Passes CX X (fun _ _ _ => False)) (hg : Gl X x) (hm : X.mg x = some (.ref C)) (ha : PA X (e :: es) ta)
    (hdb : (x == ("__debug__" : Str)) = false := by decide) (he : starEach (e :: es) X.env = (false, eval e X.env) :: starEach es X.env := by rfl) (hpl : (backTo pos (starEach es X.env)).any (·.1) = false := by rfl) :
    PMk X (.Call (.Name x p) (e :: es) [] pos) (tMkO C sp dvs ta) := by
  intro pins s σ H Q I h
  obtain ⟨nm, q, N, bs, bm, sn, sub, ab, col, dd, k0, k1, k2, k3, k5, hC, hbm⟩ := T.cls
  refine wpAny_Call_Name_kw (ld_glob I hg hm ?_ hdb)
  refine PySem.W.callWith_K (h₀ := X.base) I.ok.mod.kin T.kC (thn (ha.run pos pins s σ H _ I h) fun us s1 ⟨vs, H1, I1, r1, hz, q1⟩ => ⟨I1.kIn, ?_⟩) he hpl
  show wpAny _ _ (call (.ref C) us) _ _ _
  obtain ⟨hp, g, dr, tk, os⟩ := s1
  have hsz : hp.objs.size ≤ hp.objs.size + 1 := Nat.le_succ _
  have hn : H1 (hp.objs.size + 1) = none := I1.hok.fresh hsz
  have hq := q1 (hp.objs.size + 1) hn
  have kk : ∀ b o, hp.get? b = some o → ((hp.push (PySem.W.kdv_tup us)).push (PySem.HandSPX.excO C hp.objs.size)).get? b = some o := fun b o e => Heap.get?_push_of_some _ (Heap.get?_push_of_some _ e)
  have hget : ((hp.push (PySem.W.kdv_tup us)).push (PySem.HandSPX.excO C hp.objs.size)).get? (hp.objs.size + 1) = some (PySem.HandSPX.excO C hp.objs.size) := by heap_get
  have I2 : Inv X pins σ (upd H1 (hp.objs.size + 1) (exo (hp.objs.size + 1) C none)) ⟨(hp.push (PySem.W.kdv_tup us)).push (PySem.HandSPX.excO C hp.objs.size), g, dr, tk, os⟩ :=
    I1.laid (t' := tk) (a := hp.objs.size + 1) (o := exo (hp.objs.size + 1) C none) (h' := (hp.push (PySem.W.kdv_tup us)).push (PySem.HandSPX.excO C hp.objs.size)) kk hsz (exo_ok hget)
  have r2 : Vals (V.ref (hp.objs.size + 1) :: (vs ++ dvs)) (Value.ref (hp.objs.size + 1) :: (us ++ ds)) := .cons rfl (r1.append hd)
  have hl : (Value.ref (hp.objs.size + 1) :: us ++ ds).length = ps.length := by
    have e := r2.length
    rw [F1.len _ _ _ _ hq] at e
    exact e.symm
  have hus : us.length ≤ sizeLine := by
    rw [← Paired.length r1, sizeLine_eq]
    omega
  refine wpAny_call (PySem.KeyX.callO F.excBase_LookupError ((PySem.KeyX.refsKE_contains "LookupError" bm hbm).trans (by decide +kernel)) ((PySem.KeyX.refsKE_contains "AttributeError" bm hbm).trans (by decide +kernel)) ((PySem.KeyX.refsKE_contains "NameError" bm hbm).trans (by decide +kernel)) (I1.kIn _ _ hC) (PySem.W.looks_findIn I1.kIn iC) (fun self => PySem.W.bind_fn I1.kIn self tI) hus
    (codeAny_mono (F1.run _ X.stack _ _ ⟨Value.ref (hp.objs.size + 1) :: us, []⟩ (Value.ref (hp.objs.size + 1) :: (us ++ ds)) _ _ (fun _ _ _ => False) (hr.make C us []) (I2.env0.make C us []) (hb _ (Value.ref (hp.objs.size + 1) :: us) I2.kIn hl) r2 hq) fun r s' hq' => ?_))
  cases r with
  | error er => exact hx pins σ _ _ er s' I2 hq'
  | ok fl =>
    cases fl with
    | ret u =>
      obtain ⟨v, H2, os2, bare2, un2, hok2, rv, ev, d, fs, ea, ed, hd1, q2⟩ := hq'
      subst ev
      obtain ⟨h2, g2, d2, t2, os'⟩ := s'
      exact ⟨rv, mk_end (raises_own T.exC T.tyC) I1 hsz kk un2 hok2 os2 bare2 ea ed hd1 q2⟩
    | next => exact False.elim hq'
    | brk => exact False.elim hq'
    | cont => exact False.elim hq'
end
end L2
-- RTup
set_option Elab.async false
set_option linter.all false
set_option maxRecDepth 100000
set_option maxHeartbeats 400000
/-! tuples whose objects are known to bear no dict of their own; dict() of a tuple of pairs -/
namespace Ft
open PySem PySem.Spec PyProof.Rows L2
/-- a tuple at a, its object known -/
def FT (H : Hp) (a : Addr) (xs : List V) : Prop := ∃ o : Obj, H a = some (.frz o (.tup xs)) ∧ o.dict = none
theorem FT.sq {K : PySem.W.Frag} {H : Hp} {a : Addr} {xs : List V} (h : FT H a xs) : SqT K H a xs := let ⟨o, e, _⟩ := h; .inl (.inr ⟨o, e⟩)
theorem FT.ext {H H' : Hp} {a : Addr} {xs : List V} (h : FT H a xs) (e : ∀ b o, H b = some o → H' b = some o) : FT H' a xs := let ⟨o, h1, h2⟩ := h; ⟨o, e _ _ h1, h2⟩
def tTupF (t : TA) : TE := fun σ H Q => t σ H fun xs H1 => xs.length ≤ sizeLine ∧ ∀ p o, H1 p = none → o.dict = none → Q (.ref p) (upd H1 p (.frz o (.tup xs)))
section
variable {X : Cx} {es : List Expr} {t : TA} {pos : Pos}
theorem frz_ok {h : Heap} {H : Hp} {its : List Value} {xs : List V} (z : xs.length ≤ sizeLine) (r : Vals xs its) : ObjOk X.prog X.w H (h.push { cls := .type "tuple", data := .seq its.toArray }) h.objs.size (.frz { cls := .type "tuple", data := .seq its.toArray } (.tup xs)) :=
  ⟨Heap.get?_push_size _ rfl, z, its, r, IsTup.new _ _⟩
theorem pe_tupF {x1} (h : PA X es t) : PE X (.Tuple es x1 pos) (tTupF t) := by
  refine ⟨fun pins s σ H Q I hq => ?_⟩
  refine wpAny_Tuple_spliced (thn (h.run pos pins s σ H _ I hq) fun us s1 ⟨xs, H1, I1, r, z, q⟩ => ⟨by rw [← r.length]; exact z, ?_⟩)
  have hf : H1 s1.heap.objs.size = none := I1.hok.fresh (Nat.le_refl _)
  exact ⟨.ref s1.heap.objs.size, _, I1.laid (t' := s1.toks) (fun b u e => Heap.get?_push_of_some _ e) (Nat.le_refl _) (frz_ok z r), rfl, q _ _ hf rfl⟩
/-- tuple(xs) of a list -/
theorem call_tupleF : CallR X (.type "tuple") (fun xs H Q => ∃ p ys, xs = [.ref p] ∧ SqL X.K H p ys ∧ ∀ l o, H l = none → o.dict = none → Q (.ref l) (upd H l (.frz o (.tup ys)))) := by
  intro pins s σ H xs us Q I r h
  obtain ⟨p, ys, rfl, hq, q⟩ := h
  obtain ⟨u, rfl, rx⟩ := vals1 r
  cases rx
  obtain ⟨its, r', pl, hz⟩ := I.list hq
  have hlen := r'.length
  refine call_tuple_list pl.isList (fun h' kp => ?_) (by simp only [List.size_toArray] <;> omega)
  have I1 : Inv X pins σ H { s with heap := h' } := I.kept (t' := s.toks) kp
  exact ⟨.ref h'.objs.size, _, I1.laid (t' := s.toks) (fun b o e => Heap.get?_push_of_some _ e) (Nat.le_refl _) (frz_ok hz r'), rfl, q _ _ (I1.hok.fresh (Nat.le_refl _)) rfl⟩
/-- t + u -/
def rCatF (K : PySem.W.Frag) : R2 := fun x y H Q => ∃ a b xs ys, x = .ref a ∧ y = .ref b ∧ SqT K H a xs ∧ SqT K H b ys ∧ xs.length + ys.length ≤ sizeLine ∧
  (xs = [] → Q (.ref b) H) ∧ (xs ≠ [] → ys = [] → Q (.ref a) H) ∧ (xs ≠ [] → ys ≠ [] → ∀ p o, H p = none → o.dict = none → Q (.ref p) (upd H p (.frz o (.tup (xs ++ ys)))))
theorem op_catF : OpR X (binaryOp .Add) (rCatF X.K) := by
  intro pins s σ H x y v u Q I rx ry h
  obtain ⟨a, b, xs, ys, rfl, rfl, ha, hb, hz, q0, q1, q2⟩ := h
  cases rx
  cases ry
  obtain ⟨its, r1, p1, _⟩ := I.tuple ha
  obtain ⟨its2, r2, p2, _⟩ := I.tuple hb
  by_cases hx : xs = []
  · subst hx
    cases r1
    exact cat_tup0 p1 p2 ⟨.ref b, H, I, rfl, q0 rfl⟩
  · have l1 := r1.length
    have l2 := r2.length
    refine HT.cat_tup p1 p2 (fun z => hx (List.length_eq_zero_iff.mp (by rw [l1, z]; rfl))) (fun z => ?_) (fun z => ?_) (by omega)
    · exact ⟨.ref a, H, I, rfl, q1 hx (List.length_eq_zero_iff.mp (by rw [l2, z]; rfl))⟩
    · have hne : ys ≠ [] := fun e => z (List.length_eq_zero_iff.mp (by rw [← l2, e]; rfl))
      exact ⟨.ref s.heap.objs.size, _, I.laid (t' := s.toks) (fun b o e => Heap.get?_push_of_some _ e) (Nat.le_refl _) (frz_ok (by rw [List.length_append]; exact hz) (r1.append r2)), rfl, q2 hx hne _ _ (I.hok.fresh (Nat.le_refl _)) rfl⟩
theorem pairsF {pins : List (Addr × Obj)} {σ : L2.St} {H : Hp} {s : Shared} (I : Inv X pins σ H s) : ∀ {ps : List Addr} {kvs : List (Key × V)}, Paired (fun p kv => SqT X.K H p [kV kv.1, kv.2]) ps kvs →
    ∃ (uvs : List (Value × Value)) (prs : List (Key × Value)), KV kvs prs ∧ uvs.length = ps.length ∧ prs.length = ps.length ∧ ∀ (j : Nat) (k v : Value), uvs[j]? = some (k, v) → ∃ (b : Addr) (key : Key), ps[j]? = some b ∧ IsTup s.heap b #[k, v] ∧ prs[j]? = some (key, v) ∧ keyIs key k = true
  | _, _, .nil => ⟨[], [], .nil, rfl, rfl, fun j k v e => by simp at e⟩
  | _, _, .cons (a := p) (b := kv) h t => by
    obtain ⟨uvs, prs, r, hl, hl2, hp⟩ := pairsF I t
    obtain ⟨its, rv, ht, _⟩ := I.tuple h
    obtain ⟨u, y, ei, ru, ry⟩ := vals2 rv
    subst ei
    refine ⟨(u, y) :: uvs, (kv.1, y) :: prs, .cons ⟨rfl, ry⟩ r, by rw [List.length_cons, List.length_cons, hl], by rw [List.length_cons, List.length_cons, hl2], fun j k v e => ?_⟩
    cases j with
    | zero =>
      have e' : (u, y) = (k, v) := Option.some.inj e
      cases e'
      exact ⟨p, kv.1, rfl, ht, rfl, kV_is (P := X.prog) (w := X.w) ru⟩
    | succ j =>
      obtain ⟨b, key, e1, e2, e3, e4⟩ := hp j k v (by simpa using e)
      exact ⟨b, key, by simpa using e1, e2, by simpa using e3, e4⟩
/-- dict(t) of a tuple of pairs -/
theorem call_dictF (hcalm : X.calm = true) : CallR X (.type "dict") (fun xs H Q => ∃ (a : Addr) (ps : List Addr) (kvs : List (Key × V)), xs = [.ref a] ∧ FT H a (ps.map V.ref) ∧ Paired (fun p kv => SqT X.K H p [kV kv.1, kv.2]) ps kvs ∧
    ∀ p, H p = none → Q (.ref p) (upd H p (.dK (mergeK [] kvs)))) := by
  intro pins s σ H xs us Q I r q
  obtain ⟨a, ps, kvs, ex, ⟨o, ho, hd⟩, hp, q⟩ := q
  subst ex
  obtain ⟨u, eu, rx⟩ := vals1 r
  subst eu
  cases rx
  obtain ⟨hget, hz, its, rv, o', ho', hc, n, hdat⟩ := I.hok a _ ho
  rw [hget] at ho'
  cases ho'
  have ei := refs_at rv
  subst ei
  rw [List.length_map] at hz
  obtain ⟨uvs, prs, rel, hl, hl2, hpr⟩ := pairsF I hp
  refine PySem.call_dict_pairs (knd := mixKind X.prog X.w) (kvs := prs) (PySem.PairArg.tuple a (ps.map Value.ref).toArray (fun j => ps.getD j 0) uvs) (I.ok.hd hcalm) ⟨⟨o, n, hget, hc, hd, hdat⟩, by simp [hl], fun j k v e => ?_⟩ ⟨by rw [hl2, hl], fun i key v e => ?_⟩ (by rw [hl]; exact hz) fun h' tk hd' k => ?_
  · obtain ⟨b, key, e1, e2, e3, e4⟩ := hpr j k v e
    refine ⟨by simp [List.getD, e1], ?_⟩
    have e5 : ps.getD j 0 = b := by simp [List.getD, e1]
    show PairAt s.heap (ps.getD j 0) k v
    rw [e5]
    exact .inl e2
  · obtain ⟨b, key', e1, e2, e3, e4⟩ := hpr i key v e
    exact ⟨key', e3, e4⟩
  · have hm : (s.heap.objs.size == sysModules) = false := beq_eq_false_iff_ne.mpr (Nat.ne_of_gt I.big)
    have hlen : (mergeK [] kvs).length ≤ sizeLine := by
      refine Nat.le_trans (length_mergeK kvs []) ?_
      rw [List.length_nil, Nat.zero_add, rel.length, hl2]
      exact hz
    exact ⟨.ref s.heap.objs.size, upd H s.heap.objs.size (.dK (mergeK [] kvs)), I.laid (t' := tk) (fun b o e => k b o (by simp) e) (Nat.le_refl _) (show ObjOk X.prog X.w _ _ _ (.dK (mergeK [] kvs)) from ⟨hlen, hm, merged [] prs, KV.merge rel .nil, hd'⟩), rfl, q _ (I.hok.fresh (Nat.le_refl _))⟩
end
end Ft
-- REnum
set_option Elab.async false
set_option linter.all false
set_option maxRecDepth 100000
set_option maxHeartbeats 1000000
/-! enumerate of a tuple -/
namespace PySem
namespace En
open Sem (wp)
theorem meets_enum1 {v : Value} {o : Obj} {H : Heap → Prop} (B : Begins v o H) :
    Meets (Builtin.«enumerate.__new__» ⟨[.type "enumerate", v], []⟩) (fun _ R s => H s.heap ∧
      R (.ok (.ret (.ref (s.heap.push o).objs.size))) { s with heap := (s.heap.push o).push { cls := .type "enumerate", data := .fields #[.none, .bool false, .ref s.heap.objs.size, rawInt 0, .none, .none] } }) :=
  .of_wp fun prog w A R s h => by
    obtain ⟨hp, g, d, tk, os⟩ := s; obtain ⟨h1, h⟩ := h
    have hsub := sub_enumerate
    have q1 : ∀ {A' : Around} {E : Value → Shared → Prop} {Q : Value → Shared → Prop}, Q (.ref hp.objs.size) ⟨hp.push o, g, d, tk, os⟩ → wpAny (model prog w) A' (pyIter v) Q E ⟨hp, g, d, tk, os⟩ :=
      fun q => B.iter prog w _ _ ⟨hp, g, d, tk, os⟩ _ h1 q
    wp_walk using q1
    refine wpAny_stack_any fun st => wpAny_pure ?_
    split
    · rename_i c _ _ _ _ _
      cases (c == Value.type "enumerate")
      · wp_walk using q1
        exact ⟨_, rfl, h⟩
      · wp_walk using q1
        exact ⟨_, rfl, h⟩
    · wp_walk using q1
      exact ⟨_, rfl, h⟩
theorem enum1_begins {prog : Program} {w : World} {A : Around} {E : Value → Shared → Prop} {s : Shared} {v : Value} {o : Obj} {H : Heap → Prop} {Q : Value → Shared → Prop} (B : Begins v o H) (h1 : H s.heap)
    (h : ∀ h', IsEnum h' (s.heap.objs.size + 1) s.heap.objs.size 0 .none → h'.get? s.heap.objs.size = some o → h'.objs.size = s.heap.objs.size + 2 →
      (∀ b o, s.heap.get? b = some o → h'.get? b = some o) → Q (.ref (s.heap.objs.size + 1)) { s with heap := h' }) :
    wpAny (model prog w) A (call (.type "enumerate") [v]) Q E s := by
  refine callType_new F.called_enumerate (by decide) (F.typeCall_enumerate_1 _) (F.newCall_enumerate_1 _) (fun obj => F.args_object_init_2 obj _) F.entry_enumerate_new
    (meets_enum1 B) ⟨h1, ?_⟩
  have hz : (s.heap.push o).objs.size = s.heap.objs.size + 1 := Heap.size_push ..
  show _ ∧ _
  rw [hz]
  have he : IsEnum ((s.heap.push o).push { cls := .type "enumerate", data := .fields #[.none, .bool false, .ref s.heap.objs.size, rawInt 0, .none, .none] }) (s.heap.objs.size + 1) s.heap.objs.size 0 .none := by
    have := Heap.get?_push_size (s.heap.push o) (o := { cls := .type "enumerate", data := .fields #[.none, .bool false, .ref s.heap.objs.size, rawInt 0, .none, .none] }) rfl
    rw [hz] at this; exact this
  refine ⟨⟨_, he, rfl⟩, h _ he (Heap.get?_push_of_some _ (Heap.get?_push_size _ B.free)) (by rw [Heap.size_push, hz]) fun b o x => Heap.get?_push_of_some _ (Heap.get?_push_of_some _ x)⟩
end En
end PySem
namespace Ft
open PySem PySem.Spec PyProof.Rows L2
/-- the tuple at a, each item in a new pair -/
def IteT (K : PySem.W.Frag) (a : Addr) : It :=
  ⟨fun i H => ∃ (xs : List V) (x : V), SqT K H a xs ∧ xs[i]? = some x, fun i H v H' => ∃ T x, v = .ref T ∧ H T = none ∧ H' = upd H T (.tup [.int (i : Nat), x]) ∧ ∀ xs, SqT K H a xs → xs[i]? = some x, fun i H => ∃ xs : List V, SqT K H a xs ∧ xs.length ≤ i⟩
theorem turn_enumT {P : Program} {w : World} {K : PySem.W.Frag} {elts : List Expr} {kk : Nat} {tpos : Pos} (a e it : Addr) :
    Turn P w K (.Tuple elts kk tpos) (IteT K a) [e, it] e (fun i h => (∃ old, IsEnum h e it ((i : Nat) : Int) old) ∧ h.IsTupleIter it a i ∧ e ≠ it) where
  mem := by simp
  obj := fun i h st b hb => by
    obtain ⟨⟨old, he⟩, ⟨o, ho, hc, hd⟩, _⟩ := st
    have e' : b = e ∨ b = it := by simpa using hb
    rcases e' with z | z
    · rw [z]; exact ⟨_, he, fun v q => nomatch q⟩
    · rw [z]; exact ⟨o, ho, fun v q => by rw [hd] at q; cases q⟩
  keep := fun i h h' st k => let ⟨⟨old, he⟩, ⟨o, ho, r⟩, hne⟩ := st; ⟨⟨old, k e (by simp) _ he⟩, ⟨o, k it (by simp) o ho, r⟩, hne⟩
  item := by
    intro X hP hw hK hc i pins s σ H E I hf st hg
    subst hP hw hK
    obtain ⟨⟨old, he⟩, hit, hne⟩ := st
    obtain ⟨xs, x, hq, hx⟩ := hg
    obtain ⟨its, rv, p, hz⟩ := I.tuple hq
    obtain ⟨u, hu, ru⟩ := rv.get hx
    have hel : e < s.heap.objs.size := Heap.lt_size he
    have hil : it < s.heap.objs.size := by obtain ⟨_, q, _⟩ := hit; exact Heap.lt_size q
    have hta : s.heap.IsTuple a its.toArray := p
    have nai : a ≠ it := fun z => by
      obtain ⟨o1, e1, c1, _⟩ := hta
      obtain ⟨o2, e2, c2, _⟩ := hit
      rw [z, e2] at e1
      cases e1
      rw [c2] at c1
      exact absurd c1 (by decide)
    have nae : e ≠ a := fun z => by
      obtain ⟨o1, e1, c1, _⟩ := hta
      have he' : s.heap.get? e = _ := he
      rw [z, e1] at he'
      have := Option.some.inj he'
      rw [this] at c1
      exact absurd (show Value.type "enumerate" = Value.type "tuple" from c1) (by decide)
    have hlt : i < its.toArray.size := by
      have := (List.getElem?_eq_some_iff.mp hu).1
      simpa using this
    refine wpAny_pyNext_enum_itemD (Draws.tuple (A := X.A.in1) (I.ok.hd hc) it a nai its.toArray) he ⟨hit, hta⟩ hlt hne (by simp [hne, nae]) fun y h' tk hy ho hst hT hsz hk => ?_
    have ey : y = u := by
      have h1 : its[i]? = some y := by simpa using hy
      rw [hu] at h1
      exact (Option.some.inj h1).symm
    subst ey
    obtain ⟨hit', _⟩ := hst
    refine ⟨_, rfl, wpAny_letOwnedTupleGo_enum (s := { s with heap := h', toks := tk + 1 }) ho fun h'' he' sb => ?_⟩
    have hT2 : h''.get? s.heap.objs.size = some { cls := .type "tuple", data := .seq #[.int i tk, y] } := (sb.2 _ (Nat.ne_of_gt hel)).trans hT
    have new : ObjOk X.prog X.w (upd H s.heap.objs.size (.tup [.int (i : Nat), x])) h'' s.heap.objs.size (.tup [.int (i : Nat), x]) :=
      ⟨by show 2 ≤ sizeLine; decide, [.int i tk, y], .cons ⟨_, rfl⟩ (.cons ru .nil), ⟨_, hT2, rfl, _, rfl⟩⟩
    have I1 : Inv X pins σ (upd H s.heap.objs.size (.tup [.int (i : Nat), x])) { s with heap := h'', toks := tk + 1 } :=
      I.turnedNew (ch := [e, it]) (fun b ob hb q => (sb.2 b (fun z => hb (by simp [z]))).trans (hk b ob (fun z => hb (by simp [z])) (fun z => hb (by simp [z])) q)) hf (Nat.le_refl _) new
    refine ⟨.ref s.heap.objs.size, _, I1, rfl, ⟨_, x, rfl, I.hok.fresh (Nat.le_refl _), rfl, fun ys hy => by rw [I.tuple_inj hy hq]; exact hx⟩, ⟨⟨y, ?_⟩, ?_, hne⟩, fun b hb => ?_⟩
    · have e1 : ((i + 1 : Nat) : Int) = (i : Int) + 1 := by omega
      rw [e1]; exact he'
    · obtain ⟨o, q, r⟩ := hit'
      exact ⟨o, (sb.2 it (Ne.symm hne)).trans q, r⟩
    · have hb' : b < s.heap.objs.size := by
        have e' : b = e ∨ b = it := by simpa using hb
        rcases e' with z | z
        · rw [z]; exact hel
        · rw [z]; exact hil
      rw [upd_ne (Nat.ne_of_lt hb')]
      exact (hf b hb).1
  done := by
    intro X hP hw hK hc i pins s σ H E I hf st hg
    subst hP hw hK
    obtain ⟨⟨old, he⟩, hit, hne⟩ := st
    obtain ⟨xs, hq, hx⟩ := hg
    obtain ⟨its, rv, p, hz⟩ := I.tuple hq
    obtain ⟨f0, f1, f2, f3, f4, f5⟩ := hf it (by simp)
    have hl := rv.length
    have hta : s.heap.IsTuple a its.toArray := p
    have nai : a ≠ it := fun z => by
      obtain ⟨o1, e1, c1, _⟩ := hta
      obtain ⟨o2, e2, c2, _⟩ := hit
      rw [z, e2] at e1
      cases e1
      rw [c2] at c1
      exact absurd c1 (by decide)
    unfold pyNext
    have hT : s.TypeIs (.ref e) "enumerate" := ⟨_, he, rfl⟩
    refine wpAny_bind (wpAny_attempt (wpAny_callSpecial?_slot (name := Str.ofString "__next__") hT F.slot_enumerate_next
      (wpAny_call_entry F.slot_enumerate_next hT F.entry_enumerate_next ?_ (F.args_enumerate_next_1 _))))
    show wpAny _ _ (field (.ref e) 2 >>= _) _ _ _
    refine wpAny_bind (wpAny_field he rfl (x := .ref it) rfl ?_)
    refine wpAny_bind (wpAny_nextOf_tuple_end (A := X.A.in1) (I.ok.hd hc) hit hta (by simp; omega) fun h' x he' hx' => ?_)
    obtain ⟨o, ho, hc'⟩ := hx'
    refine wpAny_bind (wpAny_isInstance (T := "StopIteration") (b := true) ⟨o, ho, hc'⟩ isSubtype_stop ?_)
    exact wpAny_pure ⟨rfl, I.turned (t' := s.toks) (fun b o hb q => he' b o hb q) f0 f1 f3 f4 f5⟩
  self := fun A i s Q E st h => let ⟨⟨_, he⟩, _⟩ := st; wpAny_pyIter_enum he h
def iEnumT (K : PySem.W.Frag) (ta : TA) : TI := fun σ H R => ta σ H fun vs H1 => ∃ a xs, vs = [.ref a] ∧ SqT K H1 a xs ∧ R (IteT K a) H1
theorem pi_enumT {X : Cx} {e : Expr} {ta : TA} {p pos tpos : Pos} {elts : List Expr} {kk : Nat} (hg : Gl X "enumerate") (hm : X.mg "enumerate" = none) (ha : PA X [e] ta) (hs : starEach [e] X.env = [(false, eval e X.env)] := by rfl) :
    PI X (.Tuple elts kk tpos) (.Call (.Name "enumerate" p) [e] [] pos) (iEnumT X.K ta) := by
  refine ⟨fun pins s σ H R I h => ?_⟩
  refine Call_ (ld_blt I hg hm boot_enumerate (PyProof.Rows.callWith_type1 (thn (ha.run pos pins s σ H _ I h) fun us s1 ⟨vs, H1, I1, r1, q1⟩ => ?_) hs rfl))
  obtain ⟨a, xs, ex, hq, q⟩ := q1
  subst ex
  cases r1 with
  | cons r rr =>
    cases rr
    cases r
    obtain ⟨its, rv, p', hz⟩ := I1.tuple hq
    refine En.enum1_begins (begins_tuple a its.toArray) p' fun h' he hit hsz hk => wpAny_pyIter_enum he ?_
    have I2 : Inv X pins σ H1 { s1 with heap := h' } := I1.kept (t' := s1.toks) hk
    refine ⟨s1.heap.objs.size + 1, [s1.heap.objs.size + 1, s1.heap.objs.size], _, _, H1, rfl, I2, turn_enumT a (s1.heap.objs.size + 1) s1.heap.objs.size, ⟨⟨.none, he⟩, ⟨_, hit, rfl, rfl⟩, Nat.succ_ne_self _⟩, fun b hb => ?_, q⟩
    have e' : b = s1.heap.objs.size + 1 ∨ b = s1.heap.objs.size := by simpa using hb
    have hle : s1.heap.objs.size ≤ b := by
      rcases e' with z | z
      · rw [z]; exact Nat.le_add_right _ _
      · rw [z]; exact Nat.le_refl _
    exact I1.fpOk hle (I1.hok.fresh hle)
theorem walk_enumT {K : PySem.W.Frag} {a : Addr} {xs : List V} : Walk (IteT K a) xs.length (fun H => SqT K H a xs) (YPair (fun i => some (.int (i : Nat))) (fun i => xs[i]?)) := by
  refine ⟨fun i _ hi q => ⟨xs, xs[i], q, by simp [hi]⟩, fun _ q => ⟨xs, q, Nat.le_refl _⟩, fun i H v H' _ q y => ?_⟩
  obtain ⟨T, x, h1, h2, h3, h4⟩ := y
  exact ⟨T, .int (i : Nat), x, h1, h2, h3, rfl, h4 xs q⟩
end Ft
-- RMs
set_option Elab.async false
set_option linter.all false
set_option maxRecDepth 100000
set_option maxHeartbeats 400000
/-! a method call whose wish of exceptions hangs on the slots (a call in a try) -/
namespace Ms
open PySem PySem.Spec PyProof.Rows L2
def tMethS (C : Addr) (m : Str) (sp : Sp) (E : L2.St → XK) (ta : TE) (t : TA) : TE := fun σ H Q => ta σ H fun x H1 => ∃ a dx fs, x = .ref a ∧ H1 a = some (.ins C dx fs) ∧ fs.lookup m = none ∧ t σ H1 fun vs H2 => sp (x :: vs) H2 Q (E σ)
section
variable {X : Cx} {CX : CXT} {k : Nat} {f C : Addr} {fd : FuncData} {ps : List Str} {sp : Sp} {E : L2.St → XK} {m : Str} {pos apos : Pos} {e o : Expr} {es : List Expr} {ta : TE} {t : TA} {pl : Sem Bool}
theorem pe_methS (he : PE X o ta) (c : Cls X.K C) (hm : Meth X.K C m f)
    (F : FnOk X.prog X.w X.K X.mg X.base CX k f fd ps sp) (hr : Room k X.A) (hb : Binds X.K fd ps []) (hx : ∀ σ, PassesAt CX X σ (E σ)) (ha : PA X (e :: es) t)
    (hst : starEach (e :: es) X.env = (false, eval e X.env) :: starEach es X.env := by rfl) (hpl : (backTo pos (starEach es X.env)).any (·.1) = false := by rfl)
    (ht : eval (.Call (.Attribute o m apos) (e :: es) [] pos) X.env = (do
      let ov ← eval o X.env
      standAt apos.atName
      let (f, first) ← holding [ov] (getMethod ov m pl)
      callWith pos f first (backTo pos (starEach (e :: es) X.env)) (backToKw pos (keywordEach [] X.env))) := by rfl) :
    PE X (.Call (.Attribute o m apos) (e :: es) [] pos) (tMethS C m sp E ta t) := by
  refine ⟨fun pins s σ H Q I h => ?_⟩
  refine PySem.W.methodCall_KW (pl := pl) (thn (he.run pins s σ H _ I h) fun u s1 ⟨x, H1, I1, rx, a, dx, fs, ex, ea, l, q⟩ => ?_) ht
  subst ex
  obtain rfl : u = Value.ref a := rx
  refine getmeth_ok I1 ea c hm l ?_
  refine PySem.W.callWith_K (first := [.ref a]) (h₀ := X.base) I.ok.mod.kin hm.kp (thn (ha.run pos pins s1 σ H1 _ I1 q) fun us s2 ⟨vs, H2, I2, r, q2⟩ => ⟨I2.kIn, ?_⟩) hst hpl
  exact run_fnS (us := .ref a :: us) (vs := .ref a :: vs) F hr hb (hx σ) I2 (.cons rfl r) q2
theorem pe_methS0 (he : PE X o ta) (c : Cls X.K C) (hm : Meth X.K C m f)
    (F : FnOk X.prog X.w X.K X.mg X.base CX k f fd ps sp) (hr : Room k X.A) (hb : Binds X.K fd ps []) (hx : ∀ σ, PassesAt CX X σ (E σ))
    (ht : eval (.Call (.Attribute o m apos) [] [] pos) X.env = (do
      let ov ← eval o X.env
      standAt apos.atName
      let (f, first) ← holding [ov] (getMethod ov m pl)
      callWith pos f first (backTo pos (starEach [] X.env)) (backToKw pos (keywordEach [] X.env))) := by rfl) :
    PE X (.Call (.Attribute o m apos) [] [] pos) (tMethS C m sp E ta tNil) := by
  refine ⟨fun pins s σ H Q I h => ?_⟩
  refine PySem.W.methodCall_KW (pl := pl) (thn (he.run pins s σ H _ I h) fun u s1 ⟨x, H1, I1, rx, a, dx, fs, ex, ea, l, q⟩ => ?_) ht
  subst ex
  obtain rfl : u = Value.ref a := rx
  refine getmeth_ok I1 ea c hm l ?_
  exact PySem.W.callWith_K0 (first := [.ref a]) I1.kIn hm.kp (run_fnS (us := [.ref a]) (vs := [.ref a]) F hr hb (hx σ) I1 (.cons rfl .nil) q)
end
end Ms
-- REq
set_option Elab.async false
set_option linter.all false
set_option maxRecDepth 100000
set_option maxHeartbeats 400000
/-! == and != of two tuples (lists) of the same flat values -/
namespace Qx
open PySem PySem.Spec PyProof.Rows L2
def fpd : V → PyData
  | .bl b => .bool b
  | .int i => .int i
  | .str x => .str x
  | _ => .none
def okV : V → Bool
  | .non => true
  | .bl _ => true
  | .int _ => true
  | .str x => (PyData.str x).canLay0
  | _ => false
section
variable {K : PySem.W.Frag} {H : Hp} {Q : VK} {p q : Addr}
theorem dp1 : ∀ v : V, okV v = true → Dp K H v (fpd v) ∧ (fpd v).canLay0 = true ∧ (fpd v).depth = 0 ∧ PyData.eqv (fpd v) (fpd v) = true
  | .non, _ => ⟨.non, rfl, rfl, rfl⟩
  | .bl b, _ => ⟨.bl b, rfl, rfl, by simp [fpd, PyData.eqv]⟩
  | .int i, _ => ⟨.int i, rfl, rfl, by simp [fpd, PyData.eqv]⟩
  | .str x, h => ⟨.str x, h, rfl, by simp [fpd, PyData.eqv]⟩
  | .ref _, h => by cases h
  | .ty _, h => by cases h
theorem dpA : ∀ xs : List V, xs.all okV = true → DpAll K H xs (xs.map fpd) ∧ PyData.canLayAll0 (xs.map fpd) = true ∧ PyData.depthAll (xs.map fpd) = 0 ∧ PyData.eqvAll (xs.map fpd) (xs.map fpd) = true
  | [], _ => ⟨.nil, rfl, rfl, rfl⟩
  | v :: xs, h => by
    rw [List.all_cons, Bool.and_eq_true] at h
    obtain ⟨a1, a2, a3, a4⟩ := dp1 (K := K) (H := H) v h.1
    obtain ⟨b1, b2, b3, b4⟩ := dpA xs h.2
    refine ⟨.cons a1 b1, ?_, ?_, ?_⟩
    · simp only [List.map_cons, PyData.canLayAll0, a2, b2, Bool.and_self]
    · simp only [List.map_cons, PyData.depthAll, a3, b3, Nat.max_self]
    · simp only [List.map_cons, PyData.eqvAll, a4, b4, Bool.and_self]
include K H in
theorem shT {xs : List V} (h : xs.all okV = true) : SeqAt.shaped (.tuple (xs.map fpd)) = true := by
  obtain ⟨_, b2, b3, _⟩ := dpA (K := K) (H := H) xs h
  simp only [SeqAt.shaped, PyData.canLay0, PyData.depth, b2, b3]
  decide
include K H in
theorem shL {xs : List V} (h : xs.all okV = true) : SeqAt.shaped (.list (xs.map fpd)) = true := by
  obtain ⟨_, b2, b3, _⟩ := dpA (K := K) (H := H) xs h
  simp only [SeqAt.shaped, PyData.canLay0, PyData.depth, b2, b3]
  decide
theorem eqT {xs : List V} (hp : SqT K H p xs) (hq : SqT K H q xs) (ok : xs.all okV = true) (k : Q (.bl true) H) : rEqD K (.ref p) (.ref q) H Q :=
  ⟨_, _, .tup hp (dpA xs ok).1, .tup hq (dpA xs ok).1, shT (K := K) (H := H) ok, shT (K := K) (H := H) ok, by rw [show PyData.eqv (.tuple (xs.map fpd)) (.tuple (xs.map fpd)) = true from (dpA (K := K) (H := H) xs ok).2.2.2]; exact k⟩
theorem neT {xs : List V} (hp : SqT K H p xs) (hq : SqT K H q xs) (ok : xs.all okV = true) (k : Q (.bl false) H) : rNeD K (.ref p) (.ref q) H Q :=
  ⟨_, _, .tup hp (dpA xs ok).1, .tup hq (dpA xs ok).1, shT (K := K) (H := H) ok, shT (K := K) (H := H) ok, by rw [show PyData.eqv (.tuple (xs.map fpd)) (.tuple (xs.map fpd)) = true from (dpA (K := K) (H := H) xs ok).2.2.2]; exact k⟩
theorem eqL {xs : List V} (hp : SqL K H p xs) (hq : SqL K H q xs) (ok : xs.all okV = true) (k : Q (.bl true) H) : rEqD K (.ref p) (.ref q) H Q :=
  ⟨_, _, .lst hp (dpA xs ok).1, .lst hq (dpA xs ok).1, shL (K := K) (H := H) ok, shL (K := K) (H := H) ok, by rw [show PyData.eqv (.list (xs.map fpd)) (.list (xs.map fpd)) = true from (dpA (K := K) (H := H) xs ok).2.2.2]; exact k⟩
theorem eqF {v : V} (ok : okV v = true) (k : Q (.bl true) H) : rEqD K v v H Q :=
  ⟨_, _, (dp1 v ok).1, (dp1 v ok).1, by simp only [SeqAt.shaped, (dp1 (K := K) (H := H) v ok).2.1, (dp1 (K := K) (H := H) v ok).2.2.1]; decide, by simp only [SeqAt.shaped, (dp1 (K := K) (H := H) v ok).2.1, (dp1 (K := K) (H := H) v ok).2.2.1]; decide, by rw [(dp1 (K := K) (H := H) v ok).2.2.2]; exact k⟩
end
end Qx
-- RLen
set_option Elab.async false
set_option linter.all false
set_option maxRecDepth 100000
set_option maxHeartbeats 400000
/-! len(x), x an instance of an own class that has its own __len__ -/
namespace Nx
open PySem PySem.Spec PyProof.Rows L2
open Builtin
section
variable {X : Cx} {CX : CXT} {k : Nat} {f C : Addr} {fd : FuncData} {ps : List Str} {sp : Sp} {E : XK}
theorem call_lenI (F : FnOk X.prog X.w X.K X.mg X.base CX k f fd ps sp) (hr : Room (k + 1) X.A) (hb : Binds X.K fd ps []) (hx : Passes CX X E) (sl : PySem.W.findIn X.K (.ref C) "__len__" = some (some (.ref f))) (fn : PySem.W.isFn X.K (.ref f) = true) :
    CallR X (.builtin "len") (fun xs H Q => ∃ a dx fs, xs = [.ref a] ∧ H a = some (.ins C dx fs) ∧ sp [.ref a] H (fun v H' => ∃ n, v = .int n ∧ 0 ≤ n ∧ n < 2 ^ 63 ∧ Q (.int n) H') E) := by
  intro pins s σ H xs us Q I r h
  obtain ⟨a, dx, fs, rfl, ea, q⟩ := h
  obtain ⟨u, rfl, ru⟩ := vals1 r
  obtain rfl : u = Value.ref a := ru
  obtain ⟨mA, O, _, _, _, _⟩ := ins_get I.hok ea
  obtain ⟨od, J, _⟩ := O.look
  have hl : [Value.ref a].length = ps.length := by rw [← F.len _ _ _ _ q]; rfl
  have b := hb s [Value.ref a] I.kIn (by rw [List.append_nil]; exact hl)
  rw [List.append_nil] at b
  refine Calls.call_function_entry kind_len plain_len entry_len (args_len1 _) ?_
  unfold Builtin.«len»
  refine wpAny_bind (m := oneArg "len" _) (wpAny_pure ?_)
  refine wpAny_bind (m := callSpecial? (.ref a) (Str.ofString "__len__")) (PySem.W.special_fn I.kIn J sl (beq_iff_eq.mp fn) ?_)
  refine wpAny_call (codeAny_mono (F.run _ X.stack _ _ ⟨[Value.ref a], []⟩ [Value.ref a] [V.ref a] _ E hr.in1 I.env0.in1 b (.cons rfl .nil) q) fun r s' hq => ?_)
  cases r with
  | error e => exact hx pins σ _ _ e s' I hq
  | ok fl =>
    cases fl with
    | ret u =>
      obtain ⟨v, H', I3, rv, n, ev, h0, h1, q3⟩ := I.after hq
      subst ev
      obtain ⟨t, rfl⟩ := (show ∃ t, u = Value.int n t from rv)
      refine wpAny_bind (wpAny_holding (wpAny_pure ?_))
      refine wpAny_bind (wpAny_letGo ?_)
      show wpAny _ _ (if n < 0 then _ else _) _ _ _
      rw [if_neg (by omega)]
      show wpAny _ _ (if n ≥ 2 ^ 63 then _ else _) _ _ _
      rw [if_neg (by omega)]
      exact wpAny_bind (wpAny_mkInt (wpAny_pure ⟨_, rfl, ⟨.int n, H', I3.tok _, ⟨_, rfl⟩, q3⟩⟩))
    | next => exact False.elim hq
    | brk => exact False.elim hq
    | cont => exact False.elim hq
end
end Nx
-- RNe
set_option Elab.async false
set_option linter.all false
set_option maxRecDepth 100000
set_option maxHeartbeats 400000
/-! a != a, a an instance of an own class without __eq__ and __ne__ -/
namespace Ne
open PySem PySem.Spec PyProof.Rows L2
section
variable {prog : Program} {w : World} {A : Around} {E : Value → Shared → Prop} {s : Shared} {K : PySem.W.Frag} {x C : Addr} {ox : Obj} {od : Option Obj} {name : Str} {i : String}
theorem ifBound_B {M : Model} {args : List Value} {Q : Option Value → Shared → Prop} (X : K.In s.heap) (I : PySem.W.InstAt s.heap x ox C od) (hs : PySem.W.findIn K (.ref C) name = some (some (.builtin i))) (hb : ∀ self, bindSpecial (.builtin i) self = pure (.builtin i, [self]))
    (h : wpAny M A (call (.builtin i) (.ref x :: args)) (fun v => Q (some v)) E s) : wpAny M A (callSpecialIfBound? (.ref x) name args) Q E s := by
  simp only [callSpecialIfBound?, bindSpecialIfBound?]
  refine wpAny_holding (wpAny_bind (wpAny_bind (wpAny_bind (I.type.here ((PySem.W.looks_findIn X hs).here ?_)))))
  simp only [hb]
  refine wpAny_bind (wpAny_askSetting (wpAny_ite ?_))
  have fin : wpAny M A (call (.builtin i) ([.ref x] ++ args) >>= fun v => pure (some v)) Q E s := wpAny_bind (wpAny_mono h (fun v s' h' => wpAny_pure h') fun _ _ h' => h')
  split
  · exact wpAny_bind (wpAny_pure (wpAny_pure (by exact fin)))
  · exact wpAny_tryCatch (wpAny_bind (wpAny_pure (wpAny_pure (by exact fin))))
theorem ne_same {Q : Value → Shared → Prop} (hu : A.units + 1 < cLine) (X : K.In s.heap) (I : PySem.W.InstAt s.heap x ox C od) (hne : PySem.W.findIn K (.ref C) "__ne__" = some (some (.builtin "object.__ne__"))) (heq : PySem.W.findIn K (.ref C) "__eq__" = some (some (.builtin "object.__eq__")))
    (hm : PySem.W.mroIn K C (.type "object") = some true) (hq : Q (.bool false) s) : wpAny (model prog w) A (richCompare .NotEq (.ref x) (.ref x)) Q E s := by
  have sub : PySem.W.Looks (model prog w) s.heap (isInstance (.ref x) (.type "object")) true := I.type.andThen (PySem.W.looks_mroIn X hm)
  have hu0 : A.units < cLine := Nat.lt_of_succ_lt hu
  have eqs : ∀ {A : Around} {Q : Option Value → Shared → Prop}, Q (some (.bool true)) s → wpAny (model prog w) A (callSpecialIfBound? (.ref x) "__eq__" [.ref x]) Q E s := fun {A Q} q =>
    ifBound_B X I heq F.cmp_object.eq.bind (wpAny_call (codeAny_call_builtin F.cmp_object.eq.plain F.cmpEntry_eq (PySem.W.check_slot F.cmpKind_eq F.cmpSplit_eq sub (F.cmpArgs_eq _ _) (objEq_entry_same q))))
  have nes : ∀ {Q : Option Value → Shared → Prop}, Q (some (.bool false)) s → wpAny (model prog w) A (callSpecialIfBound? (.ref x) "__ne__" [.ref x]) Q E s := fun {Q} q =>
    ifBound_B X I hne F.cmp_object.ne.bind (wpAny_call (codeAny_call_builtin F.cmp_object.ne.plain F.cmpEntry_ne (PySem.W.check_slot F.cmpKind_ne F.cmpSplit_ne sub (F.cmpArgs_ne _ _) (by
      unfold Builtin.«object.__ne__»
      repeat (first | with_reducible refine wpAny_cRoomFor (A := A.in1) hu ?_ | with_reducible refine eqs ?_ | wp_step)
      exact q))))
  simp only [richCompare, cmpInfo_NotEq, oneThing_ref]
  refine wpAny_holding (wpAny_bind (wpAny_cRoomFor hu0 ?_))
  refine wpAny_bind (I.type.here (wpAny_bind (I.type.here ?_)))
  rw [if_neg (by simp)]
  refine wpAny_bind (wpAny_pure ?_)
  simp only [Bool.false_eq_true, if_false, tryCompare]
  refine wpAny_bind (wpAny_bind (nes (wpAny_pure ?_)))
  exact wpAny_pure hq
end
section
variable {X : Cx} {C : Addr}
/-- what != of two instances asks of the class at C -/
structure NeC (K : PySem.W.Frag) (C : Addr) : Prop where
  ne : PySem.W.findIn K (.ref C) "__ne__" = some (some (.builtin "object.__ne__"))
  eq : PySem.W.findIn K (.ref C) "__eq__" = some (some (.builtin "object.__eq__"))
  mo : PySem.W.mroIn K C (.type "object") = some true
def neB (K : PySem.W.Frag) (C : Addr) : Bool := decide (PySem.W.findIn K (.ref C) "__ne__" = some (some (.builtin "object.__ne__"))) && (decide (PySem.W.findIn K (.ref C) "__eq__" = some (some (.builtin "object.__eq__"))) && decide (PySem.W.mroIn K C (.type "object") = some true))
theorem neB_ok {K : PySem.W.Frag} {C : Addr} (h : neB K C = true) : NeC K C := by
  obtain ⟨h1, h⟩ := Bool.and_eq_true_iff.mp h
  obtain ⟨h2, h3⟩ := Bool.and_eq_true_iff.mp h
  exact ⟨of_decide_eq_true h1, of_decide_eq_true h2, of_decide_eq_true h3⟩
/-- a != a -/
def rNeSelf (C : Addr) : R2 := fun x y H Q => ∃ a dx fs, x = .ref a ∧ y = .ref a ∧ H a = some (.ins C dx fs) ∧ Q (.bl false) H
theorem op_neSelf (hu : X.A.units + 1 < cLine) (c : NeC X.K C) : OpR X (compareOp .NotEq) (rNeSelf C) := by
  intro pins s σ H x y v u Q I rx ry h
  obtain ⟨a, dx, fs, rfl, rfl, ea, q⟩ := h
  cases (show v = Value.ref a from rx)
  cases (show u = Value.ref a from ry)
  obtain ⟨mA, O, _, _, _, _⟩ := ins_get I.hok ea
  obtain ⟨od, J, _⟩ := O.look
  exact PySem.W.cmp_ofNotEq (ne_same hu I.kIn J c.ne c.eq c.mo ⟨.bl false, H, I, rfl, q⟩)
end
end Ne
-- RVal
set_option Elab.async false
set_option linter.all false
set_option maxRecDepth 100000
set_option maxHeartbeats 1000000
/-! tuple(o.values()) of an empty dict; a dict comprehension of two fors over an empty list -/
namespace Vl
open PySem PySem.Spec PyProof.Rows L2
section
variable {prog : Program} {w : World} {A : Around} {E : Value → Shared → Prop} {s : Shared} {T : String} {r d : Addr} {Pi : Nat → Value → Prop} {OK : Heap → Prop}
/-- what is drawn of a source that has nothing -/
theorem drawn0 {Q : List Value → Shared → Prop} (K : PySem.W.KdlSrc prog w T r d 0 Pi OK) (hh : A.handled = none) (ok : OK s.heap)
    (hQ : ∀ (h1 : Heap) (t1 : Nat), (∀ b o, s.heap.get? b = some o → h1.get? b = some o) → Q [] { s with heap := h1, toks := t1 }) : wpAny (model prog w) A (collect (.ref r)) Q E s := by
  obtain ⟨lr, ld⟩ := K.there _ ok
  unfold collect
  refine wpAny_bind (wpAny_runValue (codeAny_builtin F.entry_proto_collect ?_)); rw [Around.under_plainId F.plain_proto_collect _]
  show wpAny _ A.in1 (newList [] >>= fun l1 => again (.builtin "list.__iadd__" ⟨[l1, .ref r], []⟩)) _ _ s
  refine wpAny_bind (wpAny_newObj_type (wpAny_pure ⟨plainId_quiet F.plain_list_iadd _, codeAny_builtin F.entry_list_iadd ?_⟩))
  rw [Around.under_plainId F.plain_list_iadd _]
  generalize hS : s.heap.objs.size = S
  have at_ : (s.heap.push { cls := .type "list", data := .seq ([] : List Value).toArray }).get? S = some { cls := .type "list", data := .seq #[] 0 } := by rw [← hS]; exact Heap.get?_push_size _ rfl
  have up : ∀ b o, s.heap.get? b = some o → (s.heap.push { cls := .type "list", data := .seq ([] : List Value).toArray }).get? b = some o := fun b o e => Heap.get?_push_of_some _ e
  have key := PySem.W.kdl_extend (A := A) (s := { s with heap := s.heap.push { cls := .type "list", data := .seq ([] : List Value).toArray } }) K hh (K.keep _ _ ok fun b _ o e => up b o e) S (by rw [← hS]; exact Nat.ne_of_gt lr) (by rw [← hS]; exact Nat.ne_of_gt ld) (.ref S) 0 at_
    (R := fun rr s2 => rr = .ok (.ret (.ref S)) ∧ ∃ (h1 : Heap) (t1 c1 : Nat), s2 = { s with heap := h1, toks := t1 } ∧ (∀ b o, s.heap.get? b = some o → h1.get? b = some o) ∧ h1.get? S = some { cls := .type "list", dict := none, data := .seq #[] c1, slots := #[] })
    (fun h1 t1 acc c1 kk e it => by
      have z : acc = #[] := Array.eq_empty_of_size_eq_zero it.1
      subst z
      exact ⟨rfl, h1, t1, c1, rfl, fun b o q => kk b o (by rw [← hS]; exact Nat.ne_of_lt (Heap.lt_size q)) (up b o q), e⟩) (Nat.zero_le _)
  show wpAny _ A.in1 (Builtin.List.listExtendWith (.ref S) (.ref r) (.ref S)) _ _ _
  have fin : ∀ {rr : Result} {s2 : Shared}, (rr = .ok (.ret (.ref S)) ∧ ∃ (h1 : Heap) (t1 c1 : Nat), s2 = { s with heap := h1, toks := t1 } ∧ (∀ b o, s.heap.get? b = some o → h1.get? b = some o) ∧ h1.get? S = some { cls := .type "list", dict := none, data := .seq #[] c1, slots := #[] }) →
      ∃ (h1 : Heap) (t1 c1 : Nat), rr = .ok (.ret (.ref S)) ∧ s2 = { s with heap := h1, toks := t1 } ∧ (∀ b o, s.heap.get? b = some o → h1.get? b = some o) ∧ h1.get? S = some { cls := .type "list", dict := none, data := .seq #[] c1, slots := #[] } := fun ⟨a, h1, t1, c1, b, c, d⟩ => ⟨h1, t1, c1, a, b, c, d⟩
  refine wpAny_mono key (fun f2 s2 q => ?_) (fun e s2 q => absurd q.1 (by simp))
  cases f2 with
  | done f =>
    obtain ⟨h1, t1, c1, e, rfl, kk, at1⟩ := fin q
    cases e
    show wpAny _ A (load S >>= _) _ _ _
    exact wpAny_bind (wpAny_load at1 (wpAny_pure (hQ h1 t1 kk)))
  | again c' =>
    refine ⟨q.1, codeAny_mono q.2 fun rr s3 q3 => ?_⟩
    obtain ⟨h1, t1, c1, rfl, rfl, kk, at1⟩ := fin q3
    show wpAny _ A (load S >>= _) _ _ _
    exact wpAny_bind (wpAny_load at1 (wpAny_pure (hQ h1 t1 kk)))
/-- tuple(source) of such -/
theorem tuple0 {Q : Value → Shared → Prop} (K : PySem.W.KdlSrc prog w "dict_values" r d 0 Pi OK) (hh : A.handled = none) (ok : OK s.heap)
    (hQ : ∀ (h1 : Heap) (t1 : Nat), (∀ b o, s.heap.get? b = some o → h1.get? b = some o) → Q (.ref h1.objs.size) { s with heap := h1.push { cls := .type "tuple", data := .seq #[] }, toks := t1 }) : wpAny (model prog w) A (call (.type "tuple") [.ref r]) Q E s := by
  refine callType_codes (Q₁ := fun ob s1 => s1.TypeIs ob "tuple" ∧ Q ob s1) F.called_tuple (F.typeCall_tuple_1 _) F.entry_object_init ?_ fun ob s1 h1 => ⟨h1.1, F.args_object_init_2 ob _, object_init_meets F.called_tuple.init.lookup F.called_tuple.made (by decide) prog w A.in1 _ s1 ⟨h1.1, rfl, h1.2⟩⟩
  refine codeAny_of_tree ?_
  show wpAny _ A.in1.in1 (do checkBuiltinCall "tuple.__new__" ⟨[.type "tuple", .ref r], []⟩; again (.builtin "tuple.__new__" ⟨[.type "tuple", .ref r], []⟩)) _ _ s
  refine wpAny_bind (wpAny_of_eq (F.newCall_tuple_1 _) (wpAny_pure ⟨plainId_quiet F.plain_tuple_new _, codeAny_builtin F.entry_tuple_new ?_⟩)); rw [Around.under_plainId F.plain_tuple_new _]
  have hsub := sub_tuple_self; have hinit := init_tuple_lookup; have hmh := madeHere_tuple
  have hTI : s.TypeIs (.ref r) "dict_values" := K.type _ ok
  have hh2 : A.in1.in1.handled = none := hh
  wp_walk using wpAny_typeOf hTI, drawn0 (A := A.in1.in1) K hh2 ok
  intro h1 t1 kk
  show wpAny _ _ (Builtin.Tuple.tupleExact ([] : List Value).toArray >>= fun v => ret v) _ _ _
  unfold Builtin.Tuple.tupleExact
  refine wpAny_bind (wpAny_newObj_type (wpAny_pure ⟨⟨_, Heap.get?_push_size _ rfl, rfl⟩, hQ h1 t1 kk⟩) (by show 0 ≤ sizeLine; exact Nat.zero_le _))
end
section
variable {X : Cx} {o : Expr} {p pos apos mpos : Pos} {td : TE}
/-- tuple(o.values()), o a dict that holds nothing -/
def tTupVals (td : TE) : TE := fun σ H Q => td σ H fun x H1 => ∃ a, x = V.ref a ∧ H1 a = some (.dK []) ∧ ∀ p o, H1 p = none → o.dict = none → Q (.ref p) (upd H1 p (.frz o (.tup [])))
theorem pe_tupVals (hc : X.calm = true) (hg : Gl X "tuple") (hm : X.mg "tuple" = none) (hd : PE X o td) (hbase : attributeBase o "values" X.env (eval o X.env) = eval o X.env := by rfl) (hline : (apos.endLine == mpos.line) = true := by rfl)
    (hse : starEach [Expr.Call (.Attribute o "values" apos) [] [] mpos] X.env = [(false, eval (Expr.Call (.Attribute o "values" apos) [] [] mpos) X.env)] := by rfl) : PE X (.Call (.Name "tuple" p) [.Call (.Attribute o "values" apos) [] [] mpos] [] pos) (tTupVals td) := by
  refine ⟨fun pins s σ H Q I h => Call_ (ld_blt I hg hm boot_tuple ?_)⟩
  rw [hse]
  refine PySem.callWith_type1 (wpAny_Call_method0_late hbase hline (thn (hd.run pins s σ H _ I h) fun v s1 ⟨x, H1, I1, r1, a, ex, ha, q⟩ => ?_)); subst ex
  obtain rfl : v = Value.ref a := r1
  obtain ⟨_, hsys, us, rel, dof⟩ := dk_of I1.hok ha
  cases rel
  obtain ⟨ep, dat⟩ := dof.dictAt
  obtain ⟨ob, _, ho, hx, _⟩ := id dat
  refine ⟨"dict", "dict.values", F.plainAttrs_dict, F.slot_dict_values, F.type_dict_values, ⟨ob, ho, hx.1⟩, fun b e => by cases e; exact ⟨ob, ho, hx.2.1⟩, Calls.callWith_builtin rfl (PySem.evalArgs_none ?_)⟩
  refine call_meetsIn F.slot_dict_values ⟨ob, ho, hx.1⟩ F.entry_dict_values (F.args_dict_values_1 _) (meets_dict_values (mixKind X.prog X.w) a hsys) ⟨⟨[], dof⟩, ?_⟩
  have up : ∀ b u, s1.heap.get? b = some u → (s1.heap.push { cls := .type "dict_values", data := .fields #[.ref a] }).get? b = some u := fun b u e => Heap.get?_push_of_some _ e
  have src := PySem.W.kdl_values (prog := X.prog) (w := X.w) (knd := mixKind X.prog X.w) (r := s1.heap.objs.size) (d := a) (kvs := []) (ep := ep)
  refine tuple0 (s := { s1 with heap := s1.heap.push { cls := .type "dict_values", data := .fields #[.ref a] } }) src (I.ok.hd hc) ⟨⟨_, Heap.get?_push_size _ rfl, rfl, rfl⟩, dat.keep up⟩ fun h1 t1 kk => ?_
  have I2 : Inv X pins σ H1 { s1 with heap := h1, toks := t1 } := I1.kept (t' := t1) fun b u e => kk b u (up b u e)
  have hf : H1 h1.objs.size = none := I2.hok.fresh (Nat.le_refl _)
  exact ⟨.ref h1.objs.size, _, I2.laid (t' := t1) (fun b u e => Heap.get?_push_of_some _ e) (Nat.le_refl _) (Ft.frz_ok (X := X) (xs := []) (its := []) (Nat.zero_le _) .nil), rfl, q _ _ hf rfl⟩
end
section
variable {X : Cx} {kx vx tg iter : Expr} {ifs : List Expr} {rest : List Comprehension} {scope : Scope} {own : List (Str × Nat)} {pos : Pos} {wi : TI}
/-- {k: v for target in iter ..}, iter gives nothing -/
def tDc0 (wi : TI) : TE := fun σ H Q => wi σ H fun J H1 => ∀ D, H1 D = none → J.stop 0 (upd H1 D (.dK [])) ∧ Q (.ref D) (upd H1 D (.dK []))
theorem pe_dc0 (hc : X.calm = true) (hN : X.N.Nodup) (hi : PI X tg iter wi) (ok : BlkOk X.N X.env.scope scope own) (hs : ∀ x, foldedSetIterable iter X.env x = pure x := by intro _; rfl) : PE X (.DictComp kx vx (⟨tg, iter, ifs, 0⟩ :: rest) scope pos) (tDc0 wi) := by
  refine ⟨fun pins s σ H Q I h => ?_⟩
  rw [arm_eval_DictComp]
  have fr : ∀ y ∈ scope.names, y.2 = .free → ∃ c, X.env.cells.lookup y.1 = some c := fun y hy e => I.ok.has _ (ok.free y hy e)
  refine wpAny_comprehension_free rfl hs (closure_ok fr) ok.kind (fun y hy e => by rw [ok.uniq y hy, e]) (thn (hi.run pins s σ H _ I h) fun xv s1 hx => thn hx fun itv s2 ⟨it, fp, tn, J, H2, e, I2, T, st2, f2, q⟩ => ?_)
  subst e
  refine wpAny_newObj_type (newEnv_comp ?_)
  have hDn : H2 s2.heap.objs.size = none := I2.hok.fresh (Nat.le_refl _)
  obtain ⟨stop, qq⟩ := q _ hDn
  generalize hD : s2.heap.objs.size = D at stop qq hDn
  generalize hs3 : ({ s2 with heap := s2.heap.push { cls := .type "dict", data := .dict #[] } } : Shared) = s3
  have I3 : Inv X pins σ (upd H2 D (.dK [])) s3 := by
    subst hs3 hD
    exact I2.laid (t' := s2.toks) (fun b u e => Heap.get?_push_of_some _ e) (Nat.le_refl _) (dk_empty s2.heap I2.big)
  have h3 : s3.heap = s2.heap.push { cls := .type "dict", data := .dict #[] } := by rw [← hs3]
  have f3 : ∀ b ∈ fp, FpOk X pins (upd H2 D (.dK [])) b ∧ b < s3.heap.objs.size := fun b hb => by
    obtain ⟨u, e, _⟩ := T.obj _ _ st2 b hb
    have lt := Heap.lt_size e
    exact ⟨⟨by rw [upd_ne (by rw [← hD]; exact Nat.ne_of_lt lt)]; exact (f2 b hb).1, (f2 b hb).2⟩, by rw [h3, Heap.size_push]; exact Nat.lt_succ_of_lt lt⟩
  have st3 : tn 0 s3.heap := T.keep _ _ _ st2 fun b _ u e => by rw [h3]; exact Heap.get?_push_of_some _ e
  have I4 := block_start I3 ok hN f3
  have nfp : ∀ b ∈ fp, (upd H2 D (.dK [])) b = none := fun b hb => (f3 b hb).1.1
  show codeAny _ _ (.compStart (.DictComp kx vx (⟨tg, iter, ifs, 0⟩ :: rest) scope pos) 0 (.ref it) (.ref D) (compEnvC scope (cellsFrom (s3.heap.objs.size + 1) scope.names (cloFrom X.env.cells scope.names [])) s3.heap.objs.size X.env)) _
    { s3 with heap := pushCells (s3.heap.push { cls := .type "dict", data := .dict #[] }) scope.names }
  have cL : (compEnvC scope (cellsFrom (s3.heap.objs.size + 1) scope.names (cloFrom X.env.cells scope.names [])) s3.heap.objs.size X.env).locals = s3.heap.objs.size := rfl
  generalize compEnvC scope (cellsFrom (s3.heap.objs.size + 1) scope.names (cloFrom X.env.cells scope.names [])) s3.heap.objs.size X.env = ce at I4 cL ⊢
  have st4 : tn 0 (pushCells (s3.heap.push { cls := .type "dict", data := .dict #[] }) scope.names) := T.keep _ _ _ st3 fun b _ u e => pushCells_keeps _ _ _ _ (Heap.get?_push_of_some _ e)
  generalize (pushCells (s3.heap.push { cls := .type "dict", data := .dict #[] }) scope.names) = h4 at I4 st4 ⊢
  have loop : codeAny (model X.prog X.w) X.A (.compLoop (.DictComp kx vx (⟨tg, iter, ifs, 0⟩ :: rest) scope pos) 0 (.ref it) (.ref D) ce) (compPost (model X.prog X.w) X.A X.xe none (EP X pins σ Q) (.ref D) s3.heap.objs.size) { s3 with heap := h4 } := by
    refine codeAny_loop rfl (fun _ s5 => s5 = { s3 with heap := h4 }) (fun n s5 e5 => ?_) 0 rfl
    subst e5
    show wpAny _ X.A ((compTurn (.DictComp kx vx (⟨tg, iter, ifs, 0⟩ :: rest) scope pos) 0 (.ref it) (.ref D) ce).onRaise (fun x => do noteFrame x ce; theTreesLotGoes x)) _ _ _
    refine wpAny_noted ?_
    unfold compTurn
    refine wpAny_bind (wpAny_standAt (wpAny_bind ?_))
    refine thnF (T.done (X.blk s3 (upd H2 D (.dK [])) scope ce fp) rfl rfl rfl hc 0 [] _ _ _ (fun _ _ => False) I4 (fun b hb => ⟨nfp b hb, (I4.ok.exf b hb).1, I4.ok.exfs b hb, .inl hb, fun x c e => (I4.ok.exf b hb).2 x c e, fun p hp => absurd (show p ∈ ([] : List (Addr × Obj)) ++ [] from hp) (by simp)⟩) st4 stop) fun r s6 ⟨hr, I6⟩ => ?_
    subst hr
    refine wpAny_pure ?_
    have I7 : Inv X pins σ (upd H2 D (.dK [])) s6 := I3.call' (ch := fp) I6.os I6.base I6.hok I6.bare fun b hb => let z := (f3 b hb).1.2; ⟨z.2.2.1, z.1, z.2.2.2.1, z.2.2.2.2⟩
    have nC : (upd H2 D (.dK [])) s3.heap.objs.size = none := by rw [← cL]; exact I6.free
    obtain ⟨m, hn, _⟩ := I6.loc
    have hn : s6.heap.Ns ce.locals m := hn
    rw [cL] at hn
    obtain ⟨g0, g1, g2, g3, g4, g5⟩ := I3.fpOk (Nat.le_refl _) nC
    exact ⟨m, hn, fun h'' sb => ⟨.ref D, _, I7.turned (t' := s6.toks) (fun b u hb e => (sb.2 b hb).trans e) g0 g1 g3 g4 g5, rfl, qq⟩⟩
  exact codeAny_compStart_dict loop (T.self X.A 0 _ _ _ st4 loop)
end
end Vl
-- B72
set_option Elab.async false
set_option linter.all false
set_option maxRecDepth 100000
set_option maxHeartbeats 400000
namespace W72
open PySem PySem.Spec PyProof.Rows L2 He5
def top (i : Nat) : Stmt := PySem.Challenge.pw_sourwright_k72_texts_in_a_workshop.main.body.getD i (.Pass ⟨0, 0, 0, 0⟩)
/-- the getter of a property -/
def pgt (K : PySem.W.Frag) (C : Addr) (m : Str) : Addr := match PySem.W.recIn K (He.ma K C m) "property" with
  | some (.ref g :: _) => g
  | _ => 0
abbrev ga := He.ga
abbrev ma := He.ma
abbrev Fa := He.Fa
abbrev s_is_word : Stmt := top 13
abbrev s_check_header : Stmt := top 28
abbrev s_head_of : Stmt := top 72
abbrev s_check_together : Stmt := top 97
abbrev s_joined : Stmt := top 99
abbrev s_link : Stmt := top 100
abbrev s_within : Stmt := top 104
abbrev s_law_box : Stmt := top 106
abbrev s_law_take : Stmt := top 107
abbrev s_law_shown : Stmt := top 108
abbrev s_law_put : Stmt := top 109
abbrev s_law_drop : Stmt := top 110
abbrev s_law_undo : Stmt := top 111
abbrev s_law_caught : Stmt := top 112
abbrev s_law_build_due : Stmt := top 113
abbrev s_law_missed : Stmt := top 114
abbrev s_law_inside : Stmt := top 115
abbrev s_law_block : Stmt := top 116
abbrev s_law_deeds : Stmt := top 117
abbrev s_law : Stmt := top 118
abbrev s_InvalidProgram_init : Stmt := inClass (top 3) 0
abbrev s_InvalidText_init : Stmt := inClass (top 4) 0
abbrev s_InvalidPart_init : Stmt := inClass (top 5) 0
abbrev s_UnknownName_init : Stmt := inClass (top 8) 0
abbrev s_Reader_init : Stmt := inClass (top 73) 0
abbrev s_Reader_is_over : Stmt := inClass (top 73) 1
abbrev s_Reader_begins : Stmt := inClass (top 73) 2
abbrev s_Reader_read_line : Stmt := inClass (top 73) 3
abbrev s_Reader_need : Stmt := inClass (top 73) 4
abbrev s_Reader_read_rows : Stmt := inClass (top 73) 5
abbrev s_Reader_read_header : Stmt := inClass (top 73) 6
abbrev s_Reader_read_procedures : Stmt := inClass (top 73) 9
abbrev s_Program_init : Stmt := inClass (top 79) 0
abbrev s_Part_init : Stmt := inClass (top 96) 0
abbrev s_Part_read : Stmt := inClass (top 96) 11
abbrev s_Trial_init : Stmt := inClass (top 102) 0
abbrev s_Trial_enter : Stmt := inClass (top 102) 1
abbrev s_Trial_exit : Stmt := inClass (top 102) 2
abbrev s_Trial_keep : Stmt := inClass (top 102) 3
abbrev s_Workshop_init : Stmt := inClass (top 103) 0
abbrev s_Workshop_len : Stmt := inClass (top 103) 1
abbrev s_Workshop_names : Stmt := inClass (top 103) 2
abbrev s_Workshop_change : Stmt := inClass (top 103) 4
abbrev s_Workshop_put : Stmt := inClass (top 103) 5
abbrev s_Workshop_drop : Stmt := inClass (top 103) 6
abbrev s_Workshop_undo : Stmt := inClass (top 103) 7
abbrev s_Workshop_text : Stmt := inClass (top 103) 8
abbrev s_Workshop_part_of : Stmt := inClass (top 103) 9
abbrev s_Workshop_build : Stmt := inClass (top 103) 10
abbrev s_Workshop_trial : Stmt := inClass (top 103) 11
/-- the defs -/
abbrev dd_0 : DefA := ⟨fun K => ga K "is_word", "is_word", "is_word", defArgs s_is_word, defBody s_is_word, defScope s_is_word, [], []⟩
abbrev dd_1 : DefA := ⟨fun K => ga K "check_header", "check_header", "check_header", defArgs s_check_header, defBody s_check_header, defScope s_check_header, [], []⟩
abbrev dd_2 : DefA := ⟨fun K => ga K "head_of", "head_of", "head_of", defArgs s_head_of, defBody s_head_of, defScope s_head_of, [], []⟩
abbrev dd_3 : DefA := ⟨fun K => ga K "check_together", "check_together", "check_together", defArgs s_check_together, defBody s_check_together, defScope s_check_together, [], []⟩
abbrev dd_4 : DefA := ⟨fun K => ga K "joined", "joined", "joined", defArgs s_joined, defBody s_joined, defScope s_joined, [], []⟩
abbrev dd_5 : DefA := ⟨fun K => ga K "link", "link", "link", defArgs s_link, defBody s_link, defScope s_link, [], []⟩
abbrev dd_6 : DefA := ⟨fun K => ga K "within", "within", "within", defArgs s_within, defBody s_within, defScope s_within, [], []⟩
abbrev dd_7 : DefA := ⟨fun K => ga K "_law_box", "_law_box", "_law_box", defArgs s_law_box, defBody s_law_box, defScope s_law_box, [], []⟩
abbrev dd_8 : DefA := ⟨fun K => ga K "_law_take", "_law_take", "_law_take", defArgs s_law_take, defBody s_law_take, defScope s_law_take, [], []⟩
abbrev dd_9 : DefA := ⟨fun K => ga K "_law_shown", "_law_shown", "_law_shown", defArgs s_law_shown, defBody s_law_shown, defScope s_law_shown, [], []⟩
abbrev dd_10 : DefA := ⟨fun K => ga K "_law_put", "_law_put", "_law_put", defArgs s_law_put, defBody s_law_put, defScope s_law_put, [], []⟩
abbrev dd_11 : DefA := ⟨fun K => ga K "_law_drop", "_law_drop", "_law_drop", defArgs s_law_drop, defBody s_law_drop, defScope s_law_drop, [], []⟩
abbrev dd_12 : DefA := ⟨fun K => ga K "_law_undo", "_law_undo", "_law_undo", defArgs s_law_undo, defBody s_law_undo, defScope s_law_undo, [], []⟩
abbrev dd_13 : DefA := ⟨fun K => ga K "_law_caught", "_law_caught", "_law_caught", defArgs s_law_caught, defBody s_law_caught, defScope s_law_caught, [], []⟩
abbrev dd_14 : DefA := ⟨fun K => ga K "_law_build_due", "_law_build_due", "_law_build_due", defArgs s_law_build_due, defBody s_law_build_due, defScope s_law_build_due, [], []⟩
abbrev dd_15 : DefA := ⟨fun K => ga K "_law_missed", "_law_missed", "_law_missed", defArgs s_law_missed, defBody s_law_missed, defScope s_law_missed, [], []⟩
abbrev dd_16 : DefA := ⟨fun K => ga K "_law_inside", "_law_inside", "_law_inside", defArgs s_law_inside, defBody s_law_inside, defScope s_law_inside, [], []⟩
abbrev dd_17 : DefA := ⟨fun K => ga K "_law_block", "_law_block", "_law_block", defArgs s_law_block, defBody s_law_block, defScope s_law_block, [], []⟩
abbrev dd_18 : DefA := ⟨fun K => ga K "_law_deeds", "_law_deeds", "_law_deeds", defArgs s_law_deeds, defBody s_law_deeds, defScope s_law_deeds, [], []⟩
abbrev dd_19 : DefA := ⟨fun K => ga K "law", "law", "law", defArgs s_law, defBody s_law, defScope s_law, [], []⟩
abbrev dd_20 : DefA := ⟨fun K => ma K (ga K "InvalidProgram") "__init__", "__init__", "InvalidProgram.__init__", defArgs s_InvalidProgram_init, defBody s_InvalidProgram_init, defScope s_InvalidProgram_init, [], []⟩
abbrev dd_21 : DefA := ⟨fun K => ma K (ga K "InvalidText") "__init__", "__init__", "InvalidText.__init__", defArgs s_InvalidText_init, defBody s_InvalidText_init, defScope s_InvalidText_init, [], []⟩
abbrev dd_22 : DefA := ⟨fun K => ma K (ga K "InvalidPart") "__init__", "__init__", "InvalidPart.__init__", defArgs s_InvalidPart_init, defBody s_InvalidPart_init, defScope s_InvalidPart_init, [], []⟩
abbrev dd_23 : DefA := ⟨fun K => ma K (ga K "UnknownName") "__init__", "__init__", "UnknownName.__init__", defArgs s_UnknownName_init, defBody s_UnknownName_init, defScope s_UnknownName_init, [], []⟩
abbrev dd_24 : DefA := ⟨fun K => ma K (ga K "Reader") "__init__", "__init__", "Reader.__init__", defArgs s_Reader_init, defBody s_Reader_init, defScope s_Reader_init, [], []⟩
abbrev dd_25 : DefA := ⟨fun K => ma K (ga K "Reader") "is_over", "is_over", "Reader.is_over", defArgs s_Reader_is_over, defBody s_Reader_is_over, defScope s_Reader_is_over, [], []⟩
abbrev dd_26 : DefA := ⟨fun K => ma K (ga K "Reader") "begins", "begins", "Reader.begins", defArgs s_Reader_begins, defBody s_Reader_begins, defScope s_Reader_begins, [], []⟩
abbrev dd_27 : DefA := ⟨fun K => ma K (ga K "Reader") "read_line", "read_line", "Reader.read_line", defArgs s_Reader_read_line, defBody s_Reader_read_line, defScope s_Reader_read_line, [], []⟩
abbrev dd_28 : DefA := ⟨fun K => ma K (ga K "Reader") "need", "need", "Reader.need", defArgs s_Reader_need, defBody s_Reader_need, defScope s_Reader_need, [], []⟩
abbrev dd_29 : DefA := ⟨fun K => ma K (ga K "Reader") "read_rows", "read_rows", "Reader.read_rows", defArgs s_Reader_read_rows, defBody s_Reader_read_rows, defScope s_Reader_read_rows, [], []⟩
abbrev dd_30 : DefA := ⟨fun K => ma K (ga K "Reader") "read_header", "read_header", "Reader.read_header", defArgs s_Reader_read_header, defBody s_Reader_read_header, defScope s_Reader_read_header, [], []⟩
abbrev dd_31 : DefA := ⟨fun K => ma K (ga K "Reader") "read_procedures", "read_procedures", "Reader.read_procedures", defArgs s_Reader_read_procedures, defBody s_Reader_read_procedures, defScope s_Reader_read_procedures, [], []⟩
abbrev dd_32 : DefA := ⟨fun K => ma K (ga K "Program") "__init__", "__init__", "Program.__init__", defArgs s_Program_init, defBody s_Program_init, defScope s_Program_init, [], []⟩
abbrev dd_33 : DefA := ⟨fun K => ma K (ga K "Part") "__init__", "__init__", "Part.__init__", defArgs s_Part_init, defBody s_Part_init, defScope s_Part_init, [], []⟩
abbrev dd_34 : DefA := ⟨fun K => wf K (ga K "Part") "classmethod" "read", "read", "Part.read", defArgs s_Part_read, defBody s_Part_read, defScope s_Part_read, [], []⟩
abbrev dd_35 : DefA := ⟨fun K => ma K (ga K "Trial") "__init__", "__init__", "Trial.__init__", defArgs s_Trial_init, defBody s_Trial_init, defScope s_Trial_init, [], []⟩
abbrev dd_36 : DefA := ⟨fun K => ma K (ga K "Trial") "__enter__", "__enter__", "Trial.__enter__", defArgs s_Trial_enter, defBody s_Trial_enter, defScope s_Trial_enter, [], []⟩
abbrev dd_37 : DefA := ⟨fun K => ma K (ga K "Trial") "__exit__", "__exit__", "Trial.__exit__", defArgs s_Trial_exit, defBody s_Trial_exit, defScope s_Trial_exit, [], []⟩
abbrev dd_38 : DefA := ⟨fun K => ma K (ga K "Trial") "keep", "keep", "Trial.keep", defArgs s_Trial_keep, defBody s_Trial_keep, defScope s_Trial_keep, [], []⟩
abbrev dd_39 : DefA := ⟨fun K => ma K (ga K "Workshop") "__init__", "__init__", "Workshop.__init__", defArgs s_Workshop_init, defBody s_Workshop_init, defScope s_Workshop_init, [], []⟩
abbrev dd_40 : DefA := ⟨fun K => ma K (ga K "Workshop") "__len__", "__len__", "Workshop.__len__", defArgs s_Workshop_len, defBody s_Workshop_len, defScope s_Workshop_len, [], []⟩
abbrev dd_41 : DefA := ⟨fun K => pgt K (ga K "Workshop") "names", "names", "Workshop.names", defArgs s_Workshop_names, defBody s_Workshop_names, defScope s_Workshop_names, [], []⟩
abbrev dd_42 : DefA := ⟨fun K => ma K (ga K "Workshop") "change", "change", "Workshop.change", defArgs s_Workshop_change, defBody s_Workshop_change, defScope s_Workshop_change, [], []⟩
abbrev dd_43 : DefA := ⟨fun K => ma K (ga K "Workshop") "put", "put", "Workshop.put", defArgs s_Workshop_put, defBody s_Workshop_put, defScope s_Workshop_put, [], []⟩
abbrev dd_44 : DefA := ⟨fun K => ma K (ga K "Workshop") "drop", "drop", "Workshop.drop", defArgs s_Workshop_drop, defBody s_Workshop_drop, defScope s_Workshop_drop, [], []⟩
abbrev dd_45 : DefA := ⟨fun K => ma K (ga K "Workshop") "undo", "undo", "Workshop.undo", defArgs s_Workshop_undo, defBody s_Workshop_undo, defScope s_Workshop_undo, [], []⟩
abbrev dd_46 : DefA := ⟨fun K => ma K (ga K "Workshop") "text", "text", "Workshop.text", defArgs s_Workshop_text, defBody s_Workshop_text, defScope s_Workshop_text, [], []⟩
abbrev dd_47 : DefA := ⟨fun K => ma K (ga K "Workshop") "part_of", "part_of", "Workshop.part_of", defArgs s_Workshop_part_of, defBody s_Workshop_part_of, defScope s_Workshop_part_of, [], []⟩
abbrev dd_48 : DefA := ⟨fun K => ma K (ga K "Workshop") "build", "build", "Workshop.build", defArgs s_Workshop_build, defBody s_Workshop_build, defScope s_Workshop_build, [], []⟩
abbrev dd_49 : DefA := ⟨fun K => ma K (ga K "Workshop") "trial", "trial", "Workshop.trial", defArgs s_Workshop_trial, defBody s_Workshop_trial, defScope s_Workshop_trial, [], []⟩
def fns : List DefA := [dd_0, dd_1, dd_2, dd_3, dd_4, dd_5, dd_6, dd_7, dd_8, dd_9, dd_10, dd_11, dd_12, dd_13, dd_14, dd_15, dd_16, dd_17, dd_18, dd_19, dd_20, dd_21, dd_22, dd_23, dd_24, dd_25, dd_26, dd_27, dd_28, dd_29, dd_30, dd_31, dd_32, dd_33, dd_34, dd_35, dd_36, dd_37, dd_38, dd_39, dd_40, dd_41, dd_42, dd_43, dd_44, dd_45, dd_46, dd_47, dd_48, dd_49]
def fas : List Fa := [.glo "is_word",
  .glo "check_header",
  .glo "head_of",
  .glo "check_together",
  .glo "joined",
  .glo "link",
  .glo "within",
  .glo "_law_box",
  .glo "_law_take",
  .glo "_law_shown",
  .glo "_law_put",
  .glo "_law_drop",
  .glo "_law_undo",
  .glo "_law_caught",
  .glo "_law_build_due",
  .glo "_law_missed",
  .glo "_law_inside",
  .glo "_law_block",
  .glo "_law_deeds",
  .glo "law",
  .glo "InvalidProgram",
  .glo "InvalidText",
  .glo "InvalidPart",
  .glo "UnknownName",
  .glo "Reader",
  .glo "Program",
  .glo "Part",
  .glo "Trial",
  .glo "Workshop",
  .free "isinstance",
  .free "len",
  .free "all",
  .free "any",
  .free "enumerate",
  .free "tuple",
  .free "range",
  .free "dict",
  .free "int",
  .free "max",
  .free "min",
  .free "str",
  .cls "Reader",
  .mkr "Reader",
  .cls "Trial",
  .mkr "Trial",
  .cls "Workshop",
  .mkr "Workshop",
  .cls "Program",
  .mkr "Program",
  .cls "Part",
  .mkr "Part",
  .noat "Reader" "lines",
  .noat "Reader" "at",
  .noat "Trial" "house",
  .noat "Trial" "kept",
  .noat "Trial" "saved_texts",
  .noat "Trial" "saved_past",
  .noat "Trial" "saved_floor",
  .noat "Workshop" "kept_texts",
  .noat "Workshop" "past",
  .noat "Workshop" "floor",
  .noat "Workshop" "known_parts",
  .meth "Reader" "__init__",
  .meth "Reader" "is_over",
  .meth "Reader" "begins",
  .meth "Reader" "read_line",
  .meth "Reader" "need",
  .meth "Reader" "read_rows",
  .meth "Reader" "read_header",
  .meth "Reader" "read_procedures",
  .meth "Trial" "__init__",
  .meth "Trial" "__enter__",
  .meth "Trial" "__exit__",
  .meth "Trial" "keep",
  .meth "Workshop" "__init__",
  .meth "Workshop" "__len__",
  .meth "Workshop" "change",
  .meth "Workshop" "put",
  .meth "Workshop" "drop",
  .meth "Workshop" "undo",
  .meth "Workshop" "text",
  .meth "Workshop" "part_of",
  .meth "Workshop" "build",
  .meth "Workshop" "trial",
  .str "ARROW" "->",
  .int "LONGEST" 6,
  .str "LETTERS" "abcdefghijklmnopqrstuvwxyz",
  .glo "WORDS"]
/-! ### further facts -/
/-- an own class, its mro's rest by refs, made by nid -/
def clsB (K : PySem.W.Frag) (C : Addr) (nid : String) (refs : List Value → Bool) : Bool := match K.lookup C with
  | some ⟨.type "type", _, .cls cd, sl⟩ => (match cd.mro, sl.toList with
    | .ref C' :: bm, [_, _, _, _, some (.builtin n), _] => C' == C && n == nid && !cd.hasDel && cd.hasDict && refs bm
    | _, _ => false)
  | _ => false
theorem clsB_ok {K : PySem.W.Frag} {C : Addr} {nid : String} {refs : List Value → Bool} (q : clsB K C nid refs = true) :
    ∃ nm q N bs bm sn sub ab col dd k0 k1 k2 k3 k5, K.lookup C = some (excClassObj nm q C N bs bm true sn sub ab col dd k0 k1 k2 k3 k5 nid) ∧ refs bm = true := by
  unfold clsB at q
  split at q
  · rename_i dd cd sl ho
    split at q
    · rename_i C' bm k0 k1 k2 k3 n k5 hm hs
      simp only [Bool.and_eq_true, beq_iff_eq, Bool.not_eq_true'] at q
      obtain ⟨⟨⟨⟨rfl, rfl⟩, hdel⟩, hdict⟩, hr⟩ := q
      obtain ⟨nm, bs, mro, ns, qn, hd, sn, sub, ab, col, del⟩ := cd
      dsimp only at hm hdel hdict
      subst hm hdel hdict
      have hsl : sl = #[k0, k1, k2, k3, some (.builtin n), k5] := by
        obtain ⟨l⟩ := sl
        simp only at hs
        rw [hs]
      subst hsl
      exact ⟨nm, qn, ns, bs, bm, sn, sub, ab, col, dd, k0, k1, k2, k3, k5, ho, hr⟩
    · cases q
  · cases q
def oexB (K : PySem.W.Frag) (C : Addr) (nid : String) (refs : List Value → Bool) : Bool := clsB K C nid refs && (decide (PySem.W.findIn K (.ref C) "__setattr__" = some (some (.builtin "object.__setattr__"))) && (decide (PySem.W.subIn K (.ref C) (.type "BaseException") = some true) &&
  (decide (PySem.W.typeIn K (.ref C) = some (.type "type")) && (PySem.W.keepIn K (.ref C) && (xfB K C && (decide (PySem.W.findIn K (.ref C) "__init__" = some (some (.ref (ma K C "__init__")))) && decide (PySem.W.typeIn K (.ref (ma K C "__init__")) = some (.type "function"))))))))
theorem oexB_ok {K : PySem.W.Frag} {C : Addr} (h : oexB K C "ValueError.__new__" PySem.HandSPX.refsVE = true) : OexC K C ∧ XfC K C ∧ PySem.W.findIn K (.ref C) "__init__" = some (some (.ref (ma K C "__init__"))) ∧ PySem.W.typeIn K (.ref (ma K C "__init__")) = some (.type "function") := by
  simp only [oexB, Bool.and_eq_true, decide_eq_true_eq] at h
  obtain ⟨h1, h2, h3, h4, h5, h6, h7, h8⟩ := h
  exact ⟨⟨clsB_ok h1, h2, h3, h4, h5⟩, xfB_ok h6, h7, h8⟩
theorem oexK_ok {K : PySem.W.Frag} {C : Addr} (h : oexB K C "LookupError.__new__" PySem.KeyX.refsKE = true) : OexK K C ∧ XfC K C ∧ PySem.W.findIn K (.ref C) "__init__" = some (some (.ref (ma K C "__init__"))) ∧ PySem.W.typeIn K (.ref (ma K C "__init__")) = some (.type "function") := by
  simp only [oexB, Bool.and_eq_true, decide_eq_true_eq] at h
  obtain ⟨h1, h2, h3, h4, h5, h6, h7, h8⟩ := h
  exact ⟨⟨clsB_ok h1, h2, h3, h4, h5⟩, xfB_ok h6, h7, h8⟩
def spB (K : PySem.W.Frag) (C : Addr) (m : Str) : Bool := decide (PySem.W.findIn K (.ref C) m = some (some (.ref (ma K C m)))) && PySem.W.isFn K (.ref (ma K C m))
theorem spB_ok {K : PySem.W.Frag} {C : Addr} {m : Str} (h : spB K C m = true) : PySem.W.findIn K (.ref C) m = some (some (.ref (ma K C m))) ∧ PySem.W.isFn K (.ref (ma K C m)) = true := by
  simp only [spB, Bool.and_eq_true, decide_eq_true_eq] at h
  exact h
def insB (K : PySem.W.Frag) (C : Addr) : Bool := decide (PySem.W.findIn K (.ref C) "__class__" = some (some (.builtin "object.__class__"))) && (decide (PySem.W.specialIn K (.builtin "object.__class__") "__get__" = some (some (.builtin "getset_descriptor.__get__"))) &&
  (decide (PySem.W.takesIn K (.builtin "object.__class__") = some true) && (decide (PySem.W.mroIn K C (.type "object") = some true) && decide (PySem.W.kitOne K (.ref C) (.ref C) = some true))))
theorem insB_ok {K : PySem.W.Frag} {C : Addr} (c : Cls K C) (h : insB K C = true) : C8.InsC K C := by
  simp only [insB, Bool.and_eq_true, decide_eq_true_eq] at h
  obtain ⟨h1, h2, h3, h4, h5⟩ := h
  exact ⟨c, h1, h2, h3, h4, h5⟩
def propB (K : PySem.W.Frag) (C : Addr) (f : Str) : Bool := decide (PySem.W.findIn K (.ref C) f = some (some (.ref (ma K C f)))) && (decide (PySem.W.specialIn K (.ref (ma K C f)) "__get__" = some (some (.builtin "property.__get__"))) &&
  (decide (PySem.W.takesIn K (.ref (ma K C f)) = some true) && (match PySem.W.recIn K (ma K C f) "property" with
    | some (.ref _ :: _) => true
    | _ => false)))
theorem propB_ok {K : PySem.W.Frag} {C : Addr} {f : Str} (h : propB K C f = true) : PropOf K C f (ma K C f) (pgt K C f) := by
  simp only [propB, Bool.and_eq_true, decide_eq_true_eq] at h
  obtain ⟨h1, h2, h3, h4⟩ := h
  refine ⟨h1, h2, h3, ?_⟩
  unfold pgt
  show ∃ rest, PySem.W.recIn K (He.ma K C f) "property" = _
  have h4 : (match PySem.W.recIn K (He.ma K C f) "property" with
    | some (.ref _ :: _) => true
    | _ => false) = true := h4
  split at h4
  · rename_i g r e
    rw [e]
    exact ⟨r, rfl⟩
  · cases h4
def cmB (K : PySem.W.Frag) (C : Addr) (m : Str) : Bool := PySem.W.readsIn K C (.type "type") && (decide (PySem.W.specialIn K (.ref C) "__getattribute__" = some (some (.builtin "type.__getattribute__"))) &&
  (wrapB K C "classmethod" "classmethod.__get__" m && PySem.W.fnIn K (wf K C "classmethod" m)))
theorem cmB_ok {K : PySem.W.Frag} {C : Addr} {m : Str} (h : cmB K C m = true) : ClX.CRead K C (.type "type") ∧ ClX.CMet K C (.type "type") m (ma K C m) (wf K C "classmethod" m) := by
  simp only [cmB, Bool.and_eq_true, decide_eq_true_eq] at h
  obtain ⟨h1, h2, h3, h4⟩ := h
  exact ⟨⟨h1, h2⟩, cmet_of h3 h4⟩
def tupB (K : PySem.W.Frag) (a : Addr) (xs : List V) : Bool := match K.lookup a with
  | some ⟨.type "tuple", _, .seq its _, _⟩ => decide (its.size ≤ 1000) && He.relAll xs its.toList
  | _ => false
theorem tupB_ok {K : PySem.W.Frag} {a : Addr} {xs : List V} (h : tupB K a xs = true) (H : Hp) : SqT K H a xs := by
  unfold tupB at h
  split at h
  · rename_i od its n sl e
    simp only [Bool.and_eq_true, decide_eq_true_eq] at h
    exact .inr ⟨_, its, n, e, rfl, rfl, Nat.le_of_lt (small1000 h.1), He.relAll_ok h.2⟩
  · cases h
def wordsV : List V := [.str "if", .str "else", .str "end", .str "while", .str "get", .str "mix", .str "scale", .str "dish", .str "copy", .str "wait", .str "put", .str "take", .str "call", .str "kind", .str "well", .str "part", .str "use"]
def noB (K : PySem.W.Frag) (C : Addr) (f : Str) : Bool := decide (PySem.W.findIn K (.ref C) f = some none)
def exmB (K : PySem.W.Frag) (a b : Addr) (r : Bool) : Bool := decide (PySem.W.exmOne K (.ref a) (.ref b) = some r)

def exl (K : PySem.W.Frag) : List Bool := [
  oexB K (ga K "InvalidProgram") "ValueError.__new__" PySem.HandSPX.refsVE,
  noB K (ga K "InvalidProgram") "word",
  noB K (ga K "InvalidProgram") "procedure",
  noB K (ga K "InvalidProgram") "place",
  oexB K (ga K "InvalidText") "ValueError.__new__" PySem.HandSPX.refsVE,
  noB K (ga K "InvalidText") "line",
  oexB K (ga K "InvalidPart") "ValueError.__new__" PySem.HandSPX.refsVE,
  noB K (ga K "InvalidPart") "word",
  noB K (ga K "InvalidPart") "index",
  oexB K (ga K "UnknownName") "LookupError.__new__" PySem.KeyX.refsKE,
  noB K (ga K "UnknownName") "name",
  exmB K (ga K "InvalidProgram") (ga K "InvalidPart") false,
  exmB K (ga K "InvalidProgram") (ga K "InvalidProgram") true,
  exmB K (ga K "InvalidProgram") (ga K "InvalidText") false,
  exmB K (ga K "InvalidProgram") (ga K "UnknownName") false,
  exmB K (ga K "InvalidText") (ga K "InvalidPart") false,
  exmB K (ga K "InvalidText") (ga K "InvalidProgram") false,
  exmB K (ga K "InvalidText") (ga K "InvalidText") true,
  exmB K (ga K "InvalidText") (ga K "UnknownName") false,
  exmB K (ga K "InvalidPart") (ga K "InvalidPart") true,
  exmB K (ga K "InvalidPart") (ga K "InvalidProgram") false,
  exmB K (ga K "InvalidPart") (ga K "InvalidText") false,
  exmB K (ga K "InvalidPart") (ga K "UnknownName") false,
  exmB K (ga K "UnknownName") (ga K "InvalidPart") false,
  exmB K (ga K "UnknownName") (ga K "InvalidProgram") false,
  exmB K (ga K "UnknownName") (ga K "InvalidText") false,
  exmB K (ga K "UnknownName") (ga K "UnknownName") true,
  spB K (ga K "Trial") "__enter__",
  spB K (ga K "Trial") "__exit__",
  spB K (ga K "Workshop") "__len__",
  insB K (ga K "Trial"),
  Ne.neB K (ga K "Trial"),
  propB K (ga K "Workshop") "names",
  cmB K (ga K "Part") "read",
  PySem.W.keepIn K (.ref (ga K "Part")),
  tupB K (ga K "WORDS") wordsV]
def exs (K : PySem.W.Frag) : Bool := (exl K).all id
/-- the facts of the text's top -/
structure T72 (K : PySem.W.Frag) (mg : Str → Option Value) : Prop where
  fa : ∀ f ∈ fas, f.ok K = true
  fn : ∀ d ∈ fns, ∃ fd, L2.FunD K d.name d.qual d.params d.body d.scope (d.dvs K) (d.kws K) (d.at_ K) fd
  ex : exs K = true
  kin : ∃ h : Heap, K.In h ∧ h.Ns mainGlobals mg
namespace T72
variable {K : PySem.W.Frag} {mg : Str → Option Value}
theorem fact (T : T72 K mg) (i : Nat) {f : He.Fa} (h : fas[i]? = some f := by rfl) : f.ok K = true := T.fa f (List.mem_of_getElem? h)
theorem exi (T : T72 K mg) (i : Nat) {b : Bool} (h : (exl K)[i]? = some b := by rfl) : b = true := List.all_eq_true.mp T.ex b (List.mem_of_getElem? h)

theorem glo (T : T72 K mg) (i : Nat) {x : Str} (h : fas[i]? = some (He.Fa.glo x) := by rfl) : mg x = some (.ref (ga K x)) := let ⟨_, a, b⟩ := T.kin; He.glo_ok a b (T.fact i h)
theorem fre (T : T72 K mg) (i : Nat) {x : Str} (h : fas[i]? = some (He.Fa.free x) := by rfl) : mg x = none := let ⟨_, a, b⟩ := T.kin; He.free_ok a b (T.fact i h)
theorem def_ (T : T72 K mg) (i : Nat) {d : DefA} (h : fns[i]? = some d := by rfl) : ∃ fd, L2.FunD K d.name d.qual d.params d.body d.scope (d.dvs K) (d.kws K) (d.at_ K) fd := T.fn d (List.mem_of_getElem? h)
theorem g_is_word (T : T72 K mg) : mg "is_word" = some (.ref (ga K "is_word")) := T.glo 0
theorem g_check_header (T : T72 K mg) : mg "check_header" = some (.ref (ga K "check_header")) := T.glo 1
theorem g_head_of (T : T72 K mg) : mg "head_of" = some (.ref (ga K "head_of")) := T.glo 2
theorem g_check_together (T : T72 K mg) : mg "check_together" = some (.ref (ga K "check_together")) := T.glo 3
theorem g_joined (T : T72 K mg) : mg "joined" = some (.ref (ga K "joined")) := T.glo 4
theorem g_link (T : T72 K mg) : mg "link" = some (.ref (ga K "link")) := T.glo 5
theorem g_within (T : T72 K mg) : mg "within" = some (.ref (ga K "within")) := T.glo 6
theorem g_law_box (T : T72 K mg) : mg "_law_box" = some (.ref (ga K "_law_box")) := T.glo 7
theorem g_law_take (T : T72 K mg) : mg "_law_take" = some (.ref (ga K "_law_take")) := T.glo 8
theorem g_law_shown (T : T72 K mg) : mg "_law_shown" = some (.ref (ga K "_law_shown")) := T.glo 9
theorem g_law_put (T : T72 K mg) : mg "_law_put" = some (.ref (ga K "_law_put")) := T.glo 10
theorem g_law_drop (T : T72 K mg) : mg "_law_drop" = some (.ref (ga K "_law_drop")) := T.glo 11
theorem g_law_undo (T : T72 K mg) : mg "_law_undo" = some (.ref (ga K "_law_undo")) := T.glo 12
theorem g_law_caught (T : T72 K mg) : mg "_law_caught" = some (.ref (ga K "_law_caught")) := T.glo 13
theorem g_law_build_due (T : T72 K mg) : mg "_law_build_due" = some (.ref (ga K "_law_build_due")) := T.glo 14
theorem g_law_missed (T : T72 K mg) : mg "_law_missed" = some (.ref (ga K "_law_missed")) := T.glo 15
theorem g_law_inside (T : T72 K mg) : mg "_law_inside" = some (.ref (ga K "_law_inside")) := T.glo 16
theorem g_law_block (T : T72 K mg) : mg "_law_block" = some (.ref (ga K "_law_block")) := T.glo 17
theorem g_law_deeds (T : T72 K mg) : mg "_law_deeds" = some (.ref (ga K "_law_deeds")) := T.glo 18
theorem g_law (T : T72 K mg) : mg "law" = some (.ref (ga K "law")) := T.glo 19
theorem g_InvalidProgram (T : T72 K mg) : mg "InvalidProgram" = some (.ref (ga K "InvalidProgram")) := T.glo 20
theorem g_InvalidText (T : T72 K mg) : mg "InvalidText" = some (.ref (ga K "InvalidText")) := T.glo 21
theorem g_InvalidPart (T : T72 K mg) : mg "InvalidPart" = some (.ref (ga K "InvalidPart")) := T.glo 22
theorem g_UnknownName (T : T72 K mg) : mg "UnknownName" = some (.ref (ga K "UnknownName")) := T.glo 23
theorem g_Reader (T : T72 K mg) : mg "Reader" = some (.ref (ga K "Reader")) := T.glo 24
theorem g_Program (T : T72 K mg) : mg "Program" = some (.ref (ga K "Program")) := T.glo 25
theorem g_Part (T : T72 K mg) : mg "Part" = some (.ref (ga K "Part")) := T.glo 26
theorem g_Trial (T : T72 K mg) : mg "Trial" = some (.ref (ga K "Trial")) := T.glo 27
theorem g_Workshop (T : T72 K mg) : mg "Workshop" = some (.ref (ga K "Workshop")) := T.glo 28
theorem f_isinstance (T : T72 K mg) : mg "isinstance" = none := T.fre 29
theorem f_len (T : T72 K mg) : mg "len" = none := T.fre 30
theorem f_all (T : T72 K mg) : mg "all" = none := T.fre 31
theorem f_any (T : T72 K mg) : mg "any" = none := T.fre 32
theorem f_enumerate (T : T72 K mg) : mg "enumerate" = none := T.fre 33
theorem f_tuple (T : T72 K mg) : mg "tuple" = none := T.fre 34
theorem f_range (T : T72 K mg) : mg "range" = none := T.fre 35
theorem f_dict (T : T72 K mg) : mg "dict" = none := T.fre 36
theorem f_int (T : T72 K mg) : mg "int" = none := T.fre 37
theorem f_max (T : T72 K mg) : mg "max" = none := T.fre 38
theorem f_min (T : T72 K mg) : mg "min" = none := T.fre 39
theorem f_str (T : T72 K mg) : mg "str" = none := T.fre 40
theorem cl_Reader (T : T72 K mg) : Cls K (ga K "Reader") := He.cls_ok (T.fact 41)
theorem mk_Reader (T : T72 K mg) : Mk K (ga K "Reader") (ma K (ga K "Reader") "__init__") := He.mkr_ok (T.fact 42)
theorem cl_Trial (T : T72 K mg) : Cls K (ga K "Trial") := He.cls_ok (T.fact 43)
theorem mk_Trial (T : T72 K mg) : Mk K (ga K "Trial") (ma K (ga K "Trial") "__init__") := He.mkr_ok (T.fact 44)
theorem cl_Workshop (T : T72 K mg) : Cls K (ga K "Workshop") := He.cls_ok (T.fact 45)
theorem mk_Workshop (T : T72 K mg) : Mk K (ga K "Workshop") (ma K (ga K "Workshop") "__init__") := He.mkr_ok (T.fact 46)
theorem cl_Program (T : T72 K mg) : Cls K (ga K "Program") := He.cls_ok (T.fact 47)
theorem mk_Program (T : T72 K mg) : Mk K (ga K "Program") (ma K (ga K "Program") "__init__") := He.mkr_ok (T.fact 48)
theorem cl_Part (T : T72 K mg) : Cls K (ga K "Part") := He.cls_ok (T.fact 49)
theorem mk_Part (T : T72 K mg) : Mk K (ga K "Part") (ma K (ga K "Part") "__init__") := He.mkr_ok (T.fact 50)
theorem na_Reader_lines (T : T72 K mg) : NoAttr K (ga K "Reader") "lines" := He.noat_ok (T.fact 51)
theorem na_Reader_at (T : T72 K mg) : NoAttr K (ga K "Reader") "at" := He.noat_ok (T.fact 52)
theorem na_Trial_house (T : T72 K mg) : NoAttr K (ga K "Trial") "house" := He.noat_ok (T.fact 53)
theorem na_Trial_kept (T : T72 K mg) : NoAttr K (ga K "Trial") "kept" := He.noat_ok (T.fact 54)
theorem na_Trial_saved_texts (T : T72 K mg) : NoAttr K (ga K "Trial") "saved_texts" := He.noat_ok (T.fact 55)
theorem na_Trial_saved_past (T : T72 K mg) : NoAttr K (ga K "Trial") "saved_past" := He.noat_ok (T.fact 56)
theorem na_Trial_saved_floor (T : T72 K mg) : NoAttr K (ga K "Trial") "saved_floor" := He.noat_ok (T.fact 57)
theorem na_Workshop_kept_texts (T : T72 K mg) : NoAttr K (ga K "Workshop") "kept_texts" := He.noat_ok (T.fact 58)
theorem na_Workshop_past (T : T72 K mg) : NoAttr K (ga K "Workshop") "past" := He.noat_ok (T.fact 59)
theorem na_Workshop_floor (T : T72 K mg) : NoAttr K (ga K "Workshop") "floor" := He.noat_ok (T.fact 60)
theorem na_Workshop_known_parts (T : T72 K mg) : NoAttr K (ga K "Workshop") "known_parts" := He.noat_ok (T.fact 61)
theorem me_Reader_init (T : T72 K mg) : Meth K (ga K "Reader") "__init__" (ma K (ga K "Reader") "__init__") := He.meth_ok (T.fact 62)
theorem me_Reader_is_over (T : T72 K mg) : Meth K (ga K "Reader") "is_over" (ma K (ga K "Reader") "is_over") := He.meth_ok (T.fact 63)
theorem me_Reader_begins (T : T72 K mg) : Meth K (ga K "Reader") "begins" (ma K (ga K "Reader") "begins") := He.meth_ok (T.fact 64)
theorem me_Reader_read_line (T : T72 K mg) : Meth K (ga K "Reader") "read_line" (ma K (ga K "Reader") "read_line") := He.meth_ok (T.fact 65)
theorem me_Reader_need (T : T72 K mg) : Meth K (ga K "Reader") "need" (ma K (ga K "Reader") "need") := He.meth_ok (T.fact 66)
theorem me_Reader_read_rows (T : T72 K mg) : Meth K (ga K "Reader") "read_rows" (ma K (ga K "Reader") "read_rows") := He.meth_ok (T.fact 67)
theorem me_Reader_read_header (T : T72 K mg) : Meth K (ga K "Reader") "read_header" (ma K (ga K "Reader") "read_header") := He.meth_ok (T.fact 68)
theorem me_Reader_read_procedures (T : T72 K mg) : Meth K (ga K "Reader") "read_procedures" (ma K (ga K "Reader") "read_procedures") := He.meth_ok (T.fact 69)
theorem me_Trial_init (T : T72 K mg) : Meth K (ga K "Trial") "__init__" (ma K (ga K "Trial") "__init__") := He.meth_ok (T.fact 70)
theorem me_Trial_enter (T : T72 K mg) : Meth K (ga K "Trial") "__enter__" (ma K (ga K "Trial") "__enter__") := He.meth_ok (T.fact 71)
theorem me_Trial_exit (T : T72 K mg) : Meth K (ga K "Trial") "__exit__" (ma K (ga K "Trial") "__exit__") := He.meth_ok (T.fact 72)
theorem me_Trial_keep (T : T72 K mg) : Meth K (ga K "Trial") "keep" (ma K (ga K "Trial") "keep") := He.meth_ok (T.fact 73)
theorem me_Workshop_init (T : T72 K mg) : Meth K (ga K "Workshop") "__init__" (ma K (ga K "Workshop") "__init__") := He.meth_ok (T.fact 74)
theorem me_Workshop_len (T : T72 K mg) : Meth K (ga K "Workshop") "__len__" (ma K (ga K "Workshop") "__len__") := He.meth_ok (T.fact 75)
theorem me_Workshop_change (T : T72 K mg) : Meth K (ga K "Workshop") "change" (ma K (ga K "Workshop") "change") := He.meth_ok (T.fact 76)
theorem me_Workshop_put (T : T72 K mg) : Meth K (ga K "Workshop") "put" (ma K (ga K "Workshop") "put") := He.meth_ok (T.fact 77)
theorem me_Workshop_drop (T : T72 K mg) : Meth K (ga K "Workshop") "drop" (ma K (ga K "Workshop") "drop") := He.meth_ok (T.fact 78)
theorem me_Workshop_undo (T : T72 K mg) : Meth K (ga K "Workshop") "undo" (ma K (ga K "Workshop") "undo") := He.meth_ok (T.fact 79)
theorem me_Workshop_text (T : T72 K mg) : Meth K (ga K "Workshop") "text" (ma K (ga K "Workshop") "text") := He.meth_ok (T.fact 80)
theorem me_Workshop_part_of (T : T72 K mg) : Meth K (ga K "Workshop") "part_of" (ma K (ga K "Workshop") "part_of") := He.meth_ok (T.fact 81)
theorem me_Workshop_build (T : T72 K mg) : Meth K (ga K "Workshop") "build" (ma K (ga K "Workshop") "build") := He.meth_ok (T.fact 82)
theorem me_Workshop_trial (T : T72 K mg) : Meth K (ga K "Workshop") "trial" (ma K (ga K "Workshop") "trial") := He.meth_ok (T.fact 83)
theorem st_ARROW (T : T72 K mg) : ∃ t, mg "ARROW" = some (.str "->" t) := let ⟨_, a, b⟩ := T.kin; He.str_ok a b (T.fact 84)
theorem in_LONGEST (T : T72 K mg) : ∃ t, mg "LONGEST" = some (.int 6 t) := let ⟨_, a, b⟩ := T.kin; He.int_ok a b (T.fact 85)
theorem st_LETTERS (T : T72 K mg) : ∃ t, mg "LETTERS" = some (.str "abcdefghijklmnopqrstuvwxyz" t) := let ⟨_, a, b⟩ := T.kin; He.str_ok a b (T.fact 86)
theorem g_WORDS (T : T72 K mg) : mg "WORDS" = some (.ref (ga K "WORDS")) := T.glo 87
theorem oex_InvalidProgram (T : T72 K mg) : OexC K (ga K "InvalidProgram") ∧ XfC K (ga K "InvalidProgram") ∧ PySem.W.findIn K (.ref (ga K "InvalidProgram")) "__init__" = some (some (.ref (ma K (ga K "InvalidProgram") "__init__"))) ∧ PySem.W.typeIn K (.ref (ma K (ga K "InvalidProgram") "__init__")) = some (.type "function") := oexB_ok (T.exi 0)
theorem no_InvalidProgram_word (T : T72 K mg) : PySem.W.findIn K (.ref (ga K "InvalidProgram")) "word" = some none := of_decide_eq_true (T.exi 1)
theorem no_InvalidProgram_procedure (T : T72 K mg) : PySem.W.findIn K (.ref (ga K "InvalidProgram")) "procedure" = some none := of_decide_eq_true (T.exi 2)
theorem no_InvalidProgram_place (T : T72 K mg) : PySem.W.findIn K (.ref (ga K "InvalidProgram")) "place" = some none := of_decide_eq_true (T.exi 3)
theorem oex_InvalidText (T : T72 K mg) : OexC K (ga K "InvalidText") ∧ XfC K (ga K "InvalidText") ∧ PySem.W.findIn K (.ref (ga K "InvalidText")) "__init__" = some (some (.ref (ma K (ga K "InvalidText") "__init__"))) ∧ PySem.W.typeIn K (.ref (ma K (ga K "InvalidText") "__init__")) = some (.type "function") := oexB_ok (T.exi 4)
theorem no_InvalidText_line (T : T72 K mg) : PySem.W.findIn K (.ref (ga K "InvalidText")) "line" = some none := of_decide_eq_true (T.exi 5)
theorem oex_InvalidPart (T : T72 K mg) : OexC K (ga K "InvalidPart") ∧ XfC K (ga K "InvalidPart") ∧ PySem.W.findIn K (.ref (ga K "InvalidPart")) "__init__" = some (some (.ref (ma K (ga K "InvalidPart") "__init__"))) ∧ PySem.W.typeIn K (.ref (ma K (ga K "InvalidPart") "__init__")) = some (.type "function") := oexB_ok (T.exi 6)
theorem no_InvalidPart_word (T : T72 K mg) : PySem.W.findIn K (.ref (ga K "InvalidPart")) "word" = some none := of_decide_eq_true (T.exi 7)
theorem no_InvalidPart_index (T : T72 K mg) : PySem.W.findIn K (.ref (ga K "InvalidPart")) "index" = some none := of_decide_eq_true (T.exi 8)
theorem oex_UnknownName (T : T72 K mg) : OexK K (ga K "UnknownName") ∧ XfC K (ga K "UnknownName") ∧ PySem.W.findIn K (.ref (ga K "UnknownName")) "__init__" = some (some (.ref (ma K (ga K "UnknownName") "__init__"))) ∧ PySem.W.typeIn K (.ref (ma K (ga K "UnknownName") "__init__")) = some (.type "function") := oexK_ok (T.exi 9)
theorem no_UnknownName_name (T : T72 K mg) : PySem.W.findIn K (.ref (ga K "UnknownName")) "name" = some none := of_decide_eq_true (T.exi 10)
theorem exm_InvalidProgram_InvalidPart (T : T72 K mg) : PySem.W.exmOne K (.ref (ga K "InvalidProgram")) (.ref (ga K "InvalidPart")) = some false := of_decide_eq_true (T.exi 11)
theorem exm_InvalidProgram_InvalidProgram (T : T72 K mg) : PySem.W.exmOne K (.ref (ga K "InvalidProgram")) (.ref (ga K "InvalidProgram")) = some true := of_decide_eq_true (T.exi 12)
theorem exm_InvalidProgram_InvalidText (T : T72 K mg) : PySem.W.exmOne K (.ref (ga K "InvalidProgram")) (.ref (ga K "InvalidText")) = some false := of_decide_eq_true (T.exi 13)
theorem exm_InvalidProgram_UnknownName (T : T72 K mg) : PySem.W.exmOne K (.ref (ga K "InvalidProgram")) (.ref (ga K "UnknownName")) = some false := of_decide_eq_true (T.exi 14)
theorem exm_InvalidText_InvalidPart (T : T72 K mg) : PySem.W.exmOne K (.ref (ga K "InvalidText")) (.ref (ga K "InvalidPart")) = some false := of_decide_eq_true (T.exi 15)
theorem exm_InvalidText_InvalidProgram (T : T72 K mg) : PySem.W.exmOne K (.ref (ga K "InvalidText")) (.ref (ga K "InvalidProgram")) = some false := of_decide_eq_true (T.exi 16)
theorem exm_InvalidText_InvalidText (T : T72 K mg) : PySem.W.exmOne K (.ref (ga K "InvalidText")) (.ref (ga K "InvalidText")) = some true := of_decide_eq_true (T.exi 17)
theorem exm_InvalidText_UnknownName (T : T72 K mg) : PySem.W.exmOne K (.ref (ga K "InvalidText")) (.ref (ga K "UnknownName")) = some false := of_decide_eq_true (T.exi 18)
theorem exm_InvalidPart_InvalidPart (T : T72 K mg) : PySem.W.exmOne K (.ref (ga K "InvalidPart")) (.ref (ga K "InvalidPart")) = some true := of_decide_eq_true (T.exi 19)
theorem exm_InvalidPart_InvalidProgram (T : T72 K mg) : PySem.W.exmOne K (.ref (ga K "InvalidPart")) (.ref (ga K "InvalidProgram")) = some false := of_decide_eq_true (T.exi 20)
theorem exm_InvalidPart_InvalidText (T : T72 K mg) : PySem.W.exmOne K (.ref (ga K "InvalidPart")) (.ref (ga K "InvalidText")) = some false := of_decide_eq_true (T.exi 21)
theorem exm_InvalidPart_UnknownName (T : T72 K mg) : PySem.W.exmOne K (.ref (ga K "InvalidPart")) (.ref (ga K "UnknownName")) = some false := of_decide_eq_true (T.exi 22)
theorem exm_UnknownName_InvalidPart (T : T72 K mg) : PySem.W.exmOne K (.ref (ga K "UnknownName")) (.ref (ga K "InvalidPart")) = some false := of_decide_eq_true (T.exi 23)
theorem exm_UnknownName_InvalidProgram (T : T72 K mg) : PySem.W.exmOne K (.ref (ga K "UnknownName")) (.ref (ga K "InvalidProgram")) = some false := of_decide_eq_true (T.exi 24)
theorem exm_UnknownName_InvalidText (T : T72 K mg) : PySem.W.exmOne K (.ref (ga K "UnknownName")) (.ref (ga K "InvalidText")) = some false := of_decide_eq_true (T.exi 25)
theorem exm_UnknownName_UnknownName (T : T72 K mg) : PySem.W.exmOne K (.ref (ga K "UnknownName")) (.ref (ga K "UnknownName")) = some true := of_decide_eq_true (T.exi 26)
theorem sp_enter (T : T72 K mg) : PySem.W.findIn K (.ref (ga K "Trial")) "__enter__" = some (some (.ref (ma K (ga K "Trial") "__enter__"))) ∧ PySem.W.isFn K (.ref (ma K (ga K "Trial") "__enter__")) = true := spB_ok (T.exi 27)
theorem sp_exit (T : T72 K mg) : PySem.W.findIn K (.ref (ga K "Trial")) "__exit__" = some (some (.ref (ma K (ga K "Trial") "__exit__"))) ∧ PySem.W.isFn K (.ref (ma K (ga K "Trial") "__exit__")) = true := spB_ok (T.exi 28)
theorem sp_len (T : T72 K mg) : PySem.W.findIn K (.ref (ga K "Workshop")) "__len__" = some (some (.ref (ma K (ga K "Workshop") "__len__"))) ∧ PySem.W.isFn K (.ref (ma K (ga K "Workshop") "__len__")) = true := spB_ok (T.exi 29)
theorem ins_Trial (T : T72 K mg) : C8.InsC K (ga K "Trial") := insB_ok T.cl_Trial (T.exi 30)
theorem ne_Trial (T : T72 K mg) : Ne.NeC K (ga K "Trial") := Ne.neB_ok (T.exi 31)
theorem prop_names (T : T72 K mg) : PropOf K (ga K "Workshop") "names" (ma K (ga K "Workshop") "names") (pgt K (ga K "Workshop") "names") := propB_ok (T.exi 32)
theorem cm_read (T : T72 K mg) : ClX.CRead K (ga K "Part") (.type "type") ∧ ClX.CMet K (ga K "Part") (.type "type") "read" (ma K (ga K "Part") "read") (wf K (ga K "Part") "classmethod" "read") := cmB_ok (T.exi 33)
theorem kp_Part (T : T72 K mg) : PySem.W.keepIn K (.ref (ga K "Part")) = true := T.exi 34
theorem tup_WORDS (T : T72 K mg) (H : Hp) : SqT K H (ga K "WORDS") wordsV := tupB_ok (T.exi 35) H
theorem d_is_word (T : T72 K mg) : ∃ fd, Fun K "is_word" "is_word" s_is_word (ga K "is_word") fd := let ⟨fd, h⟩ := T.def_ 0 (d := dd_0); ⟨fd, fun_of h⟩
theorem d_check_header (T : T72 K mg) : ∃ fd, Fun K "check_header" "check_header" s_check_header (ga K "check_header") fd := let ⟨fd, h⟩ := T.def_ 1 (d := dd_1); ⟨fd, fun_of h⟩
theorem d_head_of (T : T72 K mg) : ∃ fd, Fun K "head_of" "head_of" s_head_of (ga K "head_of") fd := let ⟨fd, h⟩ := T.def_ 2 (d := dd_2); ⟨fd, fun_of h⟩
theorem d_check_together (T : T72 K mg) : ∃ fd, Fun K "check_together" "check_together" s_check_together (ga K "check_together") fd := let ⟨fd, h⟩ := T.def_ 3 (d := dd_3); ⟨fd, fun_of h⟩
theorem d_joined (T : T72 K mg) : ∃ fd, Fun K "joined" "joined" s_joined (ga K "joined") fd := let ⟨fd, h⟩ := T.def_ 4 (d := dd_4); ⟨fd, fun_of h⟩
theorem d_link (T : T72 K mg) : ∃ fd, Fun K "link" "link" s_link (ga K "link") fd := let ⟨fd, h⟩ := T.def_ 5 (d := dd_5); ⟨fd, fun_of h⟩
theorem d_within (T : T72 K mg) : ∃ fd, Fun K "within" "within" s_within (ga K "within") fd := let ⟨fd, h⟩ := T.def_ 6 (d := dd_6); ⟨fd, fun_of h⟩
theorem d_law_box (T : T72 K mg) : ∃ fd, Fun K "_law_box" "_law_box" s_law_box (ga K "_law_box") fd := let ⟨fd, h⟩ := T.def_ 7 (d := dd_7); ⟨fd, fun_of h⟩
theorem d_law_take (T : T72 K mg) : ∃ fd, Fun K "_law_take" "_law_take" s_law_take (ga K "_law_take") fd := let ⟨fd, h⟩ := T.def_ 8 (d := dd_8); ⟨fd, fun_of h⟩
theorem d_law_shown (T : T72 K mg) : ∃ fd, Fun K "_law_shown" "_law_shown" s_law_shown (ga K "_law_shown") fd := let ⟨fd, h⟩ := T.def_ 9 (d := dd_9); ⟨fd, fun_of h⟩
theorem d_law_put (T : T72 K mg) : ∃ fd, Fun K "_law_put" "_law_put" s_law_put (ga K "_law_put") fd := let ⟨fd, h⟩ := T.def_ 10 (d := dd_10); ⟨fd, fun_of h⟩
theorem d_law_drop (T : T72 K mg) : ∃ fd, Fun K "_law_drop" "_law_drop" s_law_drop (ga K "_law_drop") fd := let ⟨fd, h⟩ := T.def_ 11 (d := dd_11); ⟨fd, fun_of h⟩
theorem d_law_undo (T : T72 K mg) : ∃ fd, Fun K "_law_undo" "_law_undo" s_law_undo (ga K "_law_undo") fd := let ⟨fd, h⟩ := T.def_ 12 (d := dd_12); ⟨fd, fun_of h⟩
theorem d_law_caught (T : T72 K mg) : ∃ fd, Fun K "_law_caught" "_law_caught" s_law_caught (ga K "_law_caught") fd := let ⟨fd, h⟩ := T.def_ 13 (d := dd_13); ⟨fd, fun_of h⟩
theorem d_law_build_due (T : T72 K mg) : ∃ fd, Fun K "_law_build_due" "_law_build_due" s_law_build_due (ga K "_law_build_due") fd := let ⟨fd, h⟩ := T.def_ 14 (d := dd_14); ⟨fd, fun_of h⟩
theorem d_law_missed (T : T72 K mg) : ∃ fd, Fun K "_law_missed" "_law_missed" s_law_missed (ga K "_law_missed") fd := let ⟨fd, h⟩ := T.def_ 15 (d := dd_15); ⟨fd, fun_of h⟩
theorem d_law_inside (T : T72 K mg) : ∃ fd, Fun K "_law_inside" "_law_inside" s_law_inside (ga K "_law_inside") fd := let ⟨fd, h⟩ := T.def_ 16 (d := dd_16); ⟨fd, fun_of h⟩
theorem d_law_block (T : T72 K mg) : ∃ fd, Fun K "_law_block" "_law_block" s_law_block (ga K "_law_block") fd := let ⟨fd, h⟩ := T.def_ 17 (d := dd_17); ⟨fd, fun_of h⟩
theorem d_law_deeds (T : T72 K mg) : ∃ fd, Fun K "_law_deeds" "_law_deeds" s_law_deeds (ga K "_law_deeds") fd := let ⟨fd, h⟩ := T.def_ 18 (d := dd_18); ⟨fd, fun_of h⟩
theorem d_law (T : T72 K mg) : ∃ fd, Fun K "law" "law" s_law (ga K "law") fd := let ⟨fd, h⟩ := T.def_ 19 (d := dd_19); ⟨fd, fun_of h⟩
theorem d_InvalidProgram_init (T : T72 K mg) : ∃ fd, Fun K "__init__" "InvalidProgram.__init__" s_InvalidProgram_init (ma K (ga K "InvalidProgram") "__init__") fd := let ⟨fd, h⟩ := T.def_ 20 (d := dd_20); ⟨fd, fun_of h⟩
theorem d_InvalidText_init (T : T72 K mg) : ∃ fd, Fun K "__init__" "InvalidText.__init__" s_InvalidText_init (ma K (ga K "InvalidText") "__init__") fd := let ⟨fd, h⟩ := T.def_ 21 (d := dd_21); ⟨fd, fun_of h⟩
theorem d_InvalidPart_init (T : T72 K mg) : ∃ fd, Fun K "__init__" "InvalidPart.__init__" s_InvalidPart_init (ma K (ga K "InvalidPart") "__init__") fd := let ⟨fd, h⟩ := T.def_ 22 (d := dd_22); ⟨fd, fun_of h⟩
theorem d_UnknownName_init (T : T72 K mg) : ∃ fd, Fun K "__init__" "UnknownName.__init__" s_UnknownName_init (ma K (ga K "UnknownName") "__init__") fd := let ⟨fd, h⟩ := T.def_ 23 (d := dd_23); ⟨fd, fun_of h⟩
theorem d_Reader_init (T : T72 K mg) : ∃ fd, Fun K "__init__" "Reader.__init__" s_Reader_init (ma K (ga K "Reader") "__init__") fd := let ⟨fd, h⟩ := T.def_ 24 (d := dd_24); ⟨fd, fun_of h⟩
theorem d_Reader_is_over (T : T72 K mg) : ∃ fd, Fun K "is_over" "Reader.is_over" s_Reader_is_over (ma K (ga K "Reader") "is_over") fd := let ⟨fd, h⟩ := T.def_ 25 (d := dd_25); ⟨fd, fun_of h⟩
theorem d_Reader_begins (T : T72 K mg) : ∃ fd, Fun K "begins" "Reader.begins" s_Reader_begins (ma K (ga K "Reader") "begins") fd := let ⟨fd, h⟩ := T.def_ 26 (d := dd_26); ⟨fd, fun_of h⟩
theorem d_Reader_read_line (T : T72 K mg) : ∃ fd, Fun K "read_line" "Reader.read_line" s_Reader_read_line (ma K (ga K "Reader") "read_line") fd := let ⟨fd, h⟩ := T.def_ 27 (d := dd_27); ⟨fd, fun_of h⟩
theorem d_Reader_need (T : T72 K mg) : ∃ fd, Fun K "need" "Reader.need" s_Reader_need (ma K (ga K "Reader") "need") fd := let ⟨fd, h⟩ := T.def_ 28 (d := dd_28); ⟨fd, fun_of h⟩
theorem d_Reader_read_rows (T : T72 K mg) : ∃ fd, Fun K "read_rows" "Reader.read_rows" s_Reader_read_rows (ma K (ga K "Reader") "read_rows") fd := let ⟨fd, h⟩ := T.def_ 29 (d := dd_29); ⟨fd, fun_of h⟩
theorem d_Reader_read_header (T : T72 K mg) : ∃ fd, Fun K "read_header" "Reader.read_header" s_Reader_read_header (ma K (ga K "Reader") "read_header") fd := let ⟨fd, h⟩ := T.def_ 30 (d := dd_30); ⟨fd, fun_of h⟩
theorem d_Reader_read_procedures (T : T72 K mg) : ∃ fd, Fun K "read_procedures" "Reader.read_procedures" s_Reader_read_procedures (ma K (ga K "Reader") "read_procedures") fd := let ⟨fd, h⟩ := T.def_ 31 (d := dd_31); ⟨fd, fun_of h⟩
theorem d_Program_init (T : T72 K mg) : ∃ fd, Fun K "__init__" "Program.__init__" s_Program_init (ma K (ga K "Program") "__init__") fd := let ⟨fd, h⟩ := T.def_ 32 (d := dd_32); ⟨fd, fun_of h⟩
theorem d_Part_init (T : T72 K mg) : ∃ fd, Fun K "__init__" "Part.__init__" s_Part_init (ma K (ga K "Part") "__init__") fd := let ⟨fd, h⟩ := T.def_ 33 (d := dd_33); ⟨fd, fun_of h⟩
theorem d_Part_read (T : T72 K mg) : ∃ fd, Fun K "read" "Part.read" s_Part_read (wf K (ga K "Part") "classmethod" "read") fd := let ⟨fd, h⟩ := T.def_ 34 (d := dd_34); ⟨fd, fun_of h⟩
theorem d_Trial_init (T : T72 K mg) : ∃ fd, Fun K "__init__" "Trial.__init__" s_Trial_init (ma K (ga K "Trial") "__init__") fd := let ⟨fd, h⟩ := T.def_ 35 (d := dd_35); ⟨fd, fun_of h⟩
theorem d_Trial_enter (T : T72 K mg) : ∃ fd, Fun K "__enter__" "Trial.__enter__" s_Trial_enter (ma K (ga K "Trial") "__enter__") fd := let ⟨fd, h⟩ := T.def_ 36 (d := dd_36); ⟨fd, fun_of h⟩
theorem d_Trial_exit (T : T72 K mg) : ∃ fd, Fun K "__exit__" "Trial.__exit__" s_Trial_exit (ma K (ga K "Trial") "__exit__") fd := let ⟨fd, h⟩ := T.def_ 37 (d := dd_37); ⟨fd, fun_of h⟩
theorem d_Trial_keep (T : T72 K mg) : ∃ fd, Fun K "keep" "Trial.keep" s_Trial_keep (ma K (ga K "Trial") "keep") fd := let ⟨fd, h⟩ := T.def_ 38 (d := dd_38); ⟨fd, fun_of h⟩
theorem d_Workshop_init (T : T72 K mg) : ∃ fd, Fun K "__init__" "Workshop.__init__" s_Workshop_init (ma K (ga K "Workshop") "__init__") fd := let ⟨fd, h⟩ := T.def_ 39 (d := dd_39); ⟨fd, fun_of h⟩
theorem d_Workshop_len (T : T72 K mg) : ∃ fd, Fun K "__len__" "Workshop.__len__" s_Workshop_len (ma K (ga K "Workshop") "__len__") fd := let ⟨fd, h⟩ := T.def_ 40 (d := dd_40); ⟨fd, fun_of h⟩
theorem d_Workshop_names (T : T72 K mg) : ∃ fd, Fun K "names" "Workshop.names" s_Workshop_names (pgt K (ga K "Workshop") "names") fd := let ⟨fd, h⟩ := T.def_ 41 (d := dd_41); ⟨fd, fun_of h⟩
theorem d_Workshop_change (T : T72 K mg) : ∃ fd, Fun K "change" "Workshop.change" s_Workshop_change (ma K (ga K "Workshop") "change") fd := let ⟨fd, h⟩ := T.def_ 42 (d := dd_42); ⟨fd, fun_of h⟩
theorem d_Workshop_put (T : T72 K mg) : ∃ fd, Fun K "put" "Workshop.put" s_Workshop_put (ma K (ga K "Workshop") "put") fd := let ⟨fd, h⟩ := T.def_ 43 (d := dd_43); ⟨fd, fun_of h⟩
theorem d_Workshop_drop (T : T72 K mg) : ∃ fd, Fun K "drop" "Workshop.drop" s_Workshop_drop (ma K (ga K "Workshop") "drop") fd := let ⟨fd, h⟩ := T.def_ 44 (d := dd_44); ⟨fd, fun_of h⟩
theorem d_Workshop_undo (T : T72 K mg) : ∃ fd, Fun K "undo" "Workshop.undo" s_Workshop_undo (ma K (ga K "Workshop") "undo") fd := let ⟨fd, h⟩ := T.def_ 45 (d := dd_45); ⟨fd, fun_of h⟩
theorem d_Workshop_text (T : T72 K mg) : ∃ fd, Fun K "text" "Workshop.text" s_Workshop_text (ma K (ga K "Workshop") "text") fd := let ⟨fd, h⟩ := T.def_ 46 (d := dd_46); ⟨fd, fun_of h⟩
theorem d_Workshop_part_of (T : T72 K mg) : ∃ fd, Fun K "part_of" "Workshop.part_of" s_Workshop_part_of (ma K (ga K "Workshop") "part_of") fd := let ⟨fd, h⟩ := T.def_ 47 (d := dd_47); ⟨fd, fun_of h⟩
theorem d_Workshop_build (T : T72 K mg) : ∃ fd, Fun K "build" "Workshop.build" s_Workshop_build (ma K (ga K "Workshop") "build") fd := let ⟨fd, h⟩ := T.def_ 48 (d := dd_48); ⟨fd, fun_of h⟩
theorem d_Workshop_trial (T : T72 K mg) : ∃ fd, Fun K "trial" "Workshop.trial" s_Workshop_trial (ma K (ga K "Workshop") "trial") fd := let ⟨fd, h⟩ := T.def_ 49 (d := dd_49); ⟨fd, fun_of h⟩
end T72
end W72
-- H72
set_option Elab.async false
set_option linter.all false
set_option maxRecDepth 100000
set_option maxHeartbeats 0
namespace W72
open PySem PySem.Spec PyProof.Rows L2 He5
/-! ### the head -/
def tfs : List He.Defn := [("law", none), ("_law_deeds", none), ("_law_block", none)]
abbrev AlY : Type := He.AlD × Bool
/-- the names whose objects are looked at -/
def needs : List Str := (["is_word", "check_header", "head_of", "check_together", "joined", "link", "within", "_law_box", "_law_take", "_law_shown", "_law_put", "_law_drop", "_law_undo", "_law_caught", "_law_build_due", "_law_missed", "_law_inside", "_law_block", "_law_deeds", "law", "InvalidProgram", "InvalidText", "InvalidPart", "UnknownName", "Reader", "Program", "Part", "Trial", "Workshop", "Book"] : List Str) ++ (["SourError", "ARROW", "LETTERS", "WORDS"] : List Str)
def kids (g : Addr → Option Obj) (as : List Addr) : List Addr := as.flatMap fun a => match g a with
  | some o => (He.refsD o).filter fun b => !(b == mainGlobals)
  | none => []
def ga0 (g : Addr → Option Obj) (x : Str) : Addr := match g mainGlobals with
  | some o => ga [(mainGlobals, o)] x
  | none => 0
def asY (g : Addr → Option Obj) : List Addr :=
  let a0 := needs.map (ga0 g)
  let a1 := kids g a0
  let a2 := kids g a1
  let a3 := kids g a2
  let a4 := kids g a3
  mainGlobals :: cStatics :: (a0 ++ (a1 ++ (a2 ++ (a3 ++ a4))))
/-- the tables of two functions are two -/
def neB (K : PySem.W.Frag) : Bool := decide ((He.cT K ("_law_deeds", none)).2 ≠ (He.cT K ("_law_block", none)).2)
def obsY (g : Addr → Option Obj) : AlY := (obsA fas fns (He.frT g (asY g)), exs (He.frT g (asY g)) && (He.tabsB g tfs (He.frT g (asY g)) && neB (He.frT g (asY g))))
def ob (s : PySem.W.SharedT) : AlY := obsY (HandSHeadRun.getT s)
abbrev R : PySem.W.OpenRow := PySem.W.OpenLaw.row PySem.Challenge.rw_sourwright_k72_texts_in_a_workshop
def names : List PySem.Str := (["_wall", "__name__", "SourError", "InvalidProgram", "InvalidText", "InvalidPart", "LinkRefused", "Unfilled", "UnknownName", "WORDS", "LETTERS", "LONGEST", "is_word", "is_integer", "are_words", "DEEPEST", "FILLERS", "is_simple", "is_step", "steps_of", "reads_of", "needs_of", "fills_of", "empties_of", "act_of", "check_header", "check_sources", "Header", "check_names", "check_shelves"] : List PySem.Str) ++ (["names_and_shelves", "check_procedure", "state_after", "fewest_answers", "wrong_uses", "check_filled", "MOST", "BEYOND", "capped", "lesser", "greater", "LifeRow", "least_but", "LifeType", "met", "Carrying", "settled", "keeps_of", "composed_type", "DIGITS", "MOST_DIGITS", "number_of", "ARROW", "head_line", "step_lines", "body_lines", "book_lines", "procedure_lines", "with_words", "call_of"] : List PySem.Str) ++ (["step_of", "param_of", "head_of", "Reader", "read_program", "body_edges", "Procedure", "Book", "Program", "new_word", "waited", "Caller", "changed", "caller_for", "LACKING", "SOUR", "NEVER", "Use", "row_words", "term_of", "need_of", "bound_of", "use_of", "Part", "check_together", "is_given", "joined", "link", "Trial", "Workshop"] : List PySem.Str) ++ (["within", "_law_box", "_law_take", "_law_shown", "_law_put", "_law_drop", "_law_undo", "_law_caught", "_law_build_due", "_law_missed", "_law_inside", "_law_block", "_law_deeds"] : List PySem.Str)
/-- what the end leans on -/
structure SaysY (h : Heap) (K : PySem.W.Frag) : Prop where
  t : SaysA fas fns K
  more : exs K = true
  hd : ∀ p ∈ tfs, PySem.W.codeHdIn K (He.cT K p).1 (He.cT K p).2 = true
  out : ∀ p ∈ tfs, K.lookup (He.cT K p).2 = none
  ne : (He.cT K ("_law_deeds", none)).2 ≠ (He.cT K ("_law_block", none)).2
  empty : ∀ p ∈ tfs, h.get? (He.cT K p).2 = some { cls := .none, data := .fields #[] }
theorem saysY_of {h : Heap} (e : obsY h.get? = (valA fns, true)) : SaysY h (He.frT h.get? (asY h.get?)) := by
  have e1 : obsA fas fns (He.frT h.get? (asY h.get?)) = valA fns := congrArg (fun z : AlY => z.1) e
  have e2 : (exs (He.frT h.get? (asY h.get?)) && (He.tabsB h.get? tfs (He.frT h.get? (asY h.get?)) && neB (He.frT h.get? (asY h.get?)))) = true := congrArg (fun z : AlY => z.2) e
  obtain ⟨h1, h2'⟩ := He.ba e2
  obtain ⟨h2, h5⟩ := He.ba h2'
  have key : ∀ p ∈ tfs, PySem.W.codeHdIn (He.frT h.get? (asY h.get?)) (He.cT (He.frT h.get? (asY h.get?)) p).1 (He.cT (He.frT h.get? (asY h.get?)) p).2 = true ∧ ∃ o, h.get? (He.cT (He.frT h.get? (asY h.get?)) p).2 = some o ∧ He.emptyTab o = true := fun p hp => by
    obtain ⟨h3, h4⟩ := He.ba (List.all_eq_true.mp h2 p hp)
    refine ⟨h3, ?_⟩
    cases q : h.get? (He.cT (He.frT h.get? (asY h.get?)) p).2 with
    | none =>
      rw [q] at h4
      cases h4
    | some o =>
      rw [q] at h4
      exact ⟨o, rfl, h4⟩
  exact ⟨e1, h1, fun p hp => (key p hp).1, fun p hp => by
    obtain ⟨_, o, q, z⟩ := key p hp
    exact He.frT_none q z, of_decide_eq_true h5, fun p hp => by
    obtain ⟨_, o, q, z⟩ := key p hp
    rw [q, He.emptyTab_eq z]⟩
def hk : PySem.W.Hook where
  α := AlY
  obs := fun s => obsY s.heap.get?
  val := fun _ => (valA fns, true)
  says := fun _ h => ∃ K : PySem.W.Frag, K.In h ∧ SaysY h K
  of := fun _ _ e => ⟨_, He.frT_in, saysY_of e⟩
  keeps := fun _ _ _ ⟨K, hK, c⟩ k => ⟨K, PySem.W.Frag.In.keeps hK k, ⟨c.t, c.more, c.hd, c.out, c.ne, fun p hp => k _ _ (c.empty p hp)⟩⟩
theorem ob_eq (s : PySem.W.SharedT) : ob s = hk.obs s.abs := by
  have e : HandSHeadRun.getT s = s.abs.heap.get? := funext (HandSHeadRun.getT_eq s)
  show obsY (HandSHeadRun.getT s) = obsY s.abs.heap.get?
  rw [e]
theorem T72.of {h : Heap} {K : PySem.W.Frag} {mg : Str → Option Value} (X : K.In h) (G : h.Ns mainGlobals mg) (c : SaysY h K) : T72 K mg where
  fa := fun f hf => by
    obtain ⟨i, hi, e⟩ := List.mem_iff_getElem.mp hf
    exact c.t.fact i (f := f) (by rw [List.getElem?_eq_getElem hi, e])
  fn := fun d hd => by
    obtain ⟨i, hi, e⟩ := List.mem_iff_getElem.mp hd
    exact c.t.def_ i (d := d) (by rw [List.getElem?_eq_getElem hi, e])
  ex := c.more
  kin := ⟨h, X, G⟩
noncomputable abbrev endS (w : World) (os : PySem.OsState) : Option PySem.W.SharedT := HandSHeadRun.endF (HandSHeadRun.stepQ (HandSHeadRun.denQ HandSHeadRun.tabQ) R.prog w) 12100 R.prog w os
theorem runA (w : World) (os : PySem.OsState) : (endS w os).map (fun s => HandSHeadRun.looksF R.prog (PySem.W.boot_heap w.params) s.abs) = some true := by
  kernel_rfl
theorem runB (w : World) (os : PySem.OsState) : (endS w os).map (fun s => HandSHeadRun.seenQ (PySem.W.view R.prog [118]) names (importedModules R.prog.main.body) (fun s => PySem.W.xlAt (PySem.W.view R.prog [118]) [] s && PySem.W.recOk R.toRowW.records s) s.abs) = some (PySem.W.openGood (PySem.W.view R.prog [118]) names) := by
  kernel_rfl
theorem runC (w : World) (os : PySem.OsState) : (endS w os).map ob = some (hk.val w) := by
  kernel_rfl
theorem map3 {α β γ δ : Type} {o : Option α} {f : α → β} {g : α → γ} {k : α → δ} {a : β} {b : γ} {c : δ} (h1 : o.map f = some a) (h2 : o.map g = some b) (h3 : o.map k = some c) : o.map (fun s => (f s, g s, k s)) = some (a, b, c) := by
  cases o with
  | none => cases h1
  | some s =>
    have e1 : f s = a := Option.some.inj h1
    have e2 : g s = b := Option.some.inj h2
    have e3 : k s = c := Option.some.inj h3
    rw [Option.map_some, e1, e2, e3]
theorem run (w : World) : HandSHeadRun.RunEq R (PySem.W.view R.prog [118]) hk ob 12100 names w := fun os => map3 (runA w os) (runB w os) (runC w os)
end W72
-- E72a
set_option Elab.async false
set_option linter.all false
set_option maxRecDepth 100000
set_option maxHeartbeats 0
namespace W72
open PySem PySem.W PySem.Calls PyProof.Rows
/-- the statement, from what the law's def keeps: the head's looks are done here, ahead of the defs (they want memory) -/
theorem holds_of (F : ∀ (w : World) (mg : PySem.Str → Option Value) (fa : Addr) (h : Heap), (∃ K : PySem.W.Frag, K.In h ∧ SaysY h K) → h.Ns mainGlobals mg → mg ("law" : PySem.Str) = some (.ref fa) →
    ∃ K : PySem.W.Frag, K.In h ∧ LamX.LawAtS PySem.Challenge.rw_sourwright_k72_texts_in_a_workshop w K L2.CX0 37 63 "_law_script" mg fa h) : PySem.Challenge.rw_sourwright_k72_texts_in_a_workshop.Holds := by
  w_on; o_law
  refine HandSHeadRun.head_any (r := OpenLaw.row PySem.Challenge.rw_sourwright_k72_texts_in_a_workshop) (q := view (OpenLaw.row PySem.Challenge.rw_sourwright_k72_texts_in_a_workshop).prog [118]) (H := W72.hk) (ob := W72.ob) (M := 12100) (loose := W72.names) (d := HandSHeadRun.topDef (OpenLaw.row PySem.Challenge.rw_sourwright_k72_texts_in_a_workshop).prog 118) (kwd := []) W72.ob_eq
    (by kernel_rfl) (fun s => by kernel_rfl) W72.run (by kernel_rfl) (by kernel_rfl) (by kernel_rfl) (by rfl) (by first | assumption | decide +kernel) (by decide +kernel) ⟨rfl, rfl, rfl, rfl, rfl, by decide +kernel⟩ ?hw ?hc
  case hw => w_witness2
  case hc =>
    refine LamX.walk_ofTsE (l := PySem.Challenge.rw_sourwright_k72_texts_in_a_workshop) (n := 63) (k := 37) (x := "_law_script") (CX := fun _ => L2.CX0) rfl (by decide) (by kernel_rfl) ⟨rfl, by decide, by decide⟩ ?F (fun _ _ _ _ _ z => z)
    intro w mg fa h Y G hmg0
    have hmg : mg ("law" : PySem.Str) = some (.ref fa) := by
      have e : (HandSHeadRun.topDef (OpenLaw.row PySem.Challenge.rw_sourwright_k72_texts_in_a_workshop).prog 118).name = ("law" : PySem.Str) := by kernel_rfl
      rw [← e]
      exact hmg0
    exact F w mg fa h Y G hmg
end W72
-- Rd
set_option Elab.async false
set_option linter.all false
set_option maxRecDepth 100000
set_option maxHeartbeats 400000
/-! steps of a reading, one lemma a word -/
namespace Rd
open PySem PySem.Spec PyProof.Rows L2
section
variable {K : PySem.W.Frag} {σ : L2.St} {H : Hp} {Q : VK} {QA : List V → Hp → Prop} {D : Ends} {i : Nat} {v x y : V} {te ta tb : TE} {t u : TS} {tt uu : TT} {tA : TA} {QB : Bool → Hp → Prop}
theorem var (h : σ[i]? = some (some v)) (q : Q v H) : tVar i σ H Q := ⟨v, h, q⟩
theorem con (q : Q v H) : tC v σ H Q := q
theorem seq (q : t { D with nx := u D } σ H) : tSeq t u D σ H := q
theorem nxt (q : D.nx σ H) : tNext D σ H := q
theorem ret (q : te σ H D.rt) : tRet te D σ H := q
theorem retN (q : D.rt .non H) : tRetN D σ H := q
theorem asg {g : TG} (q : te σ H fun x H1 => g x σ H1 D.nx) : tAsg te g D σ H := q
theorem gname {QS : L2.St → Hp → Prop} (q : QS (σ.set i (some v)) H) : gName i v σ H QS := q
theorem gsub {to ti : TE} {ts : TSet} {QS : L2.St → Hp → Prop} (q : to σ H fun o H1 => ti σ H1 fun j H2 => ts o j v H2 fun H3 => QS σ H3) : gSub to ti ts v σ H QS := q
theorem op {r : R2} (q : ta σ H fun x H1 => tb σ H1 fun y H2 => r x y H2 Q) : tOp r ta tb σ H Q := q
theorem test (q : te σ H fun x H' => ∃ k, x = .bl k ∧ QB k H') : tTest te σ H QB := q
theorem bk {b : Bool} {R : Bool → Prop} (q : R b) : ∃ k, V.bl b = .bl k ∧ R k := ⟨b, rfl, q⟩
theorem cons (q : te σ H fun x H1 => tA σ H1 fun xs H2 => QA (x :: xs) H2) : tCons te tA σ H QA := q
theorem nil (q : QA [] H) : tNil σ H QA := q
theorem ri0 {g : Int → Int → V} {a b : Int} (q : Q (g a b) H) : rI0 g (.int a) (.int b) H Q := ⟨a, b, rfl, rfl, q⟩
theorem ri {C : Int → Int → Prop} {g : Int → Int → V} {a b : Int} (c : C a b) (q : Q (g a b) H) : rI C g (.int a) (.int b) H Q := ⟨a, b, rfl, rfl, c, q⟩
theorem mulL {g : Int → Int → V} {a b : Int} (c : decide (-(2 ^ 64) < a ∧ a < 2 ^ 64) = true) (q : Q (g a b) H) : rI CMul g (.int a) (.int b) H Q := ⟨a, b, rfl, rfl, .inl (of_decide_eq_true c), q⟩
theorem mulR {g : Int → Int → V} {a b : Int} (c : decide (-(2 ^ 64) < b ∧ b < 2 ^ 64) = true) (q : Q (g a b) H) : rI CMul g (.int a) (.int b) H Q := ⟨a, b, rfl, rfl, .inr (of_decide_eq_true c), q⟩
theorem modK {g : Int → Int → V} {a b : Int} (c : decide (0 < b) = true) (q : Q (g a b) H) : rI (fun _ j => 0 < j) g (.int a) (.int b) H Q := ⟨a, b, rfl, rfl, of_decide_eq_true c, q⟩
theorem divK {g : Int → Int → V} {a b : Int} (c : decide (0 < b ∧ b < 1073741824) = true) (q : Q (g a b) H) : rI CDiv g (.int a) (.int b) H Q := by
  have c2 : 0 < b ∧ b < 1073741824 := of_decide_eq_true c
  exact ⟨a, b, rfl, rfl, c2, q⟩
theorem req (h : scal x y = true) (q : Q (.bl (decide (x = y))) H) : rEq x y H Q := ⟨h, q⟩
theorem rne (h : scal x y = true) (q : Q (.bl (!decide (x = y))) H) : rNe x y H Q := ⟨h, q⟩
theorem ixl {p : Addr} {xs : List V} {j : Int} (h : H p = some (.lst xs)) (e : atI xs j = some v) (q : Q v H) : rIxL K (.ref p) (.int j) H Q := ⟨p, xs, j, v, rfl, rfl, .of h, e, q⟩
theorem ixt {p : Addr} {xs : List V} {j : Int} (h : H p = some (.tup xs)) (e : atI xs j = some v) (q : Q v H) : rIxT K (.ref p) (.int j) H Q := ⟨p, xs, j, v, rfl, rfl, .of h, e, q⟩
theorem setl {p : Addr} {xs : List V} {k : Int} {j : Nat} {QH : Hp → Prop} (h : H p = some (.lst xs)) (e : ixN xs.length k = some j) (q : QH (upd H p (.lst (xs.set j v)))) : rSetL (.ref p) (.int k) v H QH := ⟨p, xs, k, j, rfl, rfl, h, e, q⟩
theorem ifs (q : tt σ H fun b H1 => if b = true then t D σ H1 else u D σ H1) : tIfS tt t u D σ H := q
theorem ifexp (q : tt σ H fun c H1 => if c = true then ta σ H1 Q else tb σ H1 Q) : tIf tt ta tb σ H Q := q
theorem andT (q : tt σ H fun c H1 => if c = true then uu σ H1 QB else QB false H1) : tAnd tt uu σ H QB := q
theorem orT (q : tt σ H fun c H1 => if c = true then QB true H1 else uu σ H1 QB) : tOr tt uu σ H QB := q
theorem notT (q : tt σ H fun c H1 => QB (!c) H1) : tNot tt σ H QB := q
theorem tup (q : tA σ H fun xs H1 => xs.length ≤ sizeLine ∧ ∀ p, H1 p = none → Q (.ref p) (upd H1 p (.tup xs))) : tTup tA σ H Q := q
theorem lst (q : tA σ H fun xs H1 => xs.length ≤ sizeLine ∧ ∀ p, H1 p = none → Q (.ref p) (upd H1 p (.lst xs))) : tLst tA σ H Q := q
theorem fld {f : Str} {a C dx : Addr} {fs : List (Str × V)} (q : ta σ H fun x H1 => ∃ a C dx fs v, x = .ref a ∧ H1 a = some (.ins C dx fs) ∧ Cls K C ∧ NoAttr K C f ∧ fs.lookup f = some v ∧ Q v H1) : tFld K ta f σ H Q := q
theorem fldE {f : Str} {a C dx : Addr} {fs : List (Str × V)} (h : H a = some (.ins C dx fs)) (c : Cls K C) (n : NoAttr K C f) (e : fs.lookup f = some v) (q : Q v H) :
    ∃ a' C dx fs v', V.ref a = .ref a' ∧ H a' = some (.ins C dx fs) ∧ Cls K C ∧ NoAttr K C f ∧ fs.lookup f = some v' ∧ Q v' H := ⟨a, C, dx, fs, v, rfl, h, c, n, e, q⟩
theorem cb {r : List V → Hp → VK → Prop} (q : tA σ H fun vs H1 => r vs H1 Q) : tCB r tA σ H Q := q
theorem line {n : Nat} {A : Prop} (h : n ≤ 1000) (a : A) : n ≤ sizeLine ∧ A := ⟨Nat.le_of_lt (small1000 h), a⟩
theorem lenL {p : Addr} {ys : List V} {R : List V → Prop} (h : H p = some (.lst ys)) (q : R ys) : ∃ p' zs, [V.ref p] = [V.ref p'] ∧ (SqL K H p' zs ∨ SqT K H p' zs) ∧ R zs := ⟨p, ys, rfl, .inl (.of h), q⟩
theorem lenT {p : Addr} {ys : List V} {R : List V → Prop} (h : H p = some (.tup ys)) (q : R ys) : ∃ p' zs, [V.ref p] = [V.ref p'] ∧ (SqL K H p' zs ∨ SqT K H p' zs) ∧ R zs := ⟨p, ys, rfl, .inr (.of h), q⟩
theorem dget0 {td ty : TE} (q : td σ H fun x H1 => ty σ H1 fun y H2 => ∃ a v, x = .ref a ∧ DGet H2 a y (some v) ∧ Q v H2) : tDGet td ty σ H Q := q
theorem dgetE {a : Addr} {k : Str} {kvs : List (Key × V)} {R : V → Prop} (h : H a = some (.dK kvs)) (e : valV kvs (Sum.inr k) = some v) (q : R v) : ∃ a' v', V.ref a = .ref a' ∧ DGet H a' (.str k) (some v') ∧ R v' := ⟨a, v, rfl, by rw [← e]; exact .k (k := Sum.inr k) h, q⟩
theorem dput0 {td ty tv : TE} (q : tv σ H fun v H1 => td σ H1 fun x H2 => ty σ H2 fun y H3 => ∃ a H4, x = .ref a ∧ DPut H3 a y v H4 ∧ D.nx σ H4) : sDPut td ty tv D σ H := q
theorem dputE {a : Addr} {k : Str} {kvs : List (Key × V)} {R : Hp → Prop} (h : H a = some (.dK kvs)) (hl : kvs.length ≤ 1000) (q : R (upd H a (.dK (putK kvs (Sum.inr k) v)))) : ∃ a' H4, V.ref a = .ref a' ∧ DPut H a' (.str k) v H4 ∧ R H4 := ⟨a, _, rfl, .k (k := Sum.inr k) h (small1000 hl), q⟩
theorem setd {a : Addr} {k : Str} {kvs : List (Key × V)} {QH : Hp → Prop} (h : H a = some (.dK kvs)) (hl : kvs.length ≤ 1000) (q : QH (upd H a (.dK (putK kvs (Sum.inr k) v)))) : rSetD (.ref a) (.str k) v H QH := ⟨a, _, rfl, .k (k := Sum.inr k) h (small1000 hl), q⟩
theorem fld0 {f : Str} (q : ta σ H fun x H1 => ∃ a C dx fs v, x = .ref a ∧ H1 a = some (.ins C dx fs) ∧ Cls K C ∧ NoAttr K C f ∧ fs.lookup f = some v ∧ Q v H1) : tFld K ta f σ H Q := q
theorem fldE' {f : Str} {a C dx : Addr} {fs : List (Str × V)} {R : V → Prop} (h : H a = some (.ins C dx fs)) (c : Cls K C) (n : NoAttr K C f) (e : fs.lookup f = some v) (q : R v) :
    ∃ a' C dx fs v', V.ref a = .ref a' ∧ H a' = some (.ins C dx fs) ∧ Cls K C ∧ NoAttr K C f ∧ fs.lookup f = some v' ∧ R v' := ⟨a, C, dx, fs, v, rfl, h, c, n, e, q⟩
theorem sfld0 {tv : TE} {f : Str} (q : tv σ H fun y H1 => ta σ H1 fun x H2 => ∃ a C dx fs, x = .ref a ∧ H2 a = some (.ins C dx fs) ∧ Cls K C ∧ NoAttr K C f ∧ fs.length < 1000 ∧ D.nx σ (upd H2 a (.ins C dx (putF f y fs)))) : sFld K ta tv f D σ H := q
theorem sfldE {f : Str} {a C dx : Addr} {fs fs' : List (Str × V)} {R : Hp → Prop} (h : H a = some (.ins C dx fs)) (c : Cls K C) (n : NoAttr K C f) (l : fs.length < 1000) (e : putF f y fs = fs') (q : R (upd H a (.ins C dx fs'))) :
    ∃ a' C dx fs, V.ref a = .ref a' ∧ H a' = some (.ins C dx fs) ∧ Cls K C ∧ NoAttr K C f ∧ fs.length < 1000 ∧ R (upd H a' (.ins C dx (putF f y fs))) := ⟨a, C, dx, fs, rfl, h, c, n, l, by rw [e]; exact q⟩
theorem sl {r : V → Option Int → Option Int → Hp → VK → Prop} {tl th : TO} (q : te σ H fun x H1 => tl σ H1 fun l H2 => th σ H2 fun u H3 => r x l u H3 Q) : tSl r te tl th σ H Q := q
theorem nopart {QO : Option Int → Hp → Prop} (q : QO none H) : tNoPart σ H QO := q
theorem part0 {QO : Option Int → Hp → Prop} (q : te σ H fun x H1 => ∃ i, x = .int i ∧ QO (some i) H1) : tPart te σ H QO := q
theorem intE {j : Int} {R : Int → Prop} (q : R j) : ∃ i, V.int j = .int i ∧ R i := ⟨j, rfl, q⟩
theorem un {r : V → Hp → VK → Prop} (q : ta σ H fun x H1 => r x H1 Q) : tUn r ta σ H Q := q
theorem ru {g : Int → V} {j : Int} (q : Q (g j) H) : rU g (.int j) H Q := ⟨j, rfl, q⟩
theorem expr (q : te σ H fun _ H1 => D.nx σ H1) : tDrop te D σ H := q
theorem gtup {n : Nat} {tg : TGs} {a : Addr} {xs : List V} {QS : L2.St → Hp → Prop} (h : H a = some (.tup xs)) (hn : xs.length = n) (q : tg xs σ H QS) : gTup K n tg (.ref a) σ H QS := ⟨a, xs, rfl, .of h, hn, q⟩
theorem gcons {g : TG} {u : TGs} {xs : List V} {QS : L2.St → Hp → Prop} (q : g v σ H fun σ' H' => u xs σ' H' QS) : gCons g u (v :: xs) σ H QS := ⟨v, xs, rfl, q⟩
theorem gnil {QS : L2.St → Hp → Prop} (q : QS σ H) : gNil [] σ H QS := ⟨rfl, q⟩
theorem call {sp : Sp} {E : XK} (q : tA σ H fun vs H1 => sp (vs ++ []) H1 Q E) : tCall sp [] E tA σ H Q := q
theorem isN {R : Bool → Prop} (q : R (decide (x = V.non))) : V.non = V.non ∧ R (decide (x = V.non)) := ⟨rfl, q⟩
theorem tbE (q : te σ H fun x H' => ∃ k, x = .bl k ∧ QB k H') : tB te σ H QB := q
theorem andV (q : te σ H fun x H1 => ∃ c, x = .bl c ∧ if c = true then ta σ H1 Q else Q (.bl false) H1) : tAndV te ta σ H Q := q
theorem chain {r r' : R2} {tc : TE} (q : ta σ H fun x H1 => tb σ H1 fun y H2 => r x y H2 fun z H3 => ∃ k, z = .bl k ∧ if k = true then tc σ H3 fun w' H4 => r' y w' H4 Q else Q (.bl false) H3) : tChain r r' ta tb tc σ H Q := q
theorem yes (q : QB true H) : tYes σ H QB := q
theorem ifT {A B : Prop} (a : A) : if true = true then A else B := by rw [if_pos rfl]; exact a
theorem ifF {A B : Prop} (b : B) : if false = true then A else B := by rw [if_neg Bool.false_ne_true]; exact b
theorem ifNT {A B : Prop} (b : B) : if (!true) = true then A else B := by rw [if_neg (by decide)]; exact b
theorem ifNF {A B : Prop} (a : A) : if (!false) = true then A else B := by rw [if_pos (by decide)]; exact a
theorem inS {p : Addr} {xs : List V} (h : SqL K H p xs ∨ SqT K H p xs) (fx : flatV x = true) (fs : xs.all flatV = true) (q : Q (.bl (inV x xs)) H) : rIn K false x (.ref p) H Q := ⟨p, xs, rfl, h, fx, fs, by rw [if_neg Bool.false_ne_true]; exact q⟩
theorem notIn {p : Addr} {xs : List V} (h : SqL K H p xs ∨ SqT K H p xs) (fx : flatV x = true) (fs : xs.all flatV = true) (q : Q (.bl (!inV x xs)) H) : rIn K true x (.ref p) H Q := ⟨p, xs, rfl, h, fx, fs, by rw [if_pos rfl]; exact q⟩
theorem meth0 {C : Addr} {m : Str} {sp : Sp} {E : XK} (q : te σ H fun x H1 => ∃ a dx fs, x = .ref a ∧ H1 a = some (.ins C dx fs) ∧ fs.lookup m = none ∧ tA σ H1 fun vs H2 => sp (x :: (vs ++ [])) H2 Q E) : tMeth C m sp [] E te tA σ H Q := q
theorem prop0 {C : Addr} {sp : Sp} {E : XK} (q : te σ H fun x H1 => ∃ a dx fs, x = .ref a ∧ H1 a = some (.ins C dx fs) ∧ sp (.ref a :: []) H1 Q E) : tProp C sp [] E te σ H Q := q
theorem insE {C a dx : Addr} {fs : List (Str × V)} {m : Str} {R : Addr → Prop} (h : H a = some (.ins C dx fs)) (l : fs.lookup m = none) (q : R a) : ∃ a' dx fs, V.ref a = .ref a' ∧ H a' = some (.ins C dx fs) ∧ fs.lookup m = none ∧ R a' := ⟨a, dx, fs, rfl, h, l, q⟩
theorem lenS {p : Addr} {ys : List V} {R : List V → Prop} (h : SqL K H p ys ∨ SqT K H p ys) (q : R ys) : ∃ p' zs, [V.ref p] = [V.ref p'] ∧ (SqL K H p' zs ∨ SqT K H p' zs) ∧ R zs := ⟨p, ys, rfl, h, q⟩
theorem tupF (q : tA σ H fun xs H1 => xs.length ≤ sizeLine ∧ ∀ p o, H1 p = none → o.dict = none → Q (.ref p) (upd H1 p (.frz o (.tup xs)))) : Ft.tTupF tA σ H Q := q
theorem asg2 {g1 g2 : TG} (q : te σ H fun x H1 => g1 x σ H1 fun σ' H' => g2 x σ' H' D.nx) : tAsg2 te g1 g2 D σ H := q
/-- an attribute of an own instance as a target -/
def gFld (K : PySem.W.Frag) (ta : TE) (f : Str) : TG := fun v σ H Q => ta σ H fun x H2 => ∃ a C dx fs, x = .ref a ∧ H2 a = some (.ins C dx fs) ∧ Cls K C ∧ NoAttr K C f ∧ fs.length < 1000 ∧ Q σ (upd H2 a (.ins C dx (putF f v fs)))
theorem gfld {f : Str} {QS : L2.St → Hp → Prop} (q : ta σ H fun x H2 => ∃ a C dx fs, x = .ref a ∧ H2 a = some (.ins C dx fs) ∧ Cls K C ∧ NoAttr K C f ∧ fs.length < 1000 ∧ QS σ (upd H2 a (.ins C dx (putF f v fs)))) : gFld K ta f v σ H QS := q
end
theorem gfldV {K : PySem.W.Frag} {σ : L2.St} {H : Hp} {i : Nat} {f : Str} {v : V} {a C dx : Addr} {fs fs' : List (Str × V)} {QS : L2.St → Hp → Prop} (h : H a = some (.ins C dx fs)) (c : Cls K C) (n : NoAttr K C f) (l : fs.length < 1000) (e : putF f v fs = fs') (hv : σ[i]? = some (some (.ref a))) (q : QS σ (upd H a (.ins C dx fs'))) :
    gFld K (tVar i) f v σ H QS := ⟨.ref a, hv, a, C, dx, fs, rfl, h, c, n, l, by rw [e]; exact q⟩
theorem pg_fld {X : Cx} {o : Expr} {to : TE} {f : Str} {pos : Pos} (ho : PE X o to)
    (ha : ∀ v, assign (.Attribute o f pos) X.env v = (do
      let ov ← holding [v] (eval o X.env)
      standAt pos.atName
      holding [v, ov] (setAttr ov f v)
      release [v, ov] []) := by intro _; rfl) : PG X (.Attribute o f pos) (gFld X.K to f) := by
  refine ⟨fun pins s σ H v u Q I r h => ?_⟩
  rw [ha]
  refine wpAny_bind (wpAny_holding (thn (ho.run pins s σ H _ I h) fun ov s1 ⟨x, H1, I1, r1, a, C, dx, fs, ex, ea, c, n, l, q⟩ => ?_))
  subst ex
  obtain rfl : ov = Value.ref a := r1
  refine wpAny_bind (wpAny_standAt (wpAny_bind (wpAny_holding (setattr_ok I1 ea c n l r fun s' J => ?_))))
  exact wpAny_release ⟨σ, _, J, q⟩
end Rd
-- S72
set_option Elab.async false
set_option linter.all false
set_option maxRecDepth 100000
set_option maxHeartbeats 400000
namespace W72
open PySem PySem.Spec PyProof.Rows L2 Ft
/-! ### frames -/
/-- all that is tracked stays -/
def Ext (H H' : Hp) : Prop := ∀ b o, H b = some o → H' b = some o
theorem Ext.refl (H : Hp) : Ext H H := fun _ _ h => h
theorem Ext.trans {H H1 H2 : Hp} (a : Ext H H1) (b : Ext H1 H2) : Ext H H2 := fun c o h => b c o (a c o h)
theorem Ext.new {H : Hp} {p : Addr} {o : HO} (n : H p = none) : Ext H (upd H p o) := fun b u h => by rw [upd_ne (ne_of_none h n)]; exact h
theorem Ext.newL {H H' : Hp} {p : Addr} {o : HO} (e : Ext H H') (n : H' p = none) : Ext H (upd H' p o) := e.trans (.new n)
/-- all that is tracked stays but the objects at M and the tables of code objects -/
def KeepN (M : List Addr) (H H' : Hp) : Prop := ∀ b o, H b = some o → b ∉ M → (∀ ps, o ≠ .tbl ps) → H' b = some o
theorem KeepN.of {M : List Addr} {H H' : Hp} (e : Ext H H') : KeepN M H H' := fun b o h _ _ => e b o h
theorem KeepN.refl (M : List Addr) (H : Hp) : KeepN M H H := fun _ _ h _ _ => h
theorem KeepN.trans {M : List Addr} {H H1 H2 : Hp} (a : KeepN M H H1) (b : KeepN M H1 H2) : KeepN M H H2 := fun c o h m n => b c o (a c o h m n) m n
theorem KeepN.mono {M M' : List Addr} {H H' : Hp} (a : KeepN M H H') (s : ∀ b ∈ M, b ∈ M') : KeepN M' H H' := fun c o h m n => a c o h (fun z => m (s c z)) n
theorem KeepN.put {M : List Addr} {H H1 : Hp} {p : Addr} {o : HO} (a : KeepN M H H1) (hp : p ∈ M) : KeepN M H (upd H1 p o) := fun c u h m n => by
  rw [upd_ne (fun z => m (by rw [z]; exact hp))]
  exact a c u h m n
theorem KeepN.new {M : List Addr} {H H1 : Hp} {p : Addr} {o : HO} (a : KeepN M H H1) (np : H p = none) : KeepN M H (upd H1 p o) := fun c u h m n => by
  rw [upd_ne (ne_of_none h np)]
  exact a c u h m n
/-- all that is tracked stays but the objects at M -/
def Keep (M : List Addr) (H H' : Hp) : Prop := ∀ b o, H b = some o → b ∉ M → H' b = some o
theorem Keep.n {M : List Addr} {H H' : Hp} (k : Keep M H H') : KeepN M H H' := fun b o h m _ => k b o h m
theorem Keep.of {M : List Addr} {H H' : Hp} (e : Ext H H') : Keep M H H' := fun b o h _ => e b o h
theorem Keep.refl (M : List Addr) (H : Hp) : Keep M H H := fun _ _ h _ => h
theorem Keep.trans {M : List Addr} {H H1 H2 : Hp} (a : Keep M H H1) (b : Keep M H1 H2) : Keep M H H2 := fun c o h m => b c o (a c o h m) m
theorem Keep.mono {M M' : List Addr} {H H' : Hp} (a : Keep M H H') (s : ∀ b ∈ M, b ∈ M') : Keep M' H H' := fun c o h m => a c o h (fun z => m (s c z))
theorem Keep.put {M : List Addr} {H H1 : Hp} {p : Addr} {o : HO} (a : Keep M H H1) (hp : p ∈ M) : Keep M H (upd H1 p o) := fun c u h m => by
  rw [upd_ne (fun z => m (by rw [z]; exact hp))]
  exact a c u h m
theorem Keep.new {M : List Addr} {H H1 : Hp} {p : Addr} {o : HO} (a : Keep M H H1) (np : H p = none) : Keep M H (upd H1 p o) := fun c u h m => by
  rw [upd_ne (ne_of_none h np)]
  exact a c u h m
/-- a thing that may change -/
def MuO : HO → Prop
  | .lst xs => ∃ x ∈ xs, ∀ a, x ≠ .ref a
  | .ins _ _ _ => True
  | .dK kvs => kvs ≠ []
  | _ => False
def MOk (M : List Addr) (H : Hp) : Prop := ∀ b ∈ M, ∃ o, H b = some o ∧ MuO o
theorem KeepN.at_ {M : List Addr} {H H' : Hp} {a : Addr} {o : HO} (k : KeepN M H H') (m : MOk M H) (h : H a = some o) (nm : ¬ MuO o) (nt : ∀ ps, o ≠ .tbl ps) : H' a = some o := by
  refine k a o h (fun z => ?_) nt
  obtain ⟨u, e, mu⟩ := m a z
  rw [h] at e
  cases e
  exact nm mu
theorem KeepN.tup {M : List Addr} {H H' : Hp} {a : Addr} {xs : List V} (k : KeepN M H H') (m : MOk M H) (h : H a = some (.tup xs)) : H' a = some (.tup xs) := k.at_ m h (fun z => z) (fun _ z => by cases z)
theorem KeepN.refs {M : List Addr} {H H' : Hp} {a : Addr} {as : List Addr} (k : KeepN M H H') (m : MOk M H) (h : H a = some (.lst (as.map V.ref))) : H' a = some (.lst (as.map V.ref)) := k.at_ m h (fun ⟨x, hx, n⟩ => by
  obtain ⟨b, _, e⟩ := List.mem_map.mp hx
  exact n b e.symm) (fun _ z => by cases z)
theorem KeepN.d0 {M : List Addr} {H H' : Hp} {a : Addr} (k : KeepN M H H') (m : MOk M H) (h : H a = some (.dK [])) : H' a = some (.dK []) := k.at_ m h (fun z => z rfl) (fun _ z => by cases z)
theorem Keep.tup {M : List Addr} {H H' : Hp} {a : Addr} {xs : List V} (k : Keep M H H') (m : MOk M H) (h : H a = some (.tup xs)) : H' a = some (.tup xs) := k.n.tup m h
theorem Keep.refs {M : List Addr} {H H' : Hp} {a : Addr} {as : List Addr} (k : Keep M H H') (m : MOk M H) (h : H a = some (.lst (as.map V.ref))) : H' a = some (.lst (as.map V.ref)) := k.n.refs m h
theorem Keep.d0 {M : List Addr} {H H' : Hp} {a : Addr} (k : Keep M H H') (m : MOk M H) (h : H a = some (.dK [])) : H' a = some (.dK []) := k.n.d0 m h
theorem MOk.cons {M : List Addr} {H : Hp} {a : Addr} {o : HO} (h : H a = some o) (mu : MuO o) (m : MOk M H) : MOk (a :: M) H := fun b hb => by
  rcases List.mem_cons.mp hb with e | hb
  · exact ⟨o, e ▸ h, mu⟩
  · exact m b hb
theorem MOk.nil {H : Hp} : MOk [] H := fun b hb => nomatch hb
/-! ### rows -/
abbrev Row := Str × Str
def PairT (H : Hp) (a : Addr) (r : Row) : Prop := H a = some (.tup [.str r.1, .str r.2])
def RowsL (H : Hp) (a : Addr) (rows : List Row) : Prop := ∃ as : List Addr, H a = some (.lst (as.map V.ref)) ∧ Paired (PairT H) as rows
def KeptT (H : Hp) (a : Addr) (rows : List Row) : Prop := ∃ as : List Addr, FT H a (as.map V.ref) ∧ Paired (PairT H) as rows
def PastL (H : Hp) (a : Addr) (past : List (List Row)) : Prop := ∃ as : List Addr, H a = some (.lst (as.map V.ref)) ∧ Paired (RowsL H) as past
def PastT (H : Hp) (a : Addr) (past : List (List Row)) : Prop := ∃ as : List Addr, H a = some (.tup (as.map V.ref)) ∧ Paired (KeptT H) as past
section
variable {M : List Addr} {H H' : Hp} {a : Addr} {rows : List Row} {past : List (List Row)}
theorem RowsL.keepN (h : RowsL H a rows) (k : KeepN M H H') (m : MOk M H) : RowsL H' a rows := let ⟨as, e, p⟩ := h; ⟨as, k.refs m e, Paired.mapP p fun _ _ z => k.tup m z⟩
theorem KeptT.keepN (h : KeptT H a rows) (k : KeepN M H H') (m : MOk M H) : KeptT H' a rows := let ⟨as, ⟨o, e, d⟩, p⟩ := h; ⟨as, ⟨o, k.at_ m e (fun z => z) (fun _ z => by cases z), d⟩, Paired.mapP p fun _ _ z => k.tup m z⟩
theorem PastL.keepN (h : PastL H a past) (k : KeepN M H H') (m : MOk M H) : PastL H' a past := let ⟨as, e, p⟩ := h; ⟨as, k.refs m e, Paired.mapP p fun _ _ z => z.keepN k m⟩
theorem PastT.keepN (h : PastT H a past) (k : KeepN M H H') (m : MOk M H) : PastT H' a past := let ⟨as, e, p⟩ := h; ⟨as, k.tup m e, Paired.mapP p fun _ _ z => z.keepN k m⟩
theorem RowsL.keep (h : RowsL H a rows) (k : Keep M H H') (m : MOk M H) : RowsL H' a rows := h.keepN k.n m
theorem KeptT.keep (h : KeptT H a rows) (k : Keep M H H') (m : MOk M H) : KeptT H' a rows := h.keepN k.n m
theorem PastL.keep (h : PastL H a past) (k : Keep M H H') (m : MOk M H) : PastL H' a past := h.keepN k.n m
theorem PastT.keep (h : PastT H a past) (k : Keep M H H') (m : MOk M H) : PastT H' a past := h.keepN k.n m
theorem RowsL.ext (h : RowsL H a rows) (e : Ext H H') : RowsL H' a rows := h.keepN (M := []) (.of e) .nil
theorem KeptT.ext (h : KeptT H a rows) (e : Ext H H') : KeptT H' a rows := h.keepN (M := []) (.of e) .nil
theorem PastL.ext (h : PastL H a past) (e : Ext H H') : PastL H' a past := h.keepN (M := []) (.of e) .nil
theorem PastT.ext (h : PastT H a past) (e : Ext H H') : PastT H' a past := h.keepN (M := []) (.of e) .nil
end
/-- the names and the texts that are put -/
def names4 : List Str := ["a", "b", "abcdef", "q"]
def texts7 : List Str := ["", "part a", "kind", "x\ny", "x\n", " x", "part a\n"]
structure RowsOk (rows : List Row) : Prop where
  nd : (rows.map (·.1)).Nodup
  nm : ∀ r ∈ rows, r.1 ∈ names4
  tx : ∀ r ∈ rows, r.2 ∈ texts7
theorem len_of_sub : ∀ {l m : List Str}, l.Nodup → (∀ x ∈ l, x ∈ m) → l.length ≤ m.length
  | [], _, _, _ => Nat.zero_le _
  | x :: l, m, nd, h => by
    rw [List.nodup_cons] at nd
    have hx : x ∈ m := h x List.mem_cons_self
    have h1 := len_of_sub (l := l) (m := m.erase x) nd.2 fun y hy => (List.mem_erase_of_ne (fun e => nd.1 (by rw [← e]; exact hy))).mpr (h y (List.mem_cons_of_mem _ hy))
    have h2 := List.length_erase_of_mem hx
    have h3 := List.length_pos_of_mem hx
    rw [List.length_cons]
    omega
theorem RowsOk.len {rows : List Row} (h : RowsOk rows) : rows.length ≤ 4 := by
  have h1 : (rows.map (·.1)).length ≤ names4.length := len_of_sub h.nd fun x hx => by
    obtain ⟨r, hr, e⟩ := List.mem_map.mp hx
    exact e ▸ h.nm r hr
  rw [List.length_map] at h1
  exact h1
theorem RowsOk.nil : RowsOk [] := ⟨List.nodup_nil, fun _ h => absurd h (by simp), fun _ h => absurd h (by simp)⟩
/-! ### a workshop, the list that stands for it -/
abbrev wsF (k p : Addr) (fl : Int) (kp : Addr) : List (Str × V) := [("kept_texts", .ref k), ("past", .ref p), ("floor", .int fl), ("known_parts", .ref kp)]
def WS (K : PySem.W.Frag) (H : Hp) (w : Addr) (rows : List Row) (past : List (List Row)) (fl : Int) : Prop :=
  ∃ dw k p kp, H w = some (.ins (ga K "Workshop") dw (wsF k p fl kp)) ∧ KeptT H k rows ∧ PastT H p past ∧ H kp = some (.dK [])
abbrev stF (r p : Addr) (fl : Int) (told : V) (o : Addr) : List (Key × V) := [(.inr "rows", .ref r), (.inr "past", .ref p), (.inr "floor", .int fl), (.inr "wrong", .bl false), (.inr "told", told), (.inr "open", .ref o)]
def ST (H : Hp) (s : Addr) (rows : List Row) (past : List (List Row)) (fl : Int) (told : V) (opens : List Addr) : Prop :=
  ∃ r p o, H s = some (.dK (stF r p fl told o)) ∧ RowsL H r rows ∧ PastL H p past ∧ H o = some (.lst (opens.map V.ref))
section
variable {K : PySem.W.Frag} {M : List Addr} {H H' : Hp} {w s : Addr} {rows : List Row} {past : List (List Row)} {fl : Int} {told : V} {opens : List Addr}
theorem WS.keepN (h : WS K H w rows past fl) (k : KeepN M H H') (m : MOk M H) (e : H' w = H w) : WS K H' w rows past fl :=
  let ⟨dw, kt, p, kp, h1, h2, h3, h4⟩ := h; ⟨dw, kt, p, kp, e.trans h1, h2.keepN k m, h3.keepN k m, k.d0 m h4⟩
theorem ST.keepN (h : ST H s rows past fl told opens) (k : KeepN M H H') (m : MOk M H) (e : H' s = H s) : ST H' s rows past fl told opens :=
  let ⟨r, p, o, h1, h2, h3, h4⟩ := h; ⟨r, p, o, e.trans h1, h2.keepN k m, h3.keepN k m, k.refs m h4⟩
theorem WS.keep (h : WS K H w rows past fl) (k : Keep M H H') (m : MOk M H) (e : H' w = H w) : WS K H' w rows past fl := h.keepN k.n m e
theorem ST.keep (h : ST H s rows past fl told opens) (k : Keep M H H') (m : MOk M H) (e : H' s = H s) : ST H' s rows past fl told opens := h.keepN k.n m e
theorem WS.ext (h : WS K H w rows past fl) (e : Ext H H') : WS K H' w rows past fl :=
  let ⟨dw, kt, p, kp, h1, h2, h3, h4⟩ := h; ⟨dw, kt, p, kp, e _ _ h1, h2.ext e, h3.ext e, e _ _ h4⟩
theorem ST.ext (h : ST H s rows past fl told opens) (e : Ext H H') : ST H' s rows past fl told opens :=
  let ⟨r, p, o, h1, h2, h3, h4⟩ := h; ⟨r, p, o, e _ _ h1, h2.ext e, h3.ext e, e _ _ h4⟩
end
/-! ### a comprehension over rows -/
theorem Paired.getP {α β : Type} {F : α → β → Prop} : ∀ {l₁ : List α} {l₂ : List β} {i : Nat} {x : α}, Paired F l₁ l₂ → l₁[i]? = some x → ∃ y, l₂[i]? = some y ∧ F x y
  | _, _, _, _, .nil, e => by simp at e
  | _, _, 0, _, .cons r _, e => by simp at e; subst e; exact ⟨_, rfl, r⟩
  | _, _, i + 1, x, .cons _ t, e => by
    obtain ⟨u, h1, h2⟩ := Paired.getP (i := i) (x := x) t (by simpa using e)
    exact ⟨u, by simpa using h1, h2⟩
theorem Paired.snoc {α β : Type} {F : α → β → Prop} {x : α} {y : β} : ∀ {l₁ : List α} {l₂ : List β}, Paired F l₁ l₂ → F x y → Paired F (l₁ ++ [x]) (l₂ ++ [y])
  | _, _, .nil, h => .cons h .nil
  | _, _, .cons r t, h => .cons r (Paired.snoc t h)
def Tups (H H' : Hp) : Prop := ∀ b xs, H b = some (.tup xs) → H' b = some (.tup xs)
theorem Ext.tups {H H' : Hp} (e : Ext H H') : Tups H H' := fun b xs h => e b _ h
section
variable {K : PySem.W.Frag} {a D : Addr} {as : List Addr} {rows : List Row} {g : TG} {tt : TT} {te : TE} {vs : List Nat} {σ : L2.St} {H1 : Hp} {Qd : Hp → Prop}
def RowsInv (D : Addr) (H1 : Hp) (rows : List Row) (keep : Row → Bool) (E : Hp → Row → V → Prop) (i : Nat) (H : Hp) : Prop := Ext H1 H ∧ ∃ ys, H D = some (.lst ys) ∧ Paired (E H) ((rows.take i).filter keep) ys
theorem rows_step {keep : Row → Bool} {E : Hp → Row → V → Prop} (hE : ∀ {H H' : Hp} {r : Row} {y : V}, Tups H H' → E H r y → E H' r y) (n0 : H1 D = none) (hp : Paired (PairT H1) as rows) (hl : rows.length ≤ 1000)
    (step : ∀ (r : Row) (b : Addr) (H : Hp) (K1 : V → Hp → Prop) (K0 : Hp → Prop), r ∈ rows → Ext H1 H → PairT H b r → (∀ y H', Ext H H' → keep r = true → E H' r y → K1 y H') → (∀ H', Ext H H' → keep r = false → K0 H') →
      g (.ref b) (wipe σ vs) H fun σ2 H2 => wipe σ2 vs = wipe σ vs ∧ tt σ2 H2 fun c H3 => if c = true then te σ2 H3 K1 else K0 H3)
    (i : Nat) (x : V) (H : Hp) (hx : (as.map V.ref)[i]? = some x) (p : RowsInv D H1 rows keep E i H) : g x (wipe σ vs) H fun σ2 H2 => wipe σ2 vs = wipe σ vs ∧ tt σ2 H2 fun b H3 =>
      if b = true then te σ2 H3 fun y H4 => ∃ acc, H4 D = some (.lst acc) ∧ acc.length < sizeLine ∧ RowsInv D H1 rows keep E (i + 1) (upd H4 D (.lst (acc ++ [y]))) else RowsInv D H1 rows keep E (i + 1) H3 := by
  obtain ⟨e1, ys, hD, hy⟩ := p
  rw [List.getElem?_map] at hx
  cases hb : as[i]? with
  | none => rw [hb] at hx; cases hx
  | some b =>
    rw [hb] at hx
    cases hx
    obtain ⟨r, hr, pr⟩ := Paired.getP hp hb
    have hi : i < rows.length := (List.getElem?_eq_some_iff.mp hr).1
    have et : rows.take (i + 1) = rows.take i ++ [r] := by rw [List.take_add_one, hr]; rfl
    refine step r b H _ _ (List.mem_of_getElem? hr) e1 (e1 _ _ pr) (fun y H' e k hy' => ?_) (fun H' e k => ?_)
    · refine ⟨ys, e _ _ hD, ?_, ?_, ys ++ [y], upd_same, ?_⟩
      · have l1 := Paired.length hy
        have l2 : ((rows.take i).filter keep).length ≤ (rows.take i).length := List.length_filter_le _ _
        rw [List.length_take] at l2
        exact small1000 (by omega)
      · intro b' o hb'
        rw [upd_ne (ne_of_none hb' n0)]
        exact e _ _ (e1 _ _ hb')
      · have tU : Tups H' (upd H' D (.lst (ys ++ [y]))) := fun b' xs hb' => by
          rw [upd_ne (fun z => by rw [z, e _ _ hD] at hb'; cases hb')]
          exact hb'
        rw [et, List.filter_append, List.filter_cons_of_pos k, List.filter_nil]
        exact Paired.snoc (Paired.mapP hy fun _ _ z => hE tU (hE e.tups z)) (hE tU hy')
    · refine ⟨e1.trans e, ys, e _ _ hD, ?_⟩
      rw [et, List.filter_append, List.filter_cons_of_neg (by rw [k]; exact Bool.false_ne_true), List.filter_nil, List.append_nil]
      exact Paired.mapP hy fun _ _ z => hE e.tups z
theorem rows_end {keep : Row → Bool} {E : Hp → Row → V → Prop} (hp : Paired (PairT H1) as rows) (hd : ∀ H ys, Ext H1 H → H D = some (.lst ys) → Paired (E H) (rows.filter keep) ys → Qd H) (H : Hp) (p : RowsInv D H1 rows keep E (as.map V.ref).length H) : Qd H := by
  obtain ⟨e1, ys, hD, hy⟩ := p
  rw [List.length_map, Paired.length hp, List.take_length] at hy
  exact hd H ys e1 hD hy
theorem rows_zero {keep : Row → Bool} {E : Hp → Row → V → Prop} (n0 : H1 D = none) : RowsInv D H1 rows keep E 0 (upd H1 D (.lst [])) := ⟨.new n0, [], upd_same, .nil⟩
/-- what a comprehension asks behind the making of its iterator -/
def lcW (J : It) (g : TG) (tt : TT) (te : TE) (vs : List Nat) (σ : L2.St) (Q : VK) (H1 : Hp) : Prop := ∀ D, H1 D = none → ∃ W : Nat → Nat → Hp → Prop, (∃ m, W 0 m (upd H1 D (.lst []))) ∧ ∀ i m H, W i m H →
  (J.stop i H ∧ Q (.ref D) H) ∨ (J.go i H ∧ ∃ Nx : Hp → Prop, (∀ H', Nx H' → ∃ m', m' < m ∧ W (i + 1) m' H') ∧ ∀ x H', J.yld i H x H' → g x (wipe σ vs) H' fun σ2 H2 => wipe σ2 vs = wipe σ vs ∧ tt σ2 H2 fun b H3 =>
    if b = true then te σ2 H3 fun y H4 => ∃ acc, H4 D = some (.lst acc) ∧ acc.length < sizeLine ∧ Nx (upd H4 D (.lst (acc ++ [y]))) else Nx H3)
variable {Q : VK}
/-- over the workshop's tuple -/
theorem lc_rowsT (keep : Row → Bool) (E : Hp → Row → V → Prop) (ha : FT H1 a (as.map V.ref)) (hE : ∀ {H H' : Hp} {r : Row} {y : V}, Tups H H' → E H r y → E H' r y) (hp : Paired (PairT H1) as rows) (hl : rows.length ≤ 1000)
    (step : ∀ (r : Row) (b : Addr) (H : Hp) (K1 : V → Hp → Prop) (K0 : Hp → Prop), r ∈ rows → Ext H1 H → PairT H b r → (∀ y H', Ext H H' → keep r = true → E H' r y → K1 y H') → (∀ H', Ext H H' → keep r = false → K0 H') →
      g (.ref b) (wipe σ vs) H fun σ2 H2 => wipe σ2 vs = wipe σ vs ∧ tt σ2 H2 fun c H3 => if c = true then te σ2 H3 K1 else K0 H3)
    (hd : ∀ D H ys, H1 D = none → Ext H1 H → H D = some (.lst ys) → Paired (E H) (rows.filter keep) ys → Q (.ref D) H) :
    ∃ a', V.ref a = .ref a' ∧ (∃ xs, SqT K H1 a' xs) ∧ lcW (Itt K a') g tt te vs σ Q H1 :=
  ⟨a, rfl, ⟨_, ha.sq⟩, fun D n0 => lc_tup (K := K) (a := a) (xs := as.map V.ref) (D := D) (H1 := H1) (g := g) (tt := tt) (te := te) (vs := vs) (σ := σ) (RowsInv D H1 rows keep E) (rows_zero n0) (fun i H _ p => (ha.ext p.1).sq) (rows_step hE n0 hp hl step) (rows_end hp (fun H ys e1 e2 e3 => hd D H ys n0 e1 e2 e3))⟩
/-- over the state's list -/
theorem lc_rowsL (keep : Row → Bool) (E : Hp → Row → V → Prop) (ha : H1 a = some (.lst (as.map V.ref))) (hE : ∀ {H H' : Hp} {r : Row} {y : V}, Tups H H' → E H r y → E H' r y) (hp : Paired (PairT H1) as rows) (hl : rows.length ≤ 1000)
    (step : ∀ (r : Row) (b : Addr) (H : Hp) (K1 : V → Hp → Prop) (K0 : Hp → Prop), r ∈ rows → Ext H1 H → PairT H b r → (∀ y H', Ext H H' → keep r = true → E H' r y → K1 y H') → (∀ H', Ext H H' → keep r = false → K0 H') →
      g (.ref b) (wipe σ vs) H fun σ2 H2 => wipe σ2 vs = wipe σ vs ∧ tt σ2 H2 fun c H3 => if c = true then te σ2 H3 K1 else K0 H3)
    (hd : ∀ D H ys, H1 D = none → Ext H1 H → H D = some (.lst ys) → Paired (E H) (rows.filter keep) ys → Q (.ref D) H) :
    ∃ a', V.ref a = .ref a' ∧ (∃ xs, SqL K H1 a' xs) ∧ lcW (Itl K a') g tt te vs σ Q H1 :=
  ⟨a, rfl, ⟨_, .of ha⟩, fun D n0 => lc_list (K := K) (a := a) (xs := as.map V.ref) (D := D) (H1 := H1) (g := g) (tt := tt) (te := te) (vs := vs) (σ := σ) (RowsInv D H1 rows keep E) (rows_zero n0) (fun i H _ p => .of (p.1 _ _ ha)) (rows_step hE n0 hp hl step) (rows_end hp (fun H ys e1 e2 e3 => hd D H ys n0 e1 e2 e3))⟩
theorem lc_inT {t0 : TE} (q : t0 σ H1 fun x H2 => ∃ a, x = .ref a ∧ (∃ xs, SqT K H2 a xs) ∧ lcW (Itt K a) g tt te vs σ Q H2) : tLc (iTup K t0) g tt te vs σ H1 Q := q
theorem lc_inL {t0 : TE} (q : t0 σ H1 fun x H2 => ∃ a, x = .ref a ∧ (∃ xs, SqL K H2 a xs) ∧ lcW (Itl K a) g tt te vs σ Q H2) : tLc (iList K t0) g tt te vs σ H1 Q := q
end
end W72
-- RdX
set_option Elab.async false
set_option linter.all false
set_option maxRecDepth 100000
set_option maxHeartbeats 400000
/-! steps of a reading: exceptions -/
namespace Rd
open PySem PySem.Spec PyProof.Rows L2
section
variable {K : PySem.W.Frag} {σ : L2.St} {H : Hp} {Q : VK} {v x y : V} {te ta : TE} {t : TA}
theorem methS {C : Addr} {m : Str} {sp : Sp} {E : L2.St → XK} (q : ta σ H fun x H1 => ∃ a dx fs, x = .ref a ∧ H1 a = some (.ins C dx fs) ∧ fs.lookup m = none ∧ t σ H1 fun vs H2 => sp (x :: vs) H2 Q (E σ)) : Ms.tMethS C m sp E ta t σ H Q := q
theorem callS {sp : Sp} {E : L2.St → XK} (q : t σ H fun vs H1 => sp vs H1 Q (E σ)) : tCallS sp E t σ H Q := q
theorem bm {T : String} {r : V → List V → Hp → VK → Prop} (q : te σ H fun x H1 => tyV K T x H1 ∧ t σ H1 fun xs H2 => r x xs H2 Q) : tBM K T r te t σ H Q := q
theorem xf0 {a C : Addr} {cls : Value} {d : Option Addr} {f : Str} (q : te σ H fun x H1 => x = .ref a ∧ cls = .ref C ∧ ∃ (dd : Addr) (fs : List (Str × V)) (v : V), d = some dd ∧ H1 dd = some (.xd fs) ∧ fs.lookup f = some v ∧ Q v H1) : tXf a cls d C f te σ H Q := q
theorem xfE {a C dd : Addr} {f : Str} {fs : List (Str × V)} {R : V → Prop} (h : H dd = some (.xd fs)) (l : fs.lookup f = some v) (q : R v) : V.ref a = .ref a ∧ Value.ref C = .ref C ∧ ∃ (dd' : Addr) (fs : List (Str × V)) (v : V), some dd = some dd' ∧ H dd' = some (.xd fs) ∧ fs.lookup f = some v ∧ R v := ⟨rfl, rfl, dd, fs, v, rfl, h, l, q⟩
theorem hit {i : Nat} {Wout : WX} {D : Ends} {cls c : Value} {ts : Addr → Value → Option Addr → TS} {r : List (Value × (Addr → Value → Option Addr → TS))} {d : Option Addr} (h : PySem.W.exmOne K cls c = some true) (q : ∀ a, H a = none → ts a cls d (Tx.endsGone i D) (σ.set i (some (.ref a))) H) :
    Tx.wManyAs K i Wout D ((c, ts) :: r) cls d σ H := ⟨true, h, fun _ => q, fun z => absurd z.symm Bool.false_ne_true⟩
theorem miss {i : Nat} {Wout : WX} {D : Ends} {cls c : Value} {ts : Addr → Value → Option Addr → TS} {r : List (Value × (Addr → Value → Option Addr → TS))} {d : Option Addr} (h : PySem.W.exmOne K cls c = some false) (q : Tx.wManyAs K i Wout D r cls d σ H) :
    Tx.wManyAs K i Wout D ((c, ts) :: r) cls d σ H := ⟨false, h, fun z => absurd z Bool.false_ne_true, fun _ => q⟩
end
end Rd
-- RdY
set_option Elab.async false
set_option linter.all false
set_option maxRecDepth 100000
set_option maxHeartbeats 400000
/-! steps of readings: pairs of names, calls in a lambda -/
namespace Rd
open PySem PySem.Spec PyProof.Rows L2
section
variable {K : PySem.W.Frag} {σ : L2.St} {H : Hp} {Q : VK} {v x y : V} {te ta : TE} {t : TA} {D : Ends} {i j : Nat} {tb u : TS}
theorem par (q : t σ H fun vs H1 => ∃ v w, vs = [v, w] ∧ D.nx ((σ.set i (some v)).set j (some w)) H1) : tPar i j t D σ H := q
theorem parE {R : V → V → Prop} (q : R x y) : ∃ v w, [x, y] = [v, w] ∧ R v w := ⟨x, y, rfl, q⟩
theorem cut (Mid : L2.St → Hp → Prop) (q : tb { D with nx := Mid } σ H) (r : ∀ σ' H', Mid σ' H' → u D σ' H') : C8.tCut tb u D σ H := ⟨Mid, q, r⟩
end
end Rd
-- RBp
set_option Elab.async false
set_option linter.all false
set_option maxRecDepth 100000
set_option maxHeartbeats 400000
/-! what is never reached; a class held by a local name; empty walks -/
namespace Bp
open PySem PySem.Spec PyProof.Rows L2
section
variable {X : Cx} {e : Expr} {tg : Expr} {b : List Stmt}
theorem pe_nev : PE X e (fun _ _ _ => False) := ⟨fun _ _ _ _ _ _ h => h.elim⟩
theorem pt_nev : PT X e (fun _ _ _ => False) := ⟨fun _ _ _ _ _ _ h => h.elim⟩
theorem pss_nev : PSs X b (fun _ _ _ => False) := ⟨fun _ _ _ _ _ _ h => h.elim⟩
theorem pg_nev : PG X tg (fun _ _ _ _ => False) := ⟨fun _ _ _ _ _ _ _ _ _ h => False.elim h⟩
end
section
variable {X : Cx} {CX : CXT} {k i : Nat} {f C : Addr} {fd : FuncData} {ps : List Str} {sp : Sp} {E : XK} {x : Str} {p pos : Pos} {e : Expr} {es : List Expr} {t : TA}
/-- the i-th slot holds the class C, an instance is made -/
def tMakeL (i : Nat) (C : Addr) (sp : Sp) (E : XK) (t : TA) : TE := fun σ H Q => σ[i]? = some (some (.ref C)) ∧ tMake C sp [] E t σ H Q
theorem pe_makeL (M : Mk X.K C f) (F : FnOk X.prog X.w X.K X.mg X.base CX k f fd ps sp) (hr : Room (k + 1) X.A) (hN : X.N[i]? = some x) (hv : Vis X.env.scope x) (hb : Binds X.K fd ps []) (hx : Passes CX X E)
    (ha : PA X (e :: es) t) (hdb : (x == ("__debug__" : Str)) = false := by decide) (hcd : (x == ("__classdict__" : Str)) = false := by decide) (he : starEach (e :: es) X.env = (false, eval e X.env) :: starEach es X.env := by rfl) (hpl : (backTo pos (starEach es X.env)).any (·.1) = false := by rfl) :
    PE X (.Call (.Name x p) (e :: es) [] pos) (tMakeL i C sp E t) := by
  refine ⟨fun pins s σ H Q I h => ?_⟩
  obtain ⟨hs, ht⟩ := h
  refine wpAny_Call_Name_kw (thn ((pe_var (pos := p) hN hv hdb hcd).run pins s σ H (fun v H1 => v = .ref C ∧ H1 = H) I ⟨.ref C, hs, rfl, rfl⟩) fun u s1 ⟨v, H1, I1, r1, q1⟩ => ?_)
  obtain ⟨rfl, rfl⟩ := q1
  cases r1
  refine PySem.W.callWith_K (h₀ := X.base) I.ok.mod.kin M.kp (thn (ha.run pos pins s1 σ _ _ I1 ht) fun us s2 ⟨vs, H2, I2, r, q⟩ => ⟨I2.kIn, ?_⟩) he hpl
  exact run_make M F hr hb .nil hx I2 r q
end
section
variable {K : PySem.W.Frag} {a : Addr} {g : TG} {tb : TS} {D : Ends} {σ : L2.St} {H : Hp}
/-- over enumerate([]) -/
theorem enum_noL (h : SqL K H a []) (hd : D.nx σ H) : ∃ W : Nat → Nat → L2.St → Hp → Prop, (∃ m, W 0 m σ H) ∧ ∀ i m σ H, W i m σ H →
      ((Ite K a).stop i H ∧ D.nx σ H) ∨ ((Ite K a).go i H ∧ ∃ N : L2.St → Hp → Prop, (∀ σ' H', N σ' H' → ∃ m', m' < m ∧ W (i + 1) m' σ' H') ∧ ∀ x H', (Ite K a).yld i H x H' → g x σ H' fun σ2 H2 => tb { D with nx := N, ct := N, bk := D.nx } σ2 H2) :=
  ⟨fun i m σ' H' => σ' = σ ∧ H' = H, ⟨0, rfl, rfl⟩, fun i m σ' H' ⟨h1, h2⟩ => .inl ⟨by rw [h2]; exact ⟨[], h, Nat.zero_le _⟩, by rw [h1, h2]; exact hd⟩⟩
/-- over enumerate(()) -/
theorem enum_noT (h : SqT K H a []) (hd : D.nx σ H) : ∃ W : Nat → Nat → L2.St → Hp → Prop, (∃ m, W 0 m σ H) ∧ ∀ i m σ H, W i m σ H →
      ((Ft.IteT K a).stop i H ∧ D.nx σ H) ∨ ((Ft.IteT K a).go i H ∧ ∃ N : L2.St → Hp → Prop, (∀ σ' H', N σ' H' → ∃ m', m' < m ∧ W (i + 1) m' σ' H') ∧ ∀ x H', (Ft.IteT K a).yld i H x H' → g x σ H' fun σ2 H2 => tb { D with nx := N, ct := N, bk := D.nx } σ2 H2) :=
  ⟨fun i m σ' H' => σ' = σ ∧ H' = H, ⟨0, rfl, rfl⟩, fun i m σ' H' ⟨h1, h2⟩ => .inl ⟨by rw [h2]; exact ⟨[], h, Nat.zero_le _⟩, by rw [h1, h2]; exact hd⟩⟩
end
end Bp
-- D1
set_option Elab.async false
set_option linter.all false
set_option maxRecDepth 100000
set_option maxHeartbeats 400000
namespace W72
open PySem PySem.Spec PyProof.Rows L2 Ft
/-- a def of the text, what it promises, how it binds -/
structure Def (P : Program) (w : World) (K : PySem.W.Frag) (mg : Str → Option Value) (base : Heap) (CX : CXT) (k : Nat) (f : Addr) (ps : List Str) (sp : Sp) : Prop where
  ex : ∃ fd, FnOk P w K mg base CX k f fd ps sp ∧ Binds K fd ps []
  kp : PySem.W.keepIn K (.ref f) = true
section
variable {P : Program} {w : World} {K : PySem.W.Frag} {mg : Str → Option Value} {base : Heap}
theorem Def.mk0 {x qual : Str} {st : Stmt} {f : Addr} {N ps : List Str} {k : Nat} {sp : Sp} (D : ∃ fd, Fun K x qual st f fd) (S : FnScope N ps (defScope st)) (len : ∀ vs H Q E, sp vs H Q E → vs.length = ps.length)
    (hb : ∀ (kV doc pm : Value) (an : Option Addr) (cdv ct : Value) (us : List Value), us.length = ps.length → bindArgs (PySem.W.fnOf x qual (defArgs st) (defBody st) (defScope st) .none kV doc pm an cdv ct) ⟨us, []⟩ = pure (ps.zip us))
    (hbody : ∀ (cdv : Value) (A : Around) (outer : List Env) (s : Shared) (H : Hp) (vs : List V) (Q : VK) (E : XK), Room k (A.deeper (envOfC qual (defScope st) s.heap.objs.size f cdv)) → sp vs H Q E →
      ∃ t, PSs (cxOf CX0 P w K mg base N qual (defScope st) f cdv A outer s H E).nox (defBody st) t ∧ t { nx := fun _ H' => Q .non H', rt := Q } (start N vs) H) : Def P w K mg base CX0 (k + 1) f ps sp := by
  obtain ⟨fd, F⟩ := D
  exact ⟨⟨fd, F.ok S len hbody, F.binds hb⟩, F.kp⟩
theorem Def.mkX {x qual : Str} {st : Stmt} {f : Addr} {N ps : List Str} {k : Nat} {sp : Sp} (D : ∃ fd, Fun K x qual st f fd) (S : FnScope N ps (defScope st)) (len : ∀ vs H Q E, sp vs H Q E → vs.length = ps.length)
    (hb : ∀ (kV doc pm : Value) (an : Option Addr) (cdv ct : Value) (us : List Value), us.length = ps.length → bindArgs (PySem.W.fnOf x qual (defArgs st) (defBody st) (defScope st) .none kV doc pm an cdv ct) ⟨us, []⟩ = pure (ps.zip us))
    (hbody : ∀ (cdv : Value) (A : Around) (outer : List Env) (s : Shared) (H : Hp) (vs : List V) (Q : VK) (E : XK), Room k (A.deeper (envOfC qual (defScope st) s.heap.objs.size f cdv)) → sp vs H Q E →
      ∃ t, PSs (cxOf (L2.CX P w) P w K mg base N qual (defScope st) f cdv A outer s H E) (defBody st) t ∧ t { nx := fun _ H' => Q .non H', rt := Q } (start N vs) H) : Def P w K mg base (L2.CX P w) (k + 1) f ps sp := by
  obtain ⟨fd, F⟩ := D
  exact ⟨⟨fd, F.okX S len hbody, F.binds hb⟩, F.kp⟩
end
local macro_rules | `(tactic| walk_at "rd") => `(tactic| (repeat (first
  | with_reducible refine Rd.seq ?_ | with_reducible refine Rd.asg ?_ | with_reducible refine Rd.var rfl ?_ | with_reducible refine Rd.con ?_ | with_reducible refine Rd.op ?_ | with_reducible refine Rd.gname ?_ | with_reducible refine Rd.gsub ?_
  | with_reducible refine Rd.ri0 ?_ | with_reducible refine Rd.mulL (by decide +kernel) ?_ | with_reducible refine Rd.mulR (by decide +kernel) ?_ | with_reducible refine Rd.modK (by decide +kernel) ?_ | with_reducible refine Rd.divK (by decide +kernel) ?_
  | with_reducible refine Rd.test ?_ | with_reducible refine Rd.bk ?_ | with_reducible refine Rd.cons ?_ | with_reducible refine Rd.nil ?_ | with_reducible refine Rd.ret ?_ | with_reducible refine Rd.retN ?_ | with_reducible refine Rd.ifs ?_
  | with_reducible refine Rd.nxt ?_ | with_reducible refine Rd.ixl (by first | assumption | exact upd_same) rfl ?_ | with_reducible refine Rd.setl (by first | assumption | exact upd_same) rfl ?_
  | with_reducible refine Rd.cb ?_ | with_reducible refine Rd.andT ?_ | with_reducible refine Rd.orT ?_ | with_reducible refine Rd.notT ?_ | with_reducible refine Rd.ifexp ?_ | with_reducible refine Rd.req rfl ?_ | with_reducible refine Rd.rne rfl ?_
  | with_reducible refine Rd.tup ?_ | with_reducible refine Rd.lst ?_ | with_reducible refine Rd.dget0 ?_ | with_reducible refine Rd.dput0 ?_ | with_reducible refine Rd.fld0 ?_ | with_reducible refine Rd.sfld0 ?_ | with_reducible refine Rd.sl ?_
  | with_reducible refine Rd.nopart ?_ | with_reducible refine Rd.part0 ?_ | with_reducible refine Rd.intE ?_ | with_reducible refine Rd.un ?_ | with_reducible refine Rd.ru ?_ | with_reducible refine Rd.expr ?_ | with_reducible refine Rd.gfld ?_
  | with_reducible refine Rd.gcons ?_ | with_reducible refine Rd.gnil ?_ | with_reducible refine Rd.call ?_ | with_reducible refine lc_inT ?_ | with_reducible refine lc_inL ?_
  | with_reducible refine Rd.lenL (by assumption) ?_ | with_reducible refine Rd.lenT (by assumption) ?_ | with_reducible refine Rd.gtup (by assumption) rfl ?_
  | with_reducible refine Rd.dgetE (by first | assumption | exact upd_same) rfl ?_ | with_reducible refine Rd.dputE (by first | assumption | exact upd_same) (by decide) ?_
  | with_reducible refine Rd.line (by first | decide | simp) ?_ | with_reducible refine Rd.yes ?_ | with_reducible refine Rd.tupF ?_ | with_reducible refine Rd.meth0 ?_ | with_reducible refine Rd.prop0 ?_ | with_reducible refine mko ?_ | with_reducible refine Rd.ifNT ?_ | with_reducible refine Rd.ifNF ?_ | with_reducible refine Rd.tbE ?_ | with_reducible refine Rd.andV ?_ | with_reducible refine Rd.chain ?_ | with_reducible refine Rd.ifT ?_ | with_reducible refine Rd.ifF ?_ | dsimp only [])))
local macro_rules | `(tactic| walk_at "hp") => `(tactic| (first | assumption | exact upd_same | grind [upd]))
/-! ### draws -/
/-- a source of draws -/
abbrev Box (H : Hp) (b : Addr) : Prop := ∃ c s n : Int, H b = some (.lst [.int c, .int s, .int n])
def spTake : Sp := fun vs H Q _ => ∃ (b : Addr) (m : Int), vs = [.ref b, .int m] ∧ 0 < m ∧ m < 1000000 ∧ Box H b ∧ ∀ d c s n : Int, 0 ≤ d → d < m → Q (.int d) (upd H b (.lst [.int c, .int s, .int n]))
section
variable {P : Program} {w : World} {K : PySem.W.Frag} {mg : Str → Option Value} {base : Heap}
abbrev N_take : List Str := ["_law_box_here", "_law_many", "_law_digit", "_law_one"]
theorem sc_take : FnScope N_take ["_law_box_here", "_law_many"] (defScope s_law_take) := ⟨rfl, rfl, rfl, by decide +kernel, rfl, by decide +kernel, by decide +kernel⟩
theorem ok_take (T : T72 K mg) : Def P w K mg base CX0 1 (ga K "_law_take") ["_law_box_here", "_law_many"] spTake := by
  refine Def.mk0 T.d_law_take sc_take (fun vs H Q E h => ?_) (fun _ _ _ _ _ _ us hl => match us, hl with | [_, _], _ => rfl) (fun cdv A outer s H vs Q E hr h => ?_)
  · obtain ⟨b, m, rfl, _⟩ := h
    rfl
  obtain ⟨b, m, rfl, m0, m1, ⟨c, sd, n, hb⟩, hQ⟩ := h
  refine ⟨_, pss_cons (ps_if (pt_cmpR op_gt (pe_ix ix_list (pv 0) pe_int (fun _ _ => rfl)) pe_int (nomark _))
      (pss_cons (ps_set (i := 2) sc_take.nd rfl (Or.inl rfl) (pe_op op_mod (pe_ix ix_list (pv 0) pe_int (fun _ _ => rfl)) (pv 1)))
        (pss_cons (ps_asg (pe_op op_fdiv (pe_ix ix_list (pv 0) pe_int (fun _ _ => rfl)) (pv 1)) (pg_sub (pv 0) pe_int set_list))
          (pss_one (ps_ret (pv 2))))) pss_nil)
    (pss_cons (ps_asg (pe_op op_add (pe_ix ix_list (pv 0) pe_int (fun _ _ => rfl)) pe_int) (pg_sub (pv 0) pe_int set_list))
      (pss_cons (ps_set (i := 3) sc_take.nd rfl (Or.inl rfl) (pe_op op_mod (pe_op op_mul (pe_op op_add (pe_ix ix_list (pv 0) pe_int (fun _ _ => rfl)) (pe_op op_mul pe_int (pe_ix ix_list (pv 0) pe_int (fun _ _ => rfl)))) pe_int) pe_int))
        (pss_cons (ps_asg (pe_op op_add (pe_op op_mod (pe_op op_add (pe_op op_mul (pv 3) pe_int) pe_int) pe_int) pe_int) (pg_sub (pv 0) pe_int set_list))
          (pss_one (ps_ret (pe_op op_mod (pe_op op_fdiv (pe_op op_add (pe_op op_mul (pv 3) pe_int) (pe_ix ix_list (pv 0) pe_int (fun _ _ => rfl))) pe_int) (pv 1))))))), ?_⟩
  walk_at "rd"
  refine ite2 (fun h1 => ?_) (fun h1 => ?_)
  · walk_at "rd"
    refine Rd.ri m0 ?_
    walk_at "rd"
    refine Rd.ri ⟨m0, by omega⟩ ?_
    walk_at "rd"
    exact hQ _ _ _ _ (Int.emod_nonneg _ (by omega)) (Int.emod_lt_of_pos _ m0)
  · walk_at "rd"
    refine Rd.ri m0 ?_
    rw [upd_upd]
    exact hQ _ _ _ _ (Int.emod_nonneg _ (by omega)) (Int.emod_lt_of_pos _ m0)
end
end W72
-- D2
set_option Elab.async false
set_option linter.all false
set_option maxRecDepth 100000
set_option maxHeartbeats 400000
namespace W72
open PySem PySem.Spec PyProof.Rows L2 Ft
local macro_rules | `(tactic| walk_at "rd") => `(tactic| (repeat (first
  | with_reducible refine Rd.seq ?_ | with_reducible refine Rd.asg ?_ | with_reducible refine Rd.var rfl ?_ | with_reducible refine Rd.con ?_ | with_reducible refine Rd.op ?_ | with_reducible refine Rd.gname ?_ | with_reducible refine Rd.gsub ?_
  | with_reducible refine Rd.ri0 ?_ | with_reducible refine Rd.mulL (by decide +kernel) ?_ | with_reducible refine Rd.mulR (by decide +kernel) ?_ | with_reducible refine Rd.modK (by decide +kernel) ?_ | with_reducible refine Rd.divK (by decide +kernel) ?_
  | with_reducible refine Rd.test ?_ | with_reducible refine Rd.bk ?_ | with_reducible refine Rd.cons ?_ | with_reducible refine Rd.nil ?_ | with_reducible refine Rd.ret ?_ | with_reducible refine Rd.retN ?_ | with_reducible refine Rd.ifs ?_
  | with_reducible refine Rd.nxt ?_ | with_reducible refine Rd.ixl (by first | assumption | exact upd_same) rfl ?_ | with_reducible refine Rd.setl (by first | assumption | exact upd_same) rfl ?_
  | with_reducible refine Rd.cb ?_ | with_reducible refine Rd.andT ?_ | with_reducible refine Rd.orT ?_ | with_reducible refine Rd.notT ?_ | with_reducible refine Rd.ifexp ?_ | with_reducible refine Rd.req rfl ?_ | with_reducible refine Rd.rne rfl ?_
  | with_reducible refine Rd.tup ?_ | with_reducible refine Rd.lst ?_ | with_reducible refine Rd.dget0 ?_ | with_reducible refine Rd.dput0 ?_ | with_reducible refine Rd.fld0 ?_ | with_reducible refine Rd.sfld0 ?_ | with_reducible refine Rd.sl ?_
  | with_reducible refine Rd.nopart ?_ | with_reducible refine Rd.part0 ?_ | with_reducible refine Rd.intE ?_ | with_reducible refine Rd.un ?_ | with_reducible refine Rd.ru ?_ | with_reducible refine Rd.expr ?_ | with_reducible refine Rd.gfld ?_
  | with_reducible refine Rd.gcons ?_ | with_reducible refine Rd.gnil ?_ | with_reducible refine Rd.call ?_ | with_reducible refine lc_inT ?_ | with_reducible refine lc_inL ?_
  | with_reducible refine Rd.lenL (by assumption) ?_ | with_reducible refine Rd.lenT (by assumption) ?_ | with_reducible refine Rd.gtup (by assumption) rfl ?_
  | with_reducible refine Rd.dgetE (by first | assumption | exact upd_same) rfl ?_ | with_reducible refine Rd.dputE (by first | assumption | exact upd_same) (by decide) ?_
  | with_reducible refine Rd.line (by first | decide | simp) ?_ | with_reducible refine Rd.yes ?_ | with_reducible refine Rd.tupF ?_ | with_reducible refine Rd.meth0 ?_ | with_reducible refine Rd.prop0 ?_ | with_reducible refine mko ?_ | with_reducible refine Rd.ifNT ?_ | with_reducible refine Rd.ifNF ?_ | with_reducible refine Rd.tbE ?_ | with_reducible refine Rd.andV ?_ | with_reducible refine Rd.chain ?_ | with_reducible refine Rd.ifT ?_ | with_reducible refine Rd.ifF ?_ | dsimp only [])))
local macro_rules | `(tactic| walk_at "hp") => `(tactic| (first | assumption | exact upd_same | grind [upd]))
theorem WS.mok {K : PySem.W.Frag} {H : Hp} {w : Addr} {rows : List Row} {past : List (List Row)} {fl : Int} (h : WS K H w rows past fl) : MOk [w] H := let ⟨_, _, _, _, e, _⟩ := h; MOk.cons e True.intro .nil
theorem MOk.of1 {H : Hp} {a : Addr} {o : HO} (h : H a = some o) (mu : MuO o) : MOk [a] H := MOk.cons h mu .nil
section
variable {P : Program} {w : World} {K : PySem.W.Frag} {mg : Str → Option Value} {base : Heap}
/-! ### Workshop.__init__ -/
def spWInit (K : PySem.W.Frag) : Sp := fun vs H Q _ => ∃ x dx : Addr, vs = [.ref x] ∧ H x = some (.ins (ga K "Workshop") dx []) ∧ ∀ H', Keep [x] H H' → WS K H' x [] [] 0 → Q .non H'
theorem sc_WInit : FnScope ["self"] ["self"] (defScope s_Workshop_init) := ⟨rfl, rfl, rfl, by decide +kernel, rfl, by decide +kernel, by decide +kernel⟩
theorem ok_WInit (T : T72 K mg) : Def P w K mg base CX0 1 (ma K (ga K "Workshop") "__init__") ["self"] (spWInit K) := by
  refine Def.mk0 T.d_Workshop_init sc_WInit (fun vs H Q E h => ?_) (fun _ _ _ _ _ _ us hl => match us, hl with | [_], _ => rfl) (fun cdv A outer s H vs Q E hr h => ?_)
  · obtain ⟨b, m, rfl, _⟩ := h
    rfl
  obtain ⟨x, dx, rfl, hx, hQ⟩ := h
  refine ⟨_, pss_cons (ps_fld (pv 0) (pe_tupF pa_nil) rfl) (pss_cons (ps_fld (pv 0) (pe_tup pa_nil) rfl) (pss_cons (ps_fld (pv 0) pe_int rfl) (pss_one (ps_fld (pv 0) pe_dnewK rfl)))), ?_⟩
  walk_at "rd"
  intro p1 o1 n1 d1
  walk_at "rd"
  refine Rd.sfldE (a := x) (dx := dx) (fs := []) (fs' := [("kept_texts", .ref p1)]) (by walk_at "hp") T.cl_Workshop T.na_Workshop_kept_texts (by simp) rfl ?_
  walk_at "rd"
  intro p2 n2
  walk_at "rd"
  refine Rd.sfldE (a := x) (dx := dx) (fs := [("kept_texts", .ref p1)]) (fs' := [("kept_texts", .ref p1), ("past", .ref p2)]) (by walk_at "hp") T.cl_Workshop T.na_Workshop_past (by simp) rfl ?_
  walk_at "rd"
  refine Rd.sfldE (a := x) (dx := dx) (fs := [("kept_texts", .ref p1), ("past", .ref p2)]) (fs' := [("kept_texts", .ref p1), ("past", .ref p2), ("floor", .int 0)]) (by walk_at "hp") T.cl_Workshop T.na_Workshop_floor (by simp) rfl ?_
  walk_at "rd"
  intro p3 n3
  walk_at "rd"
  refine Rd.sfldE (a := x) (dx := dx) (fs := [("kept_texts", .ref p1), ("past", .ref p2), ("floor", .int 0)]) (fs' := wsF p1 p2 0 p3) (by walk_at "hp") T.cl_Workshop T.na_Workshop_known_parts (by simp) rfl ?_
  refine hQ _ ?_ ⟨dx, p1, p2, p3, ?_, ⟨[], ⟨o1, ?_, d1⟩, .nil⟩, ⟨[], ?_, .nil⟩, ?_⟩
  · intro b o h m
    have : b ≠ x := by simpa using m
    walk_at "hp"
  · exact upd_same
  · walk_at "hp"
  · walk_at "hp"
  · walk_at "hp"
/-! ### Workshop.__len__, names -/
def spWLen (K : PySem.W.Frag) : Sp := fun vs H Q _ => ∃ (x : Addr) (rows : List Row) (past : List (List Row)) (fl : Int), vs = [.ref x] ∧ WS K H x rows past fl ∧ Q (.int rows.length) H
theorem sc_WLen : FnScope ["self"] ["self"] (defScope s_Workshop_len) := ⟨rfl, rfl, rfl, by decide +kernel, rfl, by decide +kernel, by decide +kernel⟩
theorem ok_WLen (T : T72 K mg) : Def P w K mg base CX0 1 (ma K (ga K "Workshop") "__len__") ["self"] (spWLen K) := by
  refine Def.mk0 T.d_Workshop_len sc_WLen (fun vs H Q E h => ?_) (fun _ _ _ _ _ _ us hl => match us, hl with | [_], _ => rfl) (fun cdv A outer s H vs Q E hr h => ?_)
  · obtain ⟨_, _, _, _, rfl, _⟩ := h
    rfl
  obtain ⟨x, rows, past, fl, rfl, ⟨dw, k, p, kp, hx, ⟨as, hk, pk⟩, hp, hkp⟩, hQ⟩ := h
  refine ⟨_, pss_one (ps_ret (pe_callB call_len_seq (by rfl) T.f_len PySem.boot_len (pa_cons (pe_fld (pv 0) rfl) pa_nil))), ?_⟩
  walk_at "rd"
  refine Rd.fldE' hx T.cl_Workshop T.na_Workshop_kept_texts rfl ?_
  refine Rd.lenS (.inr hk.sq) ?_
  rw [List.length_map, Paired.length pk]
  exact hQ
theorem strs_of {H : Hp} : ∀ {rows : List Row} {ys : List V}, Paired (fun (r : Row) (y : V) => y = .str r.1) rows ys → ys = rows.map fun r => V.str r.1
  | _, _, .nil => rfl
  | _, _, .cons e t => by rw [e, strs_of (H := H) t, List.map_cons]
def spNames (K : PySem.W.Frag) : Sp := fun vs H Q _ => ∃ (x : Addr) (rows : List Row) (past : List (List Row)) (fl : Int), vs = [.ref x] ∧ WS K H x rows past fl ∧ RowsOk rows ∧
  ∀ H' t, Ext H H' → FT H' t (rows.map fun r => V.str r.1) → Q (.ref t) H'
abbrev N_names : List Str := ["self", "name", "text"]
theorem sc_names : FnScope N_names ["self"] (defScope s_Workshop_names) := ⟨rfl, rfl, rfl, by decide +kernel, rfl, by decide +kernel, by decide +kernel⟩
theorem ok_names (T : T72 K mg) : Def P w K mg base CX0 1 (pgt K (ga K "Workshop") "names") ["self"] (spNames K) := by
  refine Def.mk0 T.d_Workshop_names sc_names (fun vs H Q E h => ?_) (fun _ _ _ _ _ _ us hl => match us, hl with | [_], _ => rfl) (fun cdv A outer s H vs Q E hr h => ?_)
  · obtain ⟨_, _, _, _, rfl, _⟩ := h
    rfl
  obtain ⟨x, rows, past, fl, rfl, ⟨dw, k, p, kp, hx, ⟨as, hk, pk⟩, hp, hkp⟩, ok, hQ⟩ := h
  refine ⟨_, pss_one (ps_ret (pe_callTy call_tupleF (by rfl) T.f_tuple (by decide +kernel) (pa_cons (pe_lc (own := [("name", 1), ("text", 2)]) (g := gTup K 2 (gCons (gName 1) (gCons (gName 2) gNil))) (tt := tYes) rfl sc_names.nd (pi_tup (pe_fld (pv 0) rfl))
    (blkOk_by (N := N_names) (sc := defScope s_Workshop_names) (by decide +kernel)) (fun _ _ _ _ _ => pg_tup (by rfl) (pgs_cons (pg_name (i := 1) sc_names.nd rfl (Or.inl rfl)) (pgs_cons (pg_name (i := 2) sc_names.nd rfl (Or.inl rfl)) pgs_nil))) (fun _ _ _ _ _ => pts_nil) (fun _ _ _ _ _ => pv 1)) pa_nil))), ?_⟩
  walk_at "rd"
  refine Rd.fldE' hx T.cl_Workshop T.na_Workshop_kept_texts rfl ?_
  walk_at "rd"
  refine lc_rowsT (fun _ => true) (fun _ r y => y = .str r.1) hk (fun _ h => h) pk (by have := ok.len; omega) (fun r b H2 K1 K0 hr e hb h1 h0 => ?_) (fun D H2 ys n0 e hD hy => ?_)
  · refine Rd.gtup hb rfl ?_
    walk_at "rd"
    refine ⟨rfl, ?_⟩
    walk_at "rd"
    exact h1 _ _ (Ext.refl _) rfl rfl
  · rw [List.filter_eq_self.mpr (fun _ _ => rfl)] at hy
    have e2 := strs_of (H := H) hy
    subst e2
    walk_at "rd"
    exact ⟨_, _, rfl, .of hD, fun l o nl hd => hQ _ _ (e.newL nl) ⟨o, upd_same, hd⟩⟩
/-! ### Workshop.change -/
def spChange (K : PySem.W.Frag) : Sp := fun vs H Q _ => ∃ (x k' : Addr) (rows rows' : List Row) (past : List (List Row)) (fl : Int), vs = [.ref x, .ref k'] ∧ WS K H x rows past fl ∧ KeptT H k' rows' ∧ past.length ≤ 100000 ∧
  ∀ H', Keep [x] H H' → WS K H' x rows' (past ++ [rows]) fl → Q .non H'
theorem sc_change : FnScope ["self", "texts"] ["self", "texts"] (defScope s_Workshop_change) := ⟨rfl, rfl, rfl, by decide +kernel, rfl, by decide +kernel, by decide +kernel⟩
theorem ok_change (T : T72 K mg) : Def P w K mg base CX0 1 (ma K (ga K "Workshop") "change") ["self", "texts"] (spChange K) := by
  refine Def.mk0 T.d_Workshop_change sc_change (fun vs H Q E h => ?_) (fun _ _ _ _ _ _ us hl => match us, hl with | [_, _], _ => rfl) (fun cdv A outer s H vs Q E hr h => ?_)
  · obtain ⟨_, _, _, _, _, _, rfl, _⟩ := h
    rfl
  obtain ⟨x, k', rows, rows', past, fl, rfl, ⟨dw, k, p, kp, hx, hk, ⟨as, hp, pp⟩, hkp⟩, hk', hl, hQ⟩ := h
  refine ⟨_, pss_cons (ps_fld (pv 0) (pe_op op_catA (pe_fld (pv 0) rfl) (pe_tup (pa_cons (pe_fld (pv 0) rfl) pa_nil))) rfl) (pss_one (ps_fld (pv 0) (pv 1) rfl)), ?_⟩
  walk_at "rd"
  refine Rd.fldE' hx T.cl_Workshop T.na_Workshop_past rfl ?_
  walk_at "rd"
  refine Rd.fldE' hx T.cl_Workshop T.na_Workshop_kept_texts rfl ?_
  walk_at "rd"
  intro t nt
  have fin : ∀ (q : Addr) (H2 : Hp), Ext H H2 → PastT H2 q (past ++ [rows]) → (sFld K (tVar 0) (tVar 1) "kept_texts") { nx := fun _ H' => Q .non H', rt := Q } (L2.start ["self", "texts"] [.ref x, .ref k']) (upd H2 x (.ins (ga K "Workshop") dw (wsF k q fl kp))) := fun q H2 e2 hq => by
    walk_at "rd"
    refine Rd.sfldE (a := x) (dx := dw) (fs := wsF k q fl kp) (fs' := wsF k' q fl kp) upd_same T.cl_Workshop T.na_Workshop_kept_texts (by simp) rfl ?_
    rw [upd_upd]
    have kk : Keep [x] H (upd H2 x (.ins (ga K "Workshop") dw (wsF k' q fl kp))) := (Keep.of e2).put List.mem_cons_self
    have kk2 : Keep [x] H2 (upd H2 x (.ins (ga K "Workshop") dw (wsF k' q fl kp))) := (Keep.refl _ _).put List.mem_cons_self
    have m := MOk.of1 hx True.intro
    have m2 := MOk.of1 (e2 _ _ hx) True.intro
    exact hQ _ kk ⟨dw, k', q, kp, upd_same, hk'.keep kk m, hq.keep kk2 m2, kk.d0 m hkp⟩
  have e1 : Ext H (upd H t (.tup [.ref k])) := .new nt
  refine ⟨p, t, as.map V.ref, [.ref k], rfl, rfl, .of (e1 _ _ hp), .of upd_same, ?_, fun h0 => ?_, fun _ h0 => absurd h0 (by simp), fun h0 _ q nq => ?_⟩
  · rw [List.length_map, Paired.length pp, sizeLine_eq]
    simp
    omega
  · have h1 : as = [] := List.map_eq_nil_iff.mp h0
    subst h1
    cases pp
    walk_at "rd"
    refine Rd.sfldE (a := x) (dx := dw) (fs := wsF k p fl kp) (fs' := wsF k t fl kp) (e1 _ _ hx) T.cl_Workshop T.na_Workshop_past (by simp) rfl ?_
    exact fin t _ e1 ⟨[k], upd_same, .cons (hk.ext e1) .nil⟩
  · walk_at "rd"
    have e3 : Ext H (upd (upd H t (.tup [.ref k])) q (.tup (as.map V.ref ++ [.ref k]))) := e1.newL nq
    refine Rd.sfldE (a := x) (dx := dw) (fs := wsF k p fl kp) (fs' := wsF k q fl kp) (e3 _ _ hx) T.cl_Workshop T.na_Workshop_past (by simp) rfl ?_
    exact fin q _ e3 ⟨as ++ [k], by rw [List.map_append]; exact upd_same, Paired.snoc (Paired.mapP pp fun _ _ z => z.ext e3) (hk.ext e3)⟩
end
end W72
-- D3
set_option Elab.async false
set_option linter.all false
set_option maxRecDepth 100000
set_option maxHeartbeats 400000
namespace W72
open PySem PySem.Spec PyProof.Rows L2 Ft
local macro_rules | `(tactic| walk_at "rd") => `(tactic| (repeat (first
  | with_reducible refine Rd.seq ?_ | with_reducible refine Rd.asg ?_ | with_reducible refine Rd.var rfl ?_ | with_reducible refine Rd.con ?_ | with_reducible refine Rd.op ?_ | with_reducible refine Rd.gname ?_ | with_reducible refine Rd.gsub ?_
  | with_reducible refine Rd.ri0 ?_ | with_reducible refine Rd.mulL (by decide +kernel) ?_ | with_reducible refine Rd.mulR (by decide +kernel) ?_ | with_reducible refine Rd.modK (by decide +kernel) ?_ | with_reducible refine Rd.divK (by decide +kernel) ?_
  | with_reducible refine Rd.test ?_ | with_reducible refine Rd.bk ?_ | with_reducible refine Rd.cons ?_ | with_reducible refine Rd.nil ?_ | with_reducible refine Rd.ret ?_ | with_reducible refine Rd.retN ?_ | with_reducible refine Rd.ifs ?_
  | with_reducible refine Rd.nxt ?_ | with_reducible refine Rd.ixl (by first | assumption | exact upd_same) rfl ?_ | with_reducible refine Rd.setl (by first | assumption | exact upd_same) rfl ?_
  | with_reducible refine Rd.cb ?_ | with_reducible refine Rd.andT ?_ | with_reducible refine Rd.orT ?_ | with_reducible refine Rd.notT ?_ | with_reducible refine Rd.ifexp ?_ | with_reducible refine Rd.req rfl ?_ | with_reducible refine Rd.rne rfl ?_
  | with_reducible refine Rd.tup ?_ | with_reducible refine Rd.lst ?_ | with_reducible refine Rd.dget0 ?_ | with_reducible refine Rd.dput0 ?_ | with_reducible refine Rd.fld0 ?_ | with_reducible refine Rd.sfld0 ?_ | with_reducible refine Rd.sl ?_
  | with_reducible refine Rd.nopart ?_ | with_reducible refine Rd.part0 ?_ | with_reducible refine Rd.intE ?_ | with_reducible refine Rd.un ?_ | with_reducible refine Rd.ru ?_ | with_reducible refine Rd.expr ?_ | with_reducible refine Rd.gfld ?_
  | with_reducible refine Rd.gcons ?_ | with_reducible refine Rd.gnil ?_ | with_reducible refine Rd.call ?_ | with_reducible refine lc_inT ?_ | with_reducible refine lc_inL ?_
  | with_reducible refine Rd.lenL (by assumption) ?_ | with_reducible refine Rd.lenT (by assumption) ?_ | with_reducible refine Rd.gtup (by assumption) rfl ?_
  | with_reducible refine Rd.dgetE (by first | assumption | exact upd_same) rfl ?_ | with_reducible refine Rd.dputE (by first | assumption | exact upd_same) (by decide) ?_
  | with_reducible refine Rd.line (by first | decide | simp) ?_ | with_reducible refine Rd.yes ?_ | with_reducible refine Rd.tupF ?_ | with_reducible refine Rd.meth0 ?_ | with_reducible refine Rd.prop0 ?_ | with_reducible refine mko ?_ | with_reducible refine Rd.ifNT ?_ | with_reducible refine Rd.ifNF ?_ | with_reducible refine Rd.tbE ?_ | with_reducible refine Rd.andV ?_ | with_reducible refine Rd.chain ?_ | with_reducible refine Rd.ifT ?_ | with_reducible refine Rd.ifF ?_ | dsimp only [])))
local macro_rules | `(tactic| walk_at "hp") => `(tactic| (first | assumption | exact upd_same | grind [upd]))
/-! ### errors -/
/-- an error's __init__: its fields, in turn -/
def spErr (K : PySem.W.Frag) (C : Addr) (fields : List Str) : Sp := fun vs H Q _ => ∃ (a : Addr) (xs : List V), vs = .ref a :: xs ∧ xs.length = fields.length ∧ H a = some (exo a C none) ∧
  ∀ d, H d = none → d ≠ a → Q .non (upd (upd H a (exo a C (some d))) d (exd d (fields.zip xs).reverse))
theorem spErr_len {K : PySem.W.Frag} {C : Addr} {fields : List Str} {vs : List V} {H : Hp} {Q : VK} {E : XK} (h : spErr K C fields vs H Q E) : vs.length = (("self" : Str) :: fields).length := by
  obtain ⟨a, xs, rfl, hl, _⟩ := h
  simp [hl]
theorem PMk.imp {X : Cx} {e : Expr} {t t' : L2.St → Hp → XK → Prop} (h : PMk X e t) (i : ∀ σ H Q, t' σ H Q → t σ H Q) : PMk X e t' := fun pins s σ H Q I q => h pins s σ H Q I (i _ _ _ q)
def tErr (C : Addr) (fields : List Str) (ta : TA) : L2.St → Hp → XK → Prop := fun σ H Q => ta σ H fun vs H1 => vs.length = fields.length ∧ ∀ d, H1 d = none → Q (.ref C) (some d) (upd H1 d (.xd (fields.zip vs).reverse))
theorem tErr_imp {K : PySem.W.Frag} {C : Addr} {fields : List Str} {ta : TA} (hf : fields.length ≤ 10) {tA : ∀ (QA : List V → Hp → Prop) (QA' : List V → Hp → Prop) (σ : L2.St) (H : Hp), (∀ vs H, QA vs H → QA' vs H) → ta σ H QA → ta σ H QA'} (σ : L2.St) (H : Hp) (Q : XK) (h : tErr C fields ta σ H Q) : tMkO C (spErr K C fields) [] ta σ H Q := by
  refine tA _ _ σ H (fun vs H1 ⟨hl, q⟩ => ⟨by omega, fun a na => ⟨a, vs, by rw [List.append_nil], hl, upd_same, fun d nd ne => ⟨rfl, d, _, ?_, upd_same, ?_, ?_⟩⟩⟩) h
  · rw [upd_ne (Ne.symm ne), upd_same]
  · rw [upd_ne ne] at nd
    exact nd
  · have nd' : H1 d = none := by rw [upd_ne ne] at nd; exact nd
    have e : upd (del (upd (upd (upd H1 a (exo a C none)) a (exo a C (some d))) d (exd d (fields.zip vs).reverse)) a) d (.xd (fields.zip vs).reverse) = upd H1 d (.xd (fields.zip vs).reverse) := by
      funext b
      by_cases h1 : b = d
      · rw [h1, upd_same, upd_same]
      · rw [upd_ne h1, upd_ne h1]
        by_cases h2 : b = a
        · rw [h2, del_same, na]
        · rw [del_ne h2, upd_ne h1, upd_ne h2, upd_ne h2]
    rw [e]
    exact q d nd'
section
variable {P : Program} {w : World} {K : PySem.W.Frag} {mg : Str → Option Value} {base : Heap}
theorem exd2 {H : Hp} {a d C : Addr} {f1 f2 : List (Str × V)} (ne : d ≠ a) : upd (upd (upd H d (exd d f1)) a (exo a C (some d))) d (exd d f2) = upd (upd H a (exo a C (some d))) d (exd d f2) := by
  funext b
  by_cases h1 : b = d
  · rw [h1, upd_same, upd_same]
  · rw [upd_ne h1, upd_ne h1]
    by_cases h2 : b = a
    · rw [h2, upd_same, upd_same]
    · rw [upd_ne h2, upd_ne h1, upd_ne h2]
theorem exd1 {H : Hp} {a d C : Addr} {f1 : List (Str × V)} (ne : d ≠ a) : upd (upd H d (exd d f1)) a (exo a C (some d)) = upd (upd H a (exo a C (some d))) d (exd d f1) := by
  funext b
  by_cases h1 : b = d
  · rw [h1, upd_ne ne, upd_same, upd_same]
  · by_cases h2 : b = a
    · rw [h2, upd_same, upd_ne (Ne.symm ne), upd_same]
    · rw [upd_ne h2, upd_ne h1, upd_ne h1, upd_ne h2]
theorem sc_IPg : FnScope ["self", "word", "procedure", "place"] ["self", "word", "procedure", "place"] (defScope s_InvalidProgram_init) := ⟨rfl, rfl, rfl, by decide +kernel, rfl, by decide +kernel, by decide +kernel⟩
theorem ok_IPg (T : T72 K mg) : Def P w K mg base CX0 1 (ma K (ga K "InvalidProgram") "__init__") ["self", "word", "procedure", "place"] (spErr K (ga K "InvalidProgram") ["word", "procedure", "place"]) := by
  refine Def.mk0 T.d_InvalidProgram_init sc_IPg (fun vs H Q E h => spErr_len h) (fun _ _ _ _ _ _ us hl => match us, hl with | [_, _, _, _], _ => rfl) (fun cdv A outer s H vs Q E hr h => ?_)
  obtain ⟨a, xs, rfl, hl, ha, hQ⟩ := h
  match xs, hl, hQ with
  | [v1, v2, v3], _, hQ =>
    refine ⟨_, pss_cons (ps_ost (pv 0) (pv 1)) (pss_cons (ps_ost (pv 0) (pv 2)) (pss_one (ps_ost (pv 0) (pv 3)))), ?_⟩
    refine ⟨v1, rfl, .ref a, rfl, a, ga K "InvalidProgram", rfl, T.oex_InvalidProgram.1, T.no_InvalidProgram_word, .inl ⟨ha, fun d nd ne => ?_⟩⟩
    refine ⟨v2, rfl, .ref a, rfl, a, ga K "InvalidProgram", rfl, T.oex_InvalidProgram.1, T.no_InvalidProgram_procedure, .inr ⟨d, _, upd_same, by rw [upd_ne ne, upd_same], by simp, ?_⟩⟩
    refine ⟨v3, rfl, .ref a, rfl, a, ga K "InvalidProgram", rfl, T.oex_InvalidProgram.1, T.no_InvalidProgram_place, .inr ⟨d, _, by rw [upd_ne (Ne.symm ne), upd_same], upd_same, by simp, ?_⟩⟩
    have q := hQ d nd ne
    show Q .non (upd (upd (upd (upd H d _) a _) d _) d _)
    rw [upd_upd, exd2 ne]
    exact q
theorem sc_ITx : FnScope ["self", "line"] ["self", "line"] (defScope s_InvalidText_init) := ⟨rfl, rfl, rfl, by decide +kernel, rfl, by decide +kernel, by decide +kernel⟩
theorem ok_ITx (T : T72 K mg) : Def P w K mg base CX0 1 (ma K (ga K "InvalidText") "__init__") ["self", "line"] (spErr K (ga K "InvalidText") ["line"]) := by
  refine Def.mk0 T.d_InvalidText_init sc_ITx (fun vs H Q E h => spErr_len h) (fun _ _ _ _ _ _ us hl => match us, hl with | [_, _], _ => rfl) (fun cdv A outer s H vs Q E hr h => ?_)
  obtain ⟨a, xs, rfl, hl, ha, hQ⟩ := h
  match xs, hl, hQ with
  | [v1], _, hQ =>
    refine ⟨_, pss_one (ps_ost (pv 0) (pv 1)), ?_⟩
    refine ⟨v1, rfl, .ref a, rfl, a, ga K "InvalidText", rfl, T.oex_InvalidText.1, T.no_InvalidText_line, .inl ⟨ha, fun d nd ne => ?_⟩⟩
    have q := hQ d nd ne
    show Q .non (upd (upd H d _) a _)
    rw [exd1 ne]
    exact q
theorem sc_IPt : FnScope ["self", "word", "index"] ["self", "word", "index"] (defScope s_InvalidPart_init) := ⟨rfl, rfl, rfl, by decide +kernel, rfl, by decide +kernel, by decide +kernel⟩
theorem ok_IPt (T : T72 K mg) : Def P w K mg base CX0 1 (ma K (ga K "InvalidPart") "__init__") ["self", "word", "index"] (spErr K (ga K "InvalidPart") ["word", "index"]) := by
  refine Def.mk0 T.d_InvalidPart_init sc_IPt (fun vs H Q E h => spErr_len h) (fun _ _ _ _ _ _ us hl => match us, hl with | [_, _, _], _ => rfl) (fun cdv A outer s H vs Q E hr h => ?_)
  obtain ⟨a, xs, rfl, hl, ha, hQ⟩ := h
  match xs, hl, hQ with
  | [v1, v2], _, hQ =>
    refine ⟨_, pss_cons (ps_ost (pv 0) (pv 1)) (pss_one (ps_ost (pv 0) (pv 2))), ?_⟩
    refine ⟨v1, rfl, .ref a, rfl, a, ga K "InvalidPart", rfl, T.oex_InvalidPart.1, T.no_InvalidPart_word, .inl ⟨ha, fun d nd ne => ?_⟩⟩
    refine ⟨v2, rfl, .ref a, rfl, a, ga K "InvalidPart", rfl, T.oex_InvalidPart.1, T.no_InvalidPart_index, .inr ⟨d, _, upd_same, by rw [upd_ne ne, upd_same], by simp, ?_⟩⟩
    have q := hQ d nd ne
    show Q .non (upd (upd (upd H d _) a _) d _)
    rw [exd2 ne]
    exact q
theorem sc_UN : FnScope ["self", "name"] ["self", "name"] (defScope s_UnknownName_init) := ⟨rfl, rfl, rfl, by decide +kernel, rfl, by decide +kernel, by decide +kernel⟩
theorem ok_UN (T : T72 K mg) : Def P w K mg base CX0 1 (ma K (ga K "UnknownName") "__init__") ["self", "name"] (spErr K (ga K "UnknownName") ["name"]) := by
  refine Def.mk0 T.d_UnknownName_init sc_UN (fun vs H Q E h => spErr_len h) (fun _ _ _ _ _ _ us hl => match us, hl with | [_, _], _ => rfl) (fun cdv A outer s H vs Q E hr h => ?_)
  obtain ⟨a, xs, rfl, hl, ha, hQ⟩ := h
  match xs, hl, hQ with
  | [v1], _, hQ =>
    refine ⟨_, pss_one (ps_ostK (pv 0) (pv 1)), ?_⟩
    refine ⟨v1, rfl, .ref a, rfl, a, ga K "UnknownName", rfl, T.oex_UnknownName.1, T.no_UnknownName_name, .inl ⟨ha, fun d nd ne => ?_⟩⟩
    have q := hQ d nd ne
    show Q .non (upd (upd H d _) a _)
    rw [exd1 ne]
    exact q
end
end W72
-- D4
set_option Elab.async false
set_option linter.all false
set_option maxRecDepth 100000
set_option maxHeartbeats 400000
namespace W72
open PySem PySem.Spec PyProof.Rows L2 Ft
local macro_rules | `(tactic| walk_at "rd") => `(tactic| (repeat (first
  | with_reducible refine Rd.seq ?_ | with_reducible refine Rd.asg ?_ | with_reducible refine Rd.var rfl ?_ | with_reducible refine Rd.con ?_ | with_reducible refine Rd.op ?_ | with_reducible refine Rd.gname ?_ | with_reducible refine Rd.gsub ?_
  | with_reducible refine Rd.ri0 ?_ | with_reducible refine Rd.mulL (by decide +kernel) ?_ | with_reducible refine Rd.mulR (by decide +kernel) ?_ | with_reducible refine Rd.modK (by decide +kernel) ?_ | with_reducible refine Rd.divK (by decide +kernel) ?_
  | with_reducible refine Rd.test ?_ | with_reducible refine Rd.bk ?_ | with_reducible refine Rd.cons ?_ | with_reducible refine Rd.nil ?_ | with_reducible refine Rd.ret ?_ | with_reducible refine Rd.retN ?_ | with_reducible refine Rd.ifs ?_
  | with_reducible refine Rd.nxt ?_ | with_reducible refine Rd.ixl (by first | assumption | exact upd_same) rfl ?_ | with_reducible refine Rd.setl (by first | assumption | exact upd_same) rfl ?_
  | with_reducible refine Rd.cb ?_ | with_reducible refine Rd.andT ?_ | with_reducible refine Rd.orT ?_ | with_reducible refine Rd.notT ?_ | with_reducible refine Rd.ifexp ?_ | with_reducible refine Rd.req rfl ?_ | with_reducible refine Rd.rne rfl ?_
  | with_reducible refine Rd.tup ?_ | with_reducible refine Rd.lst ?_ | with_reducible refine Rd.dget0 ?_ | with_reducible refine Rd.dput0 ?_ | with_reducible refine Rd.fld0 ?_ | with_reducible refine Rd.sfld0 ?_ | with_reducible refine Rd.sl ?_
  | with_reducible refine Rd.nopart ?_ | with_reducible refine Rd.part0 ?_ | with_reducible refine Rd.intE ?_ | with_reducible refine Rd.un ?_ | with_reducible refine Rd.ru ?_ | with_reducible refine Rd.expr ?_ | with_reducible refine Rd.gfld ?_
  | with_reducible refine Rd.gcons ?_ | with_reducible refine Rd.gnil ?_ | with_reducible refine Rd.call ?_ | with_reducible refine lc_inT ?_ | with_reducible refine lc_inL ?_
  | with_reducible refine Rd.lenL (by assumption) ?_ | with_reducible refine Rd.lenT (by assumption) ?_ | with_reducible refine Rd.gtup (by assumption) rfl ?_
  | with_reducible refine Rd.dgetE (by first | assumption | exact upd_same) rfl ?_ | with_reducible refine Rd.dputE (by first | assumption | exact upd_same) (by decide) ?_
  | with_reducible refine Rd.line (by first | decide | simp) ?_ | with_reducible refine Rd.yes ?_ | with_reducible refine Rd.tupF ?_ | with_reducible refine Rd.meth0 ?_ | with_reducible refine Rd.prop0 ?_ | with_reducible refine mko ?_ | with_reducible refine Rd.ifNT ?_ | with_reducible refine Rd.ifNF ?_ | with_reducible refine Rd.tbE ?_ | with_reducible refine Rd.andV ?_ | with_reducible refine Rd.chain ?_ | with_reducible refine Rd.ifT ?_ | with_reducible refine Rd.ifF ?_ | dsimp only [])))
local macro_rules | `(tactic| walk_at "hp") => `(tactic| (first | assumption | exact upd_same | grind [upd]))
/-! ### is_word -/
def letters : Str := "abcdefghijklmnopqrstuvwxyz"
def isw (x : Str) : Bool := !inV (.str x) wordsV && (decide ((1 : Int) ≤ x.length) && decide ((x.length : Int) ≤ 6) && x.cps.toList.all fun c => decide (c ∈ letters.cps.toList))
def spIsWord : Sp := fun vs H Q _ => ∃ x : Str, vs = [.str x] ∧ x.length ≤ 1000 ∧ ∀ H', Ext H H' → Q (.bl (isw x)) H'
section
variable {P : Program} {w : World} {K : PySem.W.Frag} {mg : Str → Option Value} {base : Heap}
abbrev N_isw : List Str := ["value", "sign"]
theorem sc_isw : FnScope N_isw ["value"] (defScope s_is_word) := ⟨rfl, rfl, rfl, by decide +kernel, rfl, by decide +kernel, by decide +kernel⟩
theorem words_flat : wordsV.all flatV = true := by decide +kernel
theorem ok_isw (T : T72 K mg) : Def P w K mg base CX0 1 (ga K "is_word") ["value"] spIsWord := by
  refine Def.mk0 T.d_is_word sc_isw (fun vs H Q E h => ?_) (fun _ _ _ _ _ _ us hl => match us, hl with | [_], _ => rfl) (fun cdv A outer s H vs Q E hr h => ?_)
  · obtain ⟨_, rfl, _⟩ := h
    rfl
  obtain ⟨x, rfl, hl, hQ⟩ := h
  obtain ⟨tL, mL⟩ := T.in_LONGEST
  obtain ⟨tS, mS⟩ := T.st_LETTERS
  refine ⟨_, pss_cons (ps_if (PW.pt (pw_or (pt_not (pt_val (pe_callB call_isi (by rfl) T.f_isinstance (by decide +kernel) (pa_cons (pv 0) (pa_cons (pe_bltn (v := .ty "str") (by rfl) T.f_str (by decide +kernel) rfl) pa_nil)))))
      (pw_or1 (pt_cmpR op_in_seq (pv 0) (pe_glob (v := .ref (ga K "WORDS")) (by rfl) T.g_WORDS rfl) (by rfl))))) (pss_one (ps_ret pe_bl)) pss_nil)
    (pss_one (ps_ret (pe_and (pe_chain op_le op_le pe_int (pe_callB call_len_str (by rfl) T.f_len PySem.boot_len (pa_cons (pv 0) pa_nil)) (pe_glob (v := .int 6) (by rfl) mL ⟨tL, rfl⟩))
      (pe_one (pe_callB (cr_all rfl) (by rfl) T.f_all (by decide +kernel) (pa_cons (pe_lc (own := [("sign", 1)]) (g := gName 1) (tt := tYes) rfl sc_isw.nd (pi_str (pv 0))
        (blkOk_by (N := N_isw) (sc := defScope s_is_word) (by decide +kernel)) (fun _ _ _ _ _ => pg_name (i := 1) sc_isw.nd rfl (Or.inl rfl)) (fun _ _ _ _ _ => pts_nil)
        (fun _ _ _ _ _ => pe_cmpR op_in_sign (pv 1) (pe_glob (v := .str letters) (by rfl) mS ⟨tS, rfl⟩) (by rfl))) pa_nil)))))), ?_⟩
  walk_at "rd"
  refine (show rIsi _ _ _ _ from ⟨_, _, .type "str", .type "str", true, rfl, .ty "str", .base (.str x), by kernel_rfl, ?_⟩)
  walk_at "rd"
  refine Rd.inS (.inr (T.tup_WORDS H)) rfl words_flat ?_
  walk_at "rd"
  refine ite2 (fun h1 => ?_) (fun h1 => ?_)
  · walk_at "rd"
    have e : isw x = false := by unfold isw; rw [h1]; rfl
    rw [← e]
    exact hQ _ (Ext.refl _)
  have h1 : inV (.str x) wordsV = false := by simpa using h1
  walk_at "rd"
  refine ⟨_, rfl, Nat.le_of_lt (small1000 hl), ?_⟩
  walk_at "rd"
  refine ite2 (fun h2 => ?_) (fun h2 => ?_)
  case refine_2 =>
    walk_at "rd"
    have e : isw x = false := by
      unfold isw
      rw [h1, (by simpa using h2 : decide ((1 : Int) ≤ x.length) = false)]
      rfl
    rw [← e]
    exact hQ _ (Ext.refl _)
  walk_at "rd"
  refine ite2 (fun h3 => ?_) (fun h3 => ?_)
  case refine_2 =>
    walk_at "rd"
    have e : isw x = false := by
      unfold isw
      rw [h1, (by simpa using h3 : decide ((x.length : Int) ≤ 6) = false), Bool.and_false]
      rfl
    rw [← e]
    exact hQ _ (Ext.refl _)
  walk_at "rd"
  have len : x.cps.size ≤ 1000 := hl
  refine ⟨_, rfl, x, rfl, fun D n0 => lc_it walk_str (fun i H' => Ext H H' ∧ H' D = some (.lst (((x.cps.toList.take i).map fun c => decide (c ∈ letters.cps.toList)).map V.bl))) ⟨.new n0, upd_same⟩ (fun _ _ _ _ => trivial) (fun i y H1 H2 hi ⟨e1, hD⟩ ⟨eH, c, hc, ey⟩ => ?_) (fun H1 ⟨e1, hD⟩ => ?_)⟩
  · subst eH ey
    walk_at "rd"
    refine ⟨rfl, ?_⟩
    walk_at "rd"
    refine ⟨c, letters, rfl, rfl, ?_⟩
    refine ⟨_, hD, ?_, ?_, ?_⟩
    · rw [List.length_map, List.length_map, List.length_take]
      exact small1000 (by omega)
    · intro b o hb
      rw [upd_ne (ne_of_none hb n0)]
      exact e1 _ _ hb
    · have hc' : x.cps.toList[i]? = some c := by rw [Array.getElem?_toList]; exact hc
      rw [upd_same, List.take_add_one, hc']
      simp
  · walk_at "rd"
    rw [show x.cps.size = x.cps.toList.length from (Array.length_toList ..).symm, List.take_length] at hD
    refine ⟨D, _, rfl, .of hD, ?_⟩
    have e : isw x = ((x.cps.toList.map fun c => decide (c ∈ letters.cps.toList)).all id) := by
      unfold isw
      rw [h1, h2, h3, List.all_map]
      rfl
    rw [← e]
    exact hQ _ e1
end
end W72
-- D5
set_option Elab.async false
set_option linter.all false
set_option maxRecDepth 100000
set_option maxHeartbeats 400000
namespace W72
open PySem PySem.Spec PyProof.Rows L2 Ft
local macro_rules | `(tactic| walk_at "rd") => `(tactic| (repeat (first
  | with_reducible refine Rd.seq ?_ | with_reducible refine Rd.asg ?_ | with_reducible refine Rd.var rfl ?_ | with_reducible refine Rd.con ?_ | with_reducible refine Rd.op ?_ | with_reducible refine Rd.gname ?_ | with_reducible refine Rd.gsub ?_
  | with_reducible refine Rd.ri0 ?_ | with_reducible refine Rd.mulL (by decide +kernel) ?_ | with_reducible refine Rd.mulR (by decide +kernel) ?_ | with_reducible refine Rd.modK (by decide +kernel) ?_ | with_reducible refine Rd.divK (by decide +kernel) ?_
  | with_reducible refine Rd.test ?_ | with_reducible refine Rd.bk ?_ | with_reducible refine Rd.cons ?_ | with_reducible refine Rd.nil ?_ | with_reducible refine Rd.ret ?_ | with_reducible refine Rd.retN ?_ | with_reducible refine Rd.ifs ?_
  | with_reducible refine Rd.nxt ?_ | with_reducible refine Rd.ixl (by first | assumption | exact upd_same) rfl ?_ | with_reducible refine Rd.setl (by first | assumption | exact upd_same) rfl ?_
  | with_reducible refine Rd.cb ?_ | with_reducible refine Rd.andT ?_ | with_reducible refine Rd.orT ?_ | with_reducible refine Rd.notT ?_ | with_reducible refine Rd.ifexp ?_ | with_reducible refine Rd.req rfl ?_ | with_reducible refine Rd.rne rfl ?_
  | with_reducible refine Rd.tup ?_ | with_reducible refine Rd.lst ?_ | with_reducible refine Rd.dget0 ?_ | with_reducible refine Rd.dput0 ?_ | with_reducible refine Rd.fld0 ?_ | with_reducible refine Rd.sfld0 ?_ | with_reducible refine Rd.sl ?_
  | with_reducible refine Rd.nopart ?_ | with_reducible refine Rd.part0 ?_ | with_reducible refine Rd.intE ?_ | with_reducible refine Rd.un ?_ | with_reducible refine Rd.ru ?_ | with_reducible refine Rd.expr ?_ | with_reducible refine Rd.gfld ?_
  | with_reducible refine Rd.gcons ?_ | with_reducible refine Rd.gnil ?_ | with_reducible refine Rd.call ?_ | with_reducible refine lc_inT ?_ | with_reducible refine lc_inL ?_
  | with_reducible refine Rd.lenL (by assumption) ?_ | with_reducible refine Rd.lenT (by assumption) ?_ | with_reducible refine Rd.gtup (by assumption) rfl ?_
  | with_reducible refine Rd.dgetE (by first | assumption | exact upd_same) rfl ?_ | with_reducible refine Rd.dputE (by first | assumption | exact upd_same) (by decide) ?_
  | with_reducible refine Rd.line (by first | decide | simp) ?_ | with_reducible refine Rd.yes ?_ | with_reducible refine Rd.tupF ?_ | with_reducible refine Rd.meth0 ?_ | with_reducible refine Rd.prop0 ?_ | with_reducible refine mko ?_ | with_reducible refine Rd.ifNT ?_ | with_reducible refine Rd.ifNF ?_ | with_reducible refine Rd.tbE ?_ | with_reducible refine Rd.andV ?_ | with_reducible refine Rd.chain ?_ | with_reducible refine Rd.ifT ?_ | with_reducible refine Rd.ifF ?_ | dsimp only [])))
local macro_rules | `(tactic| walk_at "hp") => `(tactic| (first | assumption | exact upd_same | grind [upd]))
theorem mko {C : Addr} {sp : Sp} {ta : TA} {σ : L2.St} {H : Hp} {Q : XK} (q : ta σ H fun vs H1 => vs.length ≤ 1000 ∧ ∀ a, H1 a = none → sp (.ref a :: (vs ++ [])) (upd H1 a (exo a C none))
  (fun v H2 => v = .non ∧ ∃ (d : Addr) (fs : List (Str × V)), H2 a = some (exo a C (some d)) ∧ H2 d = some (exd d fs) ∧ H1 d = none ∧ Q (.ref C) (some d) (upd (del H2 a) d (.xd fs))) (fun _ _ _ => False)) : tMkO C sp [] ta σ H Q := q
theorem err_in {K : PySem.W.Frag} {C : Addr} {fields : List Str} {vs : List V} {H1 : Hp} {Q : XK} (hl : vs.length = fields.length) (hf : fields.length ≤ 10) (q : ∀ d, H1 d = none → Q (.ref C) (some d) (upd H1 d (.xd (fields.zip vs).reverse))) :
    vs.length ≤ 1000 ∧ ∀ a, H1 a = none → spErr K C fields (.ref a :: (vs ++ [])) (upd H1 a (exo a C none))
      (fun v H2 => v = .non ∧ ∃ (d : Addr) (fs : List (Str × V)), H2 a = some (exo a C (some d)) ∧ H2 d = some (exd d fs) ∧ H1 d = none ∧ Q (.ref C) (some d) (upd (del H2 a) d (.xd fs))) (fun _ _ _ => False) := by
  refine ⟨by omega, fun a na => ⟨a, vs, by rw [List.append_nil], hl, upd_same, fun d nd ne => ⟨rfl, d, _, ?_, upd_same, ?_, ?_⟩⟩⟩
  · rw [upd_ne (Ne.symm ne), upd_same]
  · rw [upd_ne ne] at nd
    exact nd
  · have nd' : H1 d = none := by rw [upd_ne ne] at nd; exact nd
    have e : upd (del (upd (upd (upd H1 a (exo a C none)) a (exo a C (some d))) d (exd d (fields.zip vs).reverse)) a) d (.xd (fields.zip vs).reverse) = upd H1 d (.xd (fields.zip vs).reverse) := by
      funext b
      by_cases h1 : b = d
      · rw [h1, upd_same, upd_same]
      · rw [upd_ne h1, upd_ne h1]
        by_cases h2 : b = a
        · rw [h2, del_same, na]
        · rw [del_ne h2, upd_ne h1, upd_ne h2, upd_ne h2]
    rw [e]
    exact q d nd'
theorem inV_strs (x : Str) (l : List Row) : inV (.str x) (l.map fun r => V.str r.1) = decide (x ∈ l.map (·.1)) := by
  induction l with
  | nil => rfl
  | cons r t ih =>
    have e : inV (.str x) ((r :: t).map fun r => V.str r.1) = ((r.1 == x) || inV (.str x) (t.map fun r => V.str r.1)) := rfl
    rw [e, ih]
    by_cases h : r.1 = x
    · rw [beq_iff_eq.mpr h, Bool.true_or, decide_eq_true (by rw [List.map_cons, h]; exact List.mem_cons_self)]
    · rw [beq_eq_false_iff_ne.mpr h, Bool.false_or, List.map_cons]
      refine decide_eq_decide.mpr ⟨fun z => List.mem_cons_of_mem _ z, fun z => ?_⟩
      rcases List.mem_cons.mp z with z | z
      · exact absurd z.symm h
      · exact z
theorem strs_flat (l : List Row) : (l.map fun r => V.str r.1).all flatV = true := by
  induction l with
  | nil => rfl
  | cons r t ih => exact ih
theorem pairs_of {H : Hp} {f : Row → Row} : ∀ {rows : List Row} {ys : List V}, Paired (fun r y => ∃ b, y = V.ref b ∧ PairT H b (f r)) rows ys → ∃ bs : List Addr, ys = bs.map V.ref ∧ Paired (PairT H) bs (rows.map f)
  | _, _, .nil => ⟨[], rfl, .nil⟩
  | _, _, .cons ⟨b, e, h⟩ t => by
    obtain ⟨bs, e2, p⟩ := pairs_of t
    exact ⟨b :: bs, by rw [e, e2, List.map_cons], .cons h p⟩
/-- what an error tells -/
abbrev Err (K : PySem.W.Frag) (C : Str) (fs : List (Str × V)) (H : Hp) (E : XK) : Prop := ∀ d H', Ext H H' → H' d = some (.xd fs) → E (.ref (ga K C)) (some d) H'
/-! ### Workshop.put -/
def putR (n t : Str) (rows : List Row) : List Row := if n ∈ rows.map (·.1) then rows.map (fun r => (r.1, if r.1 = n then t else r.2)) else rows ++ [(n, t)]
def spPut (K : PySem.W.Frag) : Sp := fun vs H Q E => ∃ (x : Addr) (n t : Str) (rows : List Row) (past : List (List Row)) (fl : Int), vs = [.ref x, .str n, .str t] ∧ WS K H x rows past fl ∧ RowsOk rows ∧ past.length ≤ 100000 ∧ n.length ≤ 1000 ∧
  (isw n = false → Err K "InvalidPart" [("index", .int 0), ("word", .str "name")] H E) ∧ (isw n = true → ∀ H', Keep [x] H H' → WS K H' x (putR n t rows) (past ++ [rows]) fl → Q .non H')
section
variable {P : Program} {w : World} {K : PySem.W.Frag} {mg : Str → Option Value} {base : Heap}
abbrev N_put : List Str := ["self", "name", "text", "own", "elder"]
theorem sc_put : FnScope N_put ["self", "name", "text"] (defScope s_Workshop_put) := ⟨rfl, rfl, rfl, by decide +kernel, rfl, by decide +kernel, by decide +kernel⟩
theorem ok_put (T : T72 K mg) : Def P w K mg base (L2.CX P w) 3 (ma K (ga K "Workshop") "put") ["self", "name", "text"] (spPut K) := by
  refine Def.mkX T.d_Workshop_put sc_put (fun vs H Q E h => ?_) (fun _ _ _ _ _ _ us hl => match us, hl with | [_, _, _], _ => rfl) (fun cdv A outer s H vs Q E hr h => ?_)
  · obtain ⟨_, _, _, _, _, _, rfl, _⟩ := h
    rfl
  obtain ⟨x, n, t, rows, past, fl, rfl, ws, ok, hl, hn, hno, hyes⟩ := h
  obtain ⟨fdw, Gw, bw⟩ := (ok_isw (P := P) (w := w) (base := base) T).ex
  have kpw := (ok_isw (P := P) (w := w) (base := base) T).kp
  obtain ⟨fdn, Gn, bn⟩ := (ok_names (P := P) (w := w) (base := base) T).ex
  obtain ⟨fdc, Gc, bc⟩ := (ok_change (P := P) (w := w) (base := base) T).ex
  obtain ⟨fde, Ge, be⟩ := (ok_IPt (P := P) (w := w) (base := base) T).ex
  obtain ⟨oe, _, iC, tI⟩ := T.oex_InvalidPart
  refine ⟨_, pss_cons (ps_if (pt_not (pt_val (pe_call Gw (hr.mono (by decide)) (by rfl) T.g_is_word kpw bw .nil pass0 (pa_cons (pv 1) pa_nil))))
      (pss_one (ps_raise rfl (takes_of rfl rfl rfl rfl) (pmk_oex oe iC tI Ge hr be .nil pass0 (by rfl) T.g_InvalidPart (pa_cons pe_str (pa_cons pe_int pa_nil))))) pss_nil)
    (pss_one (ps_if (pt_cmpR op_in_seq (pv 1) (pe_prop (pv 0) T.cl_Workshop T.prop_names Gn hr bn .nil pass0 rfl) (by rfl))
      (pss_one (ps_expr (pe_meth (pv 0) T.cl_Workshop T.me_Workshop_change Gc (hr.mono (by decide)) bc .nil pass0 (pa_cons (pe_callTy call_tupleF (by rfl) T.f_tuple (by decide +kernel) (pa_cons
        (pe_lc (own := [("own", 3), ("elder", 4)]) (g := gTup K 2 (gCons (gName 3) (gCons (gName 4) gNil))) (tt := tYes) rfl sc_put.nd (pi_tup (pe_fld (pv 0) rfl))
          (blkOk_by (N := N_put) (sc := defScope s_Workshop_put) (by decide +kernel)) (fun _ _ _ _ _ => pg_tup (by rfl) (pgs_cons (pg_name (i := 3) sc_put.nd rfl (Or.inl rfl)) (pgs_cons (pg_name (i := 4) sc_put.nd rfl (Or.inl rfl)) pgs_nil))) (fun _ _ _ _ _ => pts_nil)
          (fun _ _ _ _ _ => pe_tup (pa_cons (pv 3) (pa_cons (pe_ifExp (pt_cmpR op_eq (pv 3) (pv 1) (nomark _)) (pv 2) (pv 4)) pa_nil)))) pa_nil)) pa_nil))))
      (pss_one (ps_expr (pe_meth (pv 0) T.cl_Workshop T.me_Workshop_change Gc (hr.mono (by decide)) bc .nil pass0 (pa_cons (pe_op op_catF (pe_fld (pv 0) rfl) (pe_tupF (pa_cons (pe_tup (pa_cons (pv 1) (pa_cons (pv 2) pa_nil))) pa_nil))) pa_nil)))))), ?_⟩
  obtain ⟨dw, k, p, kp, hx, ⟨as, hk, pk⟩, hp, hkp⟩ := id ws
  walk_at "rd"
  refine ⟨n, rfl, hn, fun H1 e1 => ?_⟩
  refine Rd.bk ?_
  cases hw : isw n with
  | false =>
    walk_at "rd"
    exact err_in rfl (by simp) fun d nd => hno hw d _ (e1.newL nd) upd_same
  | true =>
    walk_at "rd"
    refine ⟨x, dw, _, rfl, e1 _ _ hx, ?_⟩
    refine ⟨x, rows, past, fl, rfl, ws.ext e1, ok, fun H2 tn e2 ht => ?_⟩
    have e12 := e1.trans e2
    refine Rd.inS (.inr ht.sq) rfl (strs_flat rows) ?_
    rw [inV_strs]
    walk_at "rd"
    refine ite2 (fun hin => ?_) (fun hin => ?_)
    · have hin : n ∈ rows.map (·.1) := of_decide_eq_true hin
      walk_at "rd"
      refine Rd.insE (e12 _ _ hx) rfl ?_
      walk_at "rd"
      refine Rd.fldE' (e12 _ _ hx) T.cl_Workshop T.na_Workshop_kept_texts rfl ?_
      refine lc_rowsT (fun _ => true) (fun H r y => ∃ b, y = V.ref b ∧ PairT H b (r.1, if r.1 = n then t else r.2)) (hk.ext e12) (fun hT ⟨b, e, h⟩ => ⟨b, e, hT _ _ h⟩) (Paired.mapP pk fun _ _ z => e12 _ _ z) (by have := ok.len; omega) (fun r b H3 K1 K0 hr' e hb h1 h0 => ?_) (fun D H3 ys n0 e hD hy => ?_)
      · refine Rd.gtup hb rfl ?_
        walk_at "rd"
        refine ⟨rfl, ?_⟩
        walk_at "rd"
        have dd : decide (V.str r.1 = V.str n) = decide (r.1 = n) := decide_eq_decide.mpr ⟨fun z => V.str.inj z, fun z => by rw [z]⟩
        rw [dd]
        refine ite2 (fun hc => ?_) (fun hc => ?_)
        · walk_at "rd"
          intro q nq
          exact h1 _ _ (.new nq) rfl ⟨q, rfl, by rw [if_pos (of_decide_eq_true hc)]; exact upd_same⟩
        · walk_at "rd"
          intro q nq
          exact h1 _ _ (.new nq) rfl ⟨q, rfl, by rw [if_neg (fun z => hc (decide_eq_true z))]; exact upd_same⟩
      · rw [List.filter_eq_self.mpr (fun _ _ => rfl)] at hy
        obtain ⟨bs, e3, pb⟩ := pairs_of hy
        subst e3
        walk_at "rd"
        refine ⟨D, _, rfl, .of hD, fun l o nl hd => ?_⟩
        have e4 : Ext H (upd H3 l (.frz o (.tup (bs.map V.ref)))) := (e12.trans e).newL nl
        refine ⟨x, l, rows, _, past, fl, rfl, ws.ext e4, ⟨bs, ⟨o, upd_same, hd⟩, Paired.mapP pb fun _ _ z => (Ext.new nl) _ _ z⟩, hl, fun H' kk w' => ?_⟩
        refine hyes hw H' ((Keep.of e4).trans kk) ?_
        unfold putR
        rw [if_pos hin]
        exact w'
    · have hin : ¬ n ∈ rows.map (·.1) := fun z => hin (decide_eq_true z)
      walk_at "rd"
      refine Rd.insE (e12 _ _ hx) rfl ?_
      walk_at "rd"
      refine Rd.fldE' (e12 _ _ hx) T.cl_Workshop T.na_Workshop_kept_texts rfl ?_
      walk_at "rd"
      intro q nq
      walk_at "rd"
      intro q2 o2 nq2 d2
      have e3 : Ext H (upd H2 q (.tup [.str n, .str t])) := e12.newL nq
      have e4 : Ext H (upd (upd H2 q (.tup [.str n, .str t])) q2 (.frz o2 (.tup [.ref q]))) := e3.newL nq2
      have hq : ∀ {H' : Hp}, Ext (upd H2 q (.tup [.str n, .str t])) H' → PairT H' q (n, t) := fun e => e _ _ upd_same
      have fin : ∀ (H5 : Hp) (l : Addr) (bs : List Addr), Ext (upd H2 q (.tup [.str n, .str t])) H5 → FT H5 l (bs.map V.ref) → Paired (PairT H5) bs (rows ++ [(n, t)]) → spChange K [.ref x, .ref l] H5 (fun _ H1 => Q .non H1) E0 := fun H5 l bs e5 hb pb => by
        refine ⟨x, l, rows, _, past, fl, rfl, ws.ext (e3.trans e5), ⟨bs, hb, pb⟩, hl, fun H' kk w' => ?_⟩
        refine hyes hw H' ((Keep.of (e3.trans e5)).trans kk) ?_
        unfold putR
        rw [if_neg hin]
        exact w'
      have en : Ext (upd H2 q (.tup [.str n, .str t])) (upd (upd H2 q (.tup [.str n, .str t])) q2 (.frz o2 (.tup [.ref q]))) := .new nq2
      refine ⟨k, q2, as.map V.ref, [.ref q], rfl, rfl, .inl (.inr (let ⟨o, h1, _⟩ := hk.ext e4; ⟨o, h1⟩)), .inl (.inr ⟨o2, upd_same⟩), ?_, fun h0 => ?_, fun _ h0 => absurd h0 (by simp), fun h0 _ l o3 nl d3 => ?_⟩
      · rw [List.length_map, Paired.length pk, sizeLine_eq]
        have := ok.len
        simp
        omega
      · have h1 : as = [] := List.map_eq_nil_iff.mp h0
        subst h1
        cases pk
        walk_at "rd"
        exact fin _ q2 [q] en ⟨o2, upd_same, d2⟩ (.cons (hq en) .nil)
      · walk_at "rd"
        have en2 : Ext (upd H2 q (.tup [.str n, .str t])) (upd (upd (upd H2 q (.tup [.str n, .str t])) q2 (.frz o2 (.tup [.ref q]))) l (.frz o3 (.tup (as.map V.ref ++ [.ref q])))) := en.newL nl
        exact fin _ l (as ++ [q]) en2 ⟨o3, by rw [List.map_append]; exact upd_same, d3⟩ (Paired.snoc (Paired.mapP pk fun _ _ z => (e3.trans en2) _ _ z) (hq en2))
end
end W72
-- D6

set_option Elab.async false
set_option linter.all false
set_option maxRecDepth 100000
set_option maxHeartbeats 400000
namespace W72
open PySem PySem.Spec PyProof.Rows L2 Ft
local macro_rules | `(tactic| walk_at "rd") => `(tactic| (repeat (first
  | with_reducible refine Rd.seq ?_ | with_reducible refine Rd.asg ?_ | with_reducible refine Rd.var rfl ?_ | with_reducible refine Rd.con ?_ | with_reducible refine Rd.op ?_ | with_reducible refine Rd.gname ?_ | with_reducible refine Rd.gsub ?_
  | with_reducible refine Rd.ri0 ?_ | with_reducible refine Rd.mulL (by decide +kernel) ?_ | with_reducible refine Rd.mulR (by decide +kernel) ?_ | with_reducible refine Rd.modK (by decide +kernel) ?_ | with_reducible refine Rd.divK (by decide +kernel) ?_
  | with_reducible refine Rd.test ?_ | with_reducible refine Rd.bk ?_ | with_reducible refine Rd.cons ?_ | with_reducible refine Rd.nil ?_ | with_reducible refine Rd.ret ?_ | with_reducible refine Rd.retN ?_ | with_reducible refine Rd.ifs ?_
  | with_reducible refine Rd.nxt ?_ | with_reducible refine Rd.ixl (by first | assumption | exact upd_same) rfl ?_ | with_reducible refine Rd.setl (by first | assumption | exact upd_same) rfl ?_
  | with_reducible refine Rd.cb ?_ | with_reducible refine Rd.andT ?_ | with_reducible refine Rd.orT ?_ | with_reducible refine Rd.notT ?_ | with_reducible refine Rd.ifexp ?_ | with_reducible refine Rd.req rfl ?_ | with_reducible refine Rd.rne rfl ?_
  | with_reducible refine Rd.tup ?_ | with_reducible refine Rd.lst ?_ | with_reducible refine Rd.dget0 ?_ | with_reducible refine Rd.dput0 ?_ | with_reducible refine Rd.fld0 ?_ | with_reducible refine Rd.sfld0 ?_ | with_reducible refine Rd.sl ?_
  | with_reducible refine Rd.nopart ?_ | with_reducible refine Rd.part0 ?_ | with_reducible refine Rd.intE ?_ | with_reducible refine Rd.un ?_ | with_reducible refine Rd.ru ?_ | with_reducible refine Rd.expr ?_ | with_reducible refine Rd.gfld ?_
  | with_reducible refine Rd.gcons ?_ | with_reducible refine Rd.gnil ?_ | with_reducible refine Rd.call ?_ | with_reducible refine lc_inT ?_ | with_reducible refine lc_inL ?_
  | with_reducible refine Rd.lenL (by assumption) ?_ | with_reducible refine Rd.lenT (by assumption) ?_ | with_reducible refine Rd.gtup (by assumption) rfl ?_
  | with_reducible refine Rd.dgetE (by first | assumption | exact upd_same) rfl ?_ | with_reducible refine Rd.dputE (by first | assumption | exact upd_same) (by decide) ?_
  | with_reducible refine Rd.line (by first | decide | simp) ?_ | with_reducible refine Rd.yes ?_ | with_reducible refine Rd.tupF ?_ | with_reducible refine Rd.meth0 ?_ | with_reducible refine Rd.prop0 ?_ | with_reducible refine mko ?_ | with_reducible refine Rd.ifNT ?_ | with_reducible refine Rd.ifNF ?_ | with_reducible refine Rd.tbE ?_ | with_reducible refine Rd.andV ?_ | with_reducible refine Rd.chain ?_ | with_reducible refine Rd.ifT ?_ | with_reducible refine Rd.ifF ?_ | dsimp only [])))
local macro_rules | `(tactic| walk_at "hp") => `(tactic| (first | assumption | exact upd_same | grind [upd]))
/-! ### Workshop.drop, text, undo, trial -/
theorem valV_merge {k : Key} : ∀ (l acc : List (Key × V)), (l.map (·.1)).Nodup → valV (mergeK acc l) k = (valV l k).or (valV acc k)
  | [], acc, _ => by
    show valV acc k = _
    rw [valV_nil, Option.none_or]
  | p :: r, acc, nd => by
    rw [List.map_cons, List.nodup_cons] at nd
    show valV (mergeK (putK acc p.1 p.2) r) k = _
    rw [valV_merge r _ nd.2, valV_put]
    by_cases h : k = p.1
    · have hn : valV r k = none := by
        cases e : valV r k with
        | none => rfl
        | some v =>
          have z := valV_any k r
          rw [e] at z
          obtain ⟨q, hq, e2⟩ := List.any_eq_true.mp (z.trans rfl)
          exact absurd (by rw [← h, ← of_decide_eq_true e2]; exact List.mem_map_of_mem hq) nd.1
      rw [hn, if_pos h, valV_pos h.symm, Option.none_or, Option.some_or]
    · rw [if_neg h, valV_neg (fun z => h z.symm)]
theorem valV_rows {n t : Str} : ∀ {rows : List Row}, (rows.map (·.1)).Nodup → (n, t) ∈ rows → valV (rows.map fun r => ((Sum.inr r.1 : Key), V.str r.2)) (Sum.inr n) = some (.str t)
  | r :: rs, nd, h => by
    rw [List.map_cons, List.nodup_cons] at nd
    rw [List.map_cons]
    rcases List.mem_cons.mp h with e | h
    · rw [← e]
      exact valV_pos rfl
    · have ne : ¬ r.1 = n := fun z => nd.1 (by rw [z]; exact List.mem_map_of_mem (f := (·.1)) h)
      rw [valV_neg (fun z => ne (Sum.inr.inj z))]
      exact valV_rows nd.2 h
def spDrop (K : PySem.W.Frag) : Sp := fun vs H Q E => ∃ (x : Addr) (n : Str) (rows : List Row) (past : List (List Row)) (fl : Int), vs = [.ref x, .str n] ∧ WS K H x rows past fl ∧ RowsOk rows ∧ past.length ≤ 100000 ∧
  (n ∉ rows.map (·.1) → Err K "UnknownName" [("name", .str n)] H E) ∧ (n ∈ rows.map (·.1) → ∀ H', Keep [x] H H' → WS K H' x (rows.filter fun r => decide (r.1 ≠ n)) (past ++ [rows]) fl → Q .non H')
def spText (K : PySem.W.Frag) : Sp := fun vs H Q E => ∃ (x : Addr) (n : Str) (rows : List Row) (past : List (List Row)) (fl : Int), vs = [.ref x, .str n] ∧ WS K H x rows past fl ∧ RowsOk rows ∧
  (n ∉ rows.map (·.1) → Err K "UnknownName" [("name", .str n)] H E) ∧ (∀ t, (n, t) ∈ rows → ∀ H', Ext H H' → Q (.str t) H')
section
variable {P : Program} {w : World} {K : PySem.W.Frag} {mg : Str → Option Value} {base : Heap}
abbrev N_drop : List Str := ["self", "name", "own", "text"]
theorem sc_drop : FnScope N_drop ["self", "name"] (defScope s_Workshop_drop) := ⟨rfl, rfl, rfl, by decide +kernel, rfl, by decide +kernel, by decide +kernel⟩
theorem ok_drop (T : T72 K mg) : Def P w K mg base (L2.CX P w) 3 (ma K (ga K "Workshop") "drop") ["self", "name"] (spDrop K) := by
  refine Def.mkX T.d_Workshop_drop sc_drop (fun vs H Q E h => ?_) (fun _ _ _ _ _ _ us hl => match us, hl with | [_, _], _ => rfl) (fun cdv A outer s H vs Q E hr h => ?_)
  · obtain ⟨_, _, _, _, _, rfl, _⟩ := h
    rfl
  obtain ⟨x, n, rows, past, fl, rfl, ws, ok, hl, hno, hyes⟩ := h
  obtain ⟨fdn, Gn, bn⟩ := (ok_names (P := P) (w := w) (base := base) T).ex
  obtain ⟨fdc, Gc, bc⟩ := (ok_change (P := P) (w := w) (base := base) T).ex
  obtain ⟨fde, Ge, be⟩ := (ok_UN (P := P) (w := w) (base := base) T).ex
  obtain ⟨oe, _, iC, tI⟩ := T.oex_UnknownName
  refine ⟨_, pss_cons (ps_if (pt_cmpR op_notIn_seq (pv 1) (pe_prop (pv 0) T.cl_Workshop T.prop_names Gn hr bn .nil pass0 rfl) (by rfl))
      (pss_one (ps_raise rfl (takes_of rfl rfl rfl rfl) (pmk_oexK oe iC tI Ge hr be .nil pass0 (by rfl) T.g_UnknownName (pa_cons (pv 1) pa_nil)))) pss_nil)
    (pss_one (ps_expr (pe_meth (pv 0) T.cl_Workshop T.me_Workshop_change Gc (hr.mono (by decide)) bc .nil pass0 (pa_cons (pe_callTy call_tupleF (by rfl) T.f_tuple (by decide +kernel) (pa_cons
      (pe_lc (own := [("own", 2), ("text", 3)]) (g := gTup K 2 (gCons (gName 2) (gCons (gName 3) gNil))) rfl sc_drop.nd (pi_tup (pe_fld (pv 0) rfl))
        (blkOk_by (N := N_drop) (sc := defScope s_Workshop_drop) (by decide +kernel)) (fun _ _ _ _ _ => pg_tup (by rfl) (pgs_cons (pg_name (i := 2) sc_drop.nd rfl (Or.inl rfl)) (pgs_cons (pg_name (i := 3) sc_drop.nd rfl (Or.inl rfl)) pgs_nil)))
        (fun _ _ _ _ _ => pts_one (pt_cmpR op_ne (pv 2) (pv 1) (nomark _)))
        (fun _ _ _ _ _ => pe_tup (pa_cons (pv 2) (pa_cons (pv 3) pa_nil)))) pa_nil)) pa_nil)))), ?_⟩
  obtain ⟨dw, k, p, kp, hx, ⟨as, hk, pk⟩, hp, hkp⟩ := id ws
  walk_at "rd"
  refine ⟨x, dw, _, rfl, hx, ?_⟩
  refine ⟨x, rows, past, fl, rfl, ws, ok, fun H2 tn e12 ht => ?_⟩
  refine Rd.notIn (.inr ht.sq) rfl (strs_flat rows) ?_
  rw [inV_strs]
  walk_at "rd"
  refine ite2 (fun hin => ?_) (fun hin => ?_)
  · have hin : ¬ n ∈ rows.map (·.1) := by simpa using hin
    walk_at "rd"
    exact err_in rfl (by simp) fun d nd => hno hin d _ (e12.newL nd) upd_same
  · have hin : n ∈ rows.map (·.1) := by simpa using hin
    walk_at "rd"
    refine Rd.insE (e12 _ _ hx) rfl ?_
    walk_at "rd"
    refine Rd.fldE' (e12 _ _ hx) T.cl_Workshop T.na_Workshop_kept_texts rfl ?_
    refine lc_rowsT (fun r => decide (r.1 ≠ n)) (fun H r y => ∃ b, y = V.ref b ∧ PairT H b r) (hk.ext e12) (fun hT ⟨b, e, h⟩ => ⟨b, e, hT _ _ h⟩) (Paired.mapP pk fun _ _ z => e12 _ _ z) (by have := ok.len; omega) (fun r b H3 K1 K0 hr' e hb h1 h0 => ?_) (fun D H3 ys n0 e hD hy => ?_)
    · refine Rd.gtup hb rfl ?_
      walk_at "rd"
      refine ⟨rfl, ?_⟩
      walk_at "rd"
      have dd : (!decide (V.str r.1 = V.str n)) = decide (r.1 ≠ n) := by
        by_cases h : r.1 = n
        · simp [h]
        · have h2 : ¬ V.str r.1 = V.str n := fun z => h (V.str.inj z)
          simp [h, h2]
      rw [dd]
      refine ite2 (fun hc => ?_) (fun hc => ?_)
      · walk_at "rd"
        intro q nq
        exact h1 _ _ (.new nq) hc ⟨q, rfl, upd_same⟩
      · exact h0 _ (Ext.refl _) (by simpa using hc)
    · obtain ⟨bs, e3, pb⟩ := pairs_of (f := id) hy
      subst e3
      rw [List.map_id] at pb
      walk_at "rd"
      refine ⟨D, _, rfl, .of hD, fun l o nl hd => ?_⟩
      have e4 : Ext H (upd H3 l (.frz o (.tup (bs.map V.ref)))) := (e12.trans e).newL nl
      exact ⟨x, l, rows, _, past, fl, rfl, ws.ext e4, ⟨bs, ⟨o, upd_same, hd⟩, Paired.mapP pb fun _ _ z => (Ext.new nl) _ _ z⟩, hl, fun H' kk w' => hyes hin H' ((Keep.of e4).trans kk) w'⟩
theorem sc_text : FnScope ["self", "name"] ["self", "name"] (defScope s_Workshop_text) := ⟨rfl, rfl, rfl, by decide +kernel, rfl, by decide +kernel, by decide +kernel⟩
theorem ok_text (T : T72 K mg) : Def P w K mg base (L2.CX P w) 3 (ma K (ga K "Workshop") "text") ["self", "name"] (spText K) := by
  refine Def.mkX T.d_Workshop_text sc_text (fun vs H Q E h => ?_) (fun _ _ _ _ _ _ us hl => match us, hl with | [_, _], _ => rfl) (fun cdv A outer s H vs Q E hr h => ?_)
  · obtain ⟨_, _, _, _, _, rfl, _⟩ := h
    rfl
  obtain ⟨x, n, rows, past, fl, rfl, ws, ok, hno, hyes⟩ := h
  obtain ⟨fdn, Gn, bn⟩ := (ok_names (P := P) (w := w) (base := base) T).ex
  obtain ⟨fde, Ge, be⟩ := (ok_UN (P := P) (w := w) (base := base) T).ex
  obtain ⟨oe, _, iC, tI⟩ := T.oex_UnknownName
  have hu := hu_of hr
  refine ⟨_, pss_cons (ps_if (pt_cmpR op_notIn_seq (pv 1) (pe_prop (pv 0) T.cl_Workshop T.prop_names Gn hr bn .nil pass0 rfl) (by rfl))
      (pss_one (ps_raise rfl (takes_of rfl rfl rfl rfl) (pmk_oexK oe iC tI Ge hr be .nil pass0 (by rfl) T.g_UnknownName (pa_cons (pv 1) pa_nil)))) pss_nil)
    (pss_one (ps_ret (pe_dget hu (pe_callTy (call_dictF rfl) (by rfl) T.f_dict (by decide +kernel) (pa_cons (pe_fld (pv 0) rfl) pa_nil)) (pv 1) (fun _ _ => rfl)))), ?_⟩
  obtain ⟨dw, k, p, kp, hx, ⟨as, hk, pk⟩, hp, hkp⟩ := id ws
  walk_at "rd"
  refine ⟨x, dw, _, rfl, hx, ?_⟩
  refine ⟨x, rows, past, fl, rfl, ws, ok, fun H2 tn e12 ht => ?_⟩
  refine Rd.notIn (.inr ht.sq) rfl (strs_flat rows) ?_
  rw [inV_strs]
  walk_at "rd"
  refine ite2 (fun hin => ?_) (fun hin => ?_)
  · have hin : ¬ n ∈ rows.map (·.1) := by simpa using hin
    walk_at "rd"
    exact err_in rfl (by simp) fun d nd => hno hin d _ (e12.newL nd) upd_same
  · have hin : n ∈ rows.map (·.1) := by simpa using hin
    obtain ⟨⟨n', t⟩, hm, en⟩ := List.mem_map.mp hin
    have en : n' = n := en
    subst en
    walk_at "rd"
    refine Rd.fldE' (e12 _ _ hx) T.cl_Workshop T.na_Workshop_kept_texts rfl ?_
    walk_at "rd"
    have pp : ∀ {as : List Addr} {rows : List Row}, Paired (PairT H2) as rows → Paired (fun p (kv : Key × V) => SqT K H2 p [kV kv.1, kv.2]) as (rows.map fun r => ((Sum.inr r.1 : Key), V.str r.2)) := fun {as rows} h => by
      induction h with
      | nil => exact .nil
      | cons h t ih => exact .cons (.of h) ih
    have hpp := pp (as := as) (rows := rows) (Paired.mapP pk fun _ _ z => e12 _ _ z)
    refine ⟨k, as, _, rfl, hk.ext e12, hpp, fun d nd => ?_⟩
    walk_at "rd"
    refine Rd.dgetE upd_same (v := .str t) ?_ (hyes t hm _ (e12.newL nd))
    rw [valV_merge _ _ ?_, valV_rows ok.nd hm, Option.some_or]
    have e3 : (rows.map fun r => ((Sum.inr r.1 : Key), V.str r.2)).map (·.1) = (rows.map (·.1)).map Sum.inr := by simp [List.map_map, Function.comp_def]
    rw [e3]
    exact List.Pairwise.map _ (fun a b h z => h (Sum.inr.inj z)) ok.nd
end
end W72
-- D7

set_option Elab.async false
set_option linter.all false
set_option maxRecDepth 100000
set_option maxHeartbeats 400000
namespace W72
open PySem PySem.Spec PyProof.Rows L2 Ft
local macro_rules | `(tactic| walk_at "rd") => `(tactic| (repeat (first
  | with_reducible refine Rd.seq ?_ | with_reducible refine Rd.asg ?_ | with_reducible refine Rd.var rfl ?_ | with_reducible refine Rd.con ?_ | with_reducible refine Rd.op ?_ | with_reducible refine Rd.gname ?_ | with_reducible refine Rd.gsub ?_
  | with_reducible refine Rd.ri0 ?_ | with_reducible refine Rd.mulL (by decide +kernel) ?_ | with_reducible refine Rd.mulR (by decide +kernel) ?_ | with_reducible refine Rd.modK (by decide +kernel) ?_ | with_reducible refine Rd.divK (by decide +kernel) ?_
  | with_reducible refine Rd.test ?_ | with_reducible refine Rd.bk ?_ | with_reducible refine Rd.cons ?_ | with_reducible refine Rd.nil ?_ | with_reducible refine Rd.ret ?_ | with_reducible refine Rd.retN ?_ | with_reducible refine Rd.ifs ?_
  | with_reducible refine Rd.nxt ?_ | with_reducible refine Rd.ixl (by first | assumption | exact upd_same) rfl ?_ | with_reducible refine Rd.setl (by first | assumption | exact upd_same) rfl ?_
  | with_reducible refine Rd.cb ?_ | with_reducible refine Rd.andT ?_ | with_reducible refine Rd.orT ?_ | with_reducible refine Rd.notT ?_ | with_reducible refine Rd.ifexp ?_ | with_reducible refine Rd.req rfl ?_ | with_reducible refine Rd.rne rfl ?_
  | with_reducible refine Rd.tup ?_ | with_reducible refine Rd.lst ?_ | with_reducible refine Rd.dget0 ?_ | with_reducible refine Rd.dput0 ?_ | with_reducible refine Rd.fld0 ?_ | with_reducible refine Rd.sfld0 ?_ | with_reducible refine Rd.sl ?_
  | with_reducible refine Rd.nopart ?_ | with_reducible refine Rd.part0 ?_ | with_reducible refine Rd.intE ?_ | with_reducible refine Rd.un ?_ | with_reducible refine Rd.ru ?_ | with_reducible refine Rd.expr ?_
  | with_reducible refine Rd.gcons ?_ | with_reducible refine Rd.gnil ?_ | with_reducible refine Rd.call ?_ | with_reducible refine lc_inT ?_ | with_reducible refine lc_inL ?_
  | with_reducible refine Rd.lenL (by assumption) ?_ | with_reducible refine Rd.lenT (by assumption) ?_ | with_reducible refine Rd.gtup (by assumption) rfl ?_
  | with_reducible refine Rd.dgetE (by first | assumption | exact upd_same) rfl ?_ | with_reducible refine Rd.dputE (by first | assumption | exact upd_same) (by decide) ?_
  | with_reducible refine Rd.line (by first | decide | simp) ?_ | with_reducible refine Rd.yes ?_ | with_reducible refine Rd.asg2 ?_ | with_reducible refine Rd.tupF ?_ | with_reducible refine Rd.meth0 ?_ | with_reducible refine Rd.prop0 ?_ | with_reducible refine mko ?_ | with_reducible refine Rd.ifNT ?_ | with_reducible refine Rd.ifNF ?_ | with_reducible refine Rd.tbE ?_ | with_reducible refine Rd.andV ?_ | with_reducible refine Rd.chain ?_ | with_reducible refine Rd.ifT ?_ | with_reducible refine Rd.ifF ?_ | dsimp only [])))
local macro_rules | `(tactic| walk_at "hp") => `(tactic| (first | assumption | exact upd_same | grind [upd]))
/-! ### Workshop.undo, trial; Trial -/
theorem Paired.unsnoc {α β : Type} {F : α → β → Prop} {y : β} : ∀ {ys : List β} {l : List α}, Paired F l (ys ++ [y]) → ∃ xs x, l = xs ++ [x] ∧ Paired F xs ys ∧ F x y
  | [], _, .cons r .nil => ⟨[], _, rfl, .nil, r⟩
  | z :: zs, _, .cons r t => by
    obtain ⟨xs, x, e, p, h⟩ := Paired.unsnoc (ys := zs) t
    exact ⟨_ :: xs, x, by rw [e]; rfl, .cons r p, h⟩
theorem cut_last (l : List V) (x : V) : cutV (l ++ [x]) none (some (-1)) = l := by
  unfold cutV
  have e1 : HT.sIx (l ++ [x]).length 0 none = 0 := rfl
  have e2 : HT.sIx (l ++ [x]).length (l ++ [x]).length (some (-1)) = l.length := by
    show (if (-1 : Int) < 0 then ((-1 : Int) + ((l ++ [x]).length : Int)).toNat else min (-1 : Int).toNat (l ++ [x]).length) = _
    rw [if_pos (by decide), List.length_append, List.length_cons, List.length_nil]
    omega
  rw [e1, e2]
  simp
theorem cut_not (l : List V) (x : V) : ¬ (HT.sIx (l ++ [x]).length 0 none = 0 ∧ HT.sIx (l ++ [x]).length (l ++ [x]).length (some (-1)) = (l ++ [x]).length) := fun ⟨_, h⟩ => by
  have e2 : HT.sIx (l ++ [x]).length (l ++ [x]).length (some (-1)) = l.length := by
    show (if (-1 : Int) < 0 then ((-1 : Int) + ((l ++ [x]).length : Int)).toNat else min (-1 : Int).toNat (l ++ [x]).length) = _
    rw [if_pos (by decide), List.length_append, List.length_cons, List.length_nil]
    omega
  rw [e2, List.length_append, List.length_cons, List.length_nil] at h
  omega
abbrev trF (x : Addr) (kv tx pt : V) (fl : Int) : List (Str × V) := [("house", .ref x), ("kept", kv), ("saved_texts", tx), ("saved_past", pt), ("saved_floor", .int fl)]
def spUndo (K : PySem.W.Frag) : Sp := fun vs H Q _ => ∃ (x : Addr) (rows : List Row) (past : List (List Row)) (fl : Int), vs = [.ref x] ∧ WS K H x rows past fl ∧ 0 ≤ fl ∧
  ((past.length : Int) ≤ fl → Q (.bl false) H) ∧ (∀ ps r, fl < (past.length : Int) → past = ps ++ [r] → ∀ H', Keep [x] H H' → WS K H' x r ps fl → Q (.bl true) H')
def spTInit (K : PySem.W.Frag) : Sp := fun vs H Q _ => ∃ t x dt : Addr, vs = [.ref t, .ref x] ∧ H t = some (.ins (ga K "Trial") dt []) ∧ ∀ H' e, Keep [t] H H' → H' t = some (.ins (ga K "Trial") dt (trF x .non (.ref e) (.ref e) 0)) → Q .non H'
def spEnter (K : PySem.W.Frag) : Sp := fun vs H Q _ => ∃ (t x dt dw k p kp : Addr) (kv tx pt : V) (f0 fl : Int) (ps : List V), vs = [.ref t] ∧ H t = some (.ins (ga K "Trial") dt (trF x kv tx pt f0)) ∧ H x = some (.ins (ga K "Workshop") dw (wsF k p fl kp)) ∧
  H p = some (.tup ps) ∧ ∀ H', Keep [t, x] H H' → H' t = some (.ins (ga K "Trial") dt (trF x .non (.ref k) (.ref p) fl)) → H' x = some (.ins (ga K "Workshop") dw (wsF k p ps.length kp)) → Q (.ref t) H'
def spExit (K : PySem.W.Frag) : Sp := fun vs H Q _ => ∃ (t x dt dw k p kp k0 p0 : Addr) (kind val tr : V) (kept : Bool) (f0 fl : Int), vs = [.ref t, kind, val, tr] ∧ H t = some (.ins (ga K "Trial") dt (trF x (if kept then .bl true else .non) (.ref k0) (.ref p0) f0)) ∧
  H x = some (.ins (ga K "Workshop") dw (wsF k p fl kp)) ∧ ∀ H', Keep [x] H H' → H' x = some (.ins (ga K "Workshop") dw (if kind ≠ .non ∨ kept = false then wsF k0 p0 f0 kp else wsF k p f0 kp)) → Q .non H'
def spKeep (K : PySem.W.Frag) : Sp := fun vs H Q _ => ∃ (t x dt : Addr) (kv tx pt : V) (f0 : Int), vs = [.ref t] ∧ H t = some (.ins (ga K "Trial") dt (trF x kv tx pt f0)) ∧ Q .non (upd H t (.ins (ga K "Trial") dt (trF x (.bl true) tx pt f0)))
def spTrial (K : PySem.W.Frag) : Sp := fun vs H Q _ => ∃ x : Addr, vs = [.ref x] ∧ ∀ H' t dt e, Ext H H' → H t = none → H' t = some (.ins (ga K "Trial") dt (trF x .non (.ref e) (.ref e) 0)) → Q (.ref t) H'
theorem tr_ws {H : Hp} {t x y C C' dt dw k p kp : Addr} {kv tx pt : V} {f0 fl : Int} (ht : H t = some (.ins C dt (trF y kv tx pt f0))) (hx : H x = some (.ins C' dw (wsF k p fl kp))) : t ≠ x := fun z => by
  rw [z, hx] at ht
  have e := Option.some.inj ht
  injection e with _ _ h3
  exact absurd (Prod.mk.inj (List.cons.inj h3).1).1 (by decide)
section
variable {P : Program} {w : World} {K : PySem.W.Frag} {mg : Str → Option Value} {base : Heap}
theorem sc_undo : FnScope ["self"] ["self"] (defScope s_Workshop_undo) := ⟨rfl, rfl, rfl, by decide +kernel, rfl, by decide +kernel, by decide +kernel⟩
theorem ok_undo (T : T72 K mg) : Def P w K mg base CX0 1 (ma K (ga K "Workshop") "undo") ["self"] (spUndo K) := by
  refine Def.mk0 T.d_Workshop_undo sc_undo (fun vs H Q E h => ?_) (fun _ _ _ _ _ _ us hl => match us, hl with | [_], _ => rfl) (fun cdv A outer s H vs Q E hr h => ?_)
  · obtain ⟨_, _, _, _, rfl, _⟩ := h
    rfl
  obtain ⟨x, rows, past, fl, rfl, ⟨dw, k, p, kp, hx, hk, ⟨as, hp, pp⟩, hkp⟩, hfl, hno, hyes⟩ := h
  refine ⟨_, pss_cons (ps_if (pt_cmpR op_le (pe_callB call_len_seq (by rfl) T.f_len PySem.boot_len (pa_cons (pe_fld (pv 0) rfl) pa_nil)) (pe_fld (pv 0) rfl) (nomark _)) (pss_one (ps_ret pe_bl)) pss_nil)
    (pss_cons (ps_fld (pv 0) (pe_ix ix_tup (pe_fld (pv 0) rfl) (pe_un un_neg pe_int) (fun _ _ => rfl)) rfl)
      (pss_cons (ps_fld (pv 0) (pe_slice sl_tupA (pe_fld (pv 0) rfl) po_none (po_some (pe_un un_neg pe_int))) rfl) (pss_one (ps_ret pe_bl)))), ?_⟩
  walk_at "rd"
  refine Rd.fldE' hx T.cl_Workshop T.na_Workshop_past rfl ?_
  walk_at "rd"
  refine Rd.fldE' hx T.cl_Workshop T.na_Workshop_floor rfl ?_
  walk_at "rd"
  rw [List.length_map, Paired.length pp]
  refine ite2 (fun hc => ?_) (fun hc => ?_)
  · walk_at "rd"
    exact hno (of_decide_eq_true hc)
  · have hc : fl < (past.length : Int) := by
      have : ¬ ((past.length : Int) ≤ fl) := fun z => hc (decide_eq_true z)
      omega
    have hne : past ≠ [] := fun z => by rw [z] at hc; simp at hc; omega
    obtain ⟨ps, r, ep⟩ : ∃ ps r, past = ps ++ [r] := ⟨past.dropLast, past.getLast hne, (List.dropLast_concat_getLast hne).symm⟩
    rw [ep] at pp
    obtain ⟨bs, b, eb, pb, hb⟩ := Paired.unsnoc pp
    subst eb
    rw [List.map_append, List.map_cons, List.map_nil] at hp
    walk_at "rd"
    refine Rd.fldE' hx T.cl_Workshop T.na_Workshop_past rfl ?_
    walk_at "rd"
    refine Rd.ixt hp (atI_last _ _) ?_
    walk_at "rd"
    refine Rd.sfldE (fs' := wsF b p fl kp) hx T.cl_Workshop T.na_Workshop_kept_texts (by simp) rfl ?_
    walk_at "rd"
    refine Rd.fldE' upd_same T.cl_Workshop T.na_Workshop_past rfl ?_
    walk_at "rd"
    have hp2 : upd H x (.ins (ga K "Workshop") dw (wsF b p fl kp)) p = some (.tup (bs.map V.ref ++ [.ref b])) := by
      rw [upd_ne (fun z => by rw [z, hx] at hp; cases hp)]
      exact hp
    refine ⟨p, _, rfl, .of hp2, fun z => absurd z (cut_not _ _), fun _ q nq => ?_⟩
    rw [cut_last]
    walk_at "rd"
    have nq' : q ≠ x := fun z => by rw [z, upd_same] at nq; cases nq
    have nqH : H q = none := by rw [upd_ne nq'] at nq; exact nq
    refine Rd.sfldE (fs' := wsF b q fl kp) (by rw [upd_ne (Ne.symm nq'), upd_same]) T.cl_Workshop T.na_Workshop_past (by simp) rfl ?_
    walk_at "rd"
    have e1 : Keep [x] H (upd (upd (upd H x (.ins (ga K "Workshop") dw (wsF b p fl kp))) q (.tup (bs.map V.ref))) x (.ins (ga K "Workshop") dw (wsF b q fl kp))) := (((Keep.refl _ _).put List.mem_cons_self).new nqH).put List.mem_cons_self
    have m := MOk.of1 hx True.intro
    exact hyes ps r hc ep _ e1 ⟨dw, b, q, kp, upd_same, hb.keep e1 m, ⟨bs, by rw [upd_ne nq', upd_same], Paired.mapP pb fun _ _ z => z.keep e1 m⟩, e1.d0 m hkp⟩
theorem sc_TInit : FnScope ["self", "workshop"] ["self", "workshop"] (defScope s_Trial_init) := ⟨rfl, rfl, rfl, by decide +kernel, rfl, by decide +kernel, by decide +kernel⟩
theorem ok_TInit (T : T72 K mg) : Def P w K mg base CX0 1 (ma K (ga K "Trial") "__init__") ["self", "workshop"] (spTInit K) := by
  refine Def.mk0 T.d_Trial_init sc_TInit (fun vs H Q E h => ?_) (fun _ _ _ _ _ _ us hl => match us, hl with | [_, _], _ => rfl) (fun cdv A outer s H vs Q E hr h => ?_)
  · obtain ⟨_, _, _, rfl, _⟩ := h
    rfl
  obtain ⟨t, x, dt, rfl, ht, hQ⟩ := h
  refine ⟨_, pss_cons (ps_fld (pv 0) (pv 1) rfl) (pss_cons (ps_fld (pv 0) pe_non rfl) (pss_cons (ps_asg2 (pe_tup pa_nil) (Rd.pg_fld (pv 0)) (Rd.pg_fld (pv 0))) (pss_one (ps_fld (pv 0) pe_int rfl)))), ?_⟩
  walk_at "rd"
  refine Rd.sfldE (fs' := [("house", .ref x)]) ht T.cl_Trial T.na_Trial_house (by simp) rfl ?_
  walk_at "rd"
  refine Rd.sfldE (fs' := [("house", .ref x), ("kept", .non)]) upd_same T.cl_Trial T.na_Trial_kept (by simp) rfl ?_
  rw [upd_upd]
  walk_at "rd"
  intro e ne
  walk_at "rd"
  have net : e ≠ t := fun z => by rw [z, upd_same] at ne; cases ne
  have neH : H e = none := by rw [upd_ne net] at ne; exact ne
  refine Rd.gfldV (a := t) (dx := dt) (fs := [("house", .ref x), ("kept", .non)]) (fs' := [("house", .ref x), ("kept", .non), ("saved_texts", .ref e)]) ?_ T.cl_Trial T.na_Trial_saved_texts (by simp) rfl rfl ?_
  · rw [upd_ne (Ne.symm net), upd_same]
  walk_at "rd"
  refine Rd.gfldV (fs' := [("house", .ref x), ("kept", .non), ("saved_texts", .ref e), ("saved_past", .ref e)]) upd_same T.cl_Trial T.na_Trial_saved_past (by simp) rfl rfl ?_
  walk_at "rd"
  refine Rd.sfldE (fs' := trF x .non (.ref e) (.ref e) 0) upd_same T.cl_Trial T.na_Trial_saved_floor (by simp) rfl ?_
  exact hQ _ e (((((Keep.refl _ _).put List.mem_cons_self).new neH).put List.mem_cons_self |>.put List.mem_cons_self).put List.mem_cons_self) upd_same
theorem sc_enter : FnScope ["self", "house"] ["self"] (defScope s_Trial_enter) := ⟨rfl, rfl, rfl, by decide +kernel, rfl, by decide +kernel, by decide +kernel⟩
theorem ok_enter (T : T72 K mg) : Def P w K mg base CX0 1 (ma K (ga K "Trial") "__enter__") ["self"] (spEnter K) := by
  refine Def.mk0 T.d_Trial_enter sc_enter (fun vs H Q E h => ?_) (fun _ _ _ _ _ _ us hl => match us, hl with | [_], _ => rfl) (fun cdv A outer s H vs Q E hr h => ?_)
  · obtain ⟨_, _, _, _, _, _, _, _, _, _, _, _, _, rfl, _⟩ := h
    rfl
  obtain ⟨t, x, dt, dw, k, p, kp, kv, tx, pt, f0, fl, ps, rfl, ht, hx, hp, hQ⟩ := h
  have nd := sc_enter.nd
  refine ⟨_, pss_cons (ps_set (i := 1) nd rfl (Or.inl rfl) (pe_fld (pv 0) rfl)) (pss_cons (ps_fld (pv 0) pe_non rfl)
    (pss_cons (ps_asg (pe_tup (pa_cons (pe_fld (pv 1) rfl) (pa_cons (pe_fld (pv 1) rfl) (pa_cons (pe_fld (pv 1) rfl) pa_nil)))) (pg_tup (by rfl) (pgs_cons (Rd.pg_fld (pv 0)) (pgs_cons (Rd.pg_fld (pv 0)) (pgs_cons (Rd.pg_fld (pv 0)) pgs_nil)))))
      (pss_cons (ps_fld (pv 1) (pe_callB call_len_seq (by rfl) T.f_len PySem.boot_len (pa_cons (pe_fld (pv 1) rfl) pa_nil)) rfl) (pss_one (ps_ret (pv 0)))))), ?_⟩
  have ntx : t ≠ x := tr_ws ht hx
  walk_at "rd"
  refine Rd.fldE' ht T.cl_Trial T.na_Trial_house rfl ?_
  walk_at "rd"
  refine Rd.sfldE (fs' := trF x .non tx pt f0) ht T.cl_Trial T.na_Trial_kept (by simp) rfl ?_
  walk_at "rd"
  have hx1 : upd H t (.ins (ga K "Trial") dt (trF x .non tx pt f0)) x = some (.ins (ga K "Workshop") dw (wsF k p fl kp)) := by rw [upd_ne (Ne.symm ntx)]; exact hx
  refine Rd.fldE' hx1 T.cl_Workshop T.na_Workshop_kept_texts rfl ?_
  walk_at "rd"
  refine Rd.fldE' hx1 T.cl_Workshop T.na_Workshop_past rfl ?_
  walk_at "rd"
  refine Rd.fldE' hx1 T.cl_Workshop T.na_Workshop_floor rfl ?_
  walk_at "rd"
  intro e ne
  have net : e ≠ t := fun z => by rw [z, upd_same] at ne; cases ne
  have neH : H e = none := by rw [upd_ne net] at ne; exact ne
  refine Rd.gtup (xs := [.ref k, .ref p, .int fl]) upd_same rfl ?_
  walk_at "rd"
  refine Rd.gfldV (a := t) (dx := dt) (fs := trF x .non tx pt f0) (fs' := trF x .non (.ref k) pt f0) ?_ T.cl_Trial T.na_Trial_saved_texts (by simp) rfl rfl ?_
  · rw [upd_ne (Ne.symm net), upd_same]
  walk_at "rd"
  refine Rd.gfldV (fs' := trF x .non (.ref k) (.ref p) f0) upd_same T.cl_Trial T.na_Trial_saved_past (by simp) rfl rfl ?_
  walk_at "rd"
  refine Rd.gfldV (fs' := trF x .non (.ref k) (.ref p) fl) upd_same T.cl_Trial T.na_Trial_saved_floor (by simp) rfl rfl ?_
  rw [upd_upd, upd_upd]
  walk_at "rd"
  have hx2 : upd (upd (upd H t (.ins (ga K "Trial") dt (trF x .non tx pt f0))) e (.tup [.ref k, .ref p, .int fl])) t (.ins (ga K "Trial") dt (trF x .non (.ref k) (.ref p) fl)) x = some (.ins (ga K "Workshop") dw (wsF k p fl kp)) := by
    rw [upd_ne (Ne.symm ntx), upd_ne (fun z => by rw [← z, hx] at neH; cases neH)]
    exact hx1
  refine Rd.fldE' hx2 T.cl_Workshop T.na_Workshop_past rfl ?_
  have hp2 : upd (upd (upd H t (.ins (ga K "Trial") dt (trF x .non tx pt f0))) e (.tup [.ref k, .ref p, .int fl])) t (.ins (ga K "Trial") dt (trF x .non (.ref k) (.ref p) fl)) p = some (.tup ps) := by
    rw [upd_ne (fun z => by rw [z, ht] at hp; cases hp), upd_ne (fun z => by rw [← z, hp] at neH; cases neH), upd_ne (fun z => by rw [z, ht] at hp; cases hp)]
    exact hp
  walk_at "rd"
  refine Rd.sfldE (fs' := wsF k p ps.length kp) hx2 T.cl_Workshop T.na_Workshop_floor (by simp) rfl ?_
  walk_at "rd"
  refine hQ _ ?_ ?_ upd_same
  · exact ((((Keep.refl _ _).put List.mem_cons_self).new neH).put List.mem_cons_self).put (by simp)
  · rw [upd_ne ntx, upd_same]
theorem sc_exit : FnScope ["self", "kind", "value", "trace"] ["self", "kind", "value", "trace"] (defScope s_Trial_exit) := ⟨rfl, rfl, rfl, by decide +kernel, rfl, by decide +kernel, by decide +kernel⟩
theorem ok_exit (T : T72 K mg) : ∃ fd, Wx.FnT P w K mg base 1 (ma K (ga K "Trial") "__exit__") fd ["self", "kind", "value", "trace"] (spExit K) ∧ Binds K fd ["self", "kind", "value", "trace"] [] := by
  obtain ⟨fd, F⟩ := T.d_Trial_exit
  refine ⟨fd, Wx.Fun.okT F sc_exit (fun vs H Q E h => ?_) (fun cdv A outer s H vs Q E hr h => ?_), F.binds (fun _ _ _ _ _ _ us hl => match us, hl with | [_, _, _, _], _ => rfl)⟩
  · obtain ⟨_, _, _, _, _, _, _, _, _, _, _, _, _, _, _, rfl, _⟩ := h
    rfl
  obtain ⟨t, x, dt, dw, k, p, kp, k0, p0, kind, val, tr, kept, f0, fl, rfl, ht, hx, hQ⟩ := h
  refine ⟨_, pss_cons (ps_if (PW.pt (pw_or (pt_cmpR op_notN (pv 1) pe_non (nomark _)) (pw_or1 (pt_cmpR op_isN (pe_fld (pv 0) rfl) pe_non (nomark _)))))
      (pss_cons (ps_fld (pe_fld (pv 0) rfl) (pe_fld (pv 0) rfl) rfl) (pss_one (ps_fld (pe_fld (pv 0) rfl) (pe_fld (pv 0) rfl) rfl))) pss_nil)
    (pss_one (ps_fld (pe_fld (pv 0) rfl) (pe_fld (pv 0) rfl) rfl)), ?_⟩
  have ntx : t ≠ x := tr_ws ht hx
  have back : (kind ≠ .non ∨ kept = false) → ((fun D σ H => (tSeq (sFld K (tFld K (tVar 0) "house") (tFld K (tVar 0) "saved_texts") "kept_texts") (sFld K (tFld K (tVar 0) "house") (tFld K (tVar 0) "saved_past") "past")) D σ H) : TS)
      { nx := fun σ H' => (sFld K (tFld K (tVar 0) "house") (tFld K (tVar 0) "saved_floor") "floor") { nx := fun _ H' => Q .non H', rt := Q } σ H', rt := Q } (L2.start ["self", "kind", "value", "trace"] [.ref t, kind, val, tr]) H := fun hc => by
    have hx1 : ∀ fs, upd H x (.ins (ga K "Workshop") dw fs) t = some (.ins (ga K "Trial") dt (trF x (if kept then .bl true else .non) (.ref k0) (.ref p0) f0)) := fun fs => by rw [upd_ne ntx]; exact ht
    walk_at "rd"
    refine Rd.fldE' ht T.cl_Trial T.na_Trial_saved_texts rfl ?_
    walk_at "rd"
    refine Rd.fldE' ht T.cl_Trial T.na_Trial_house rfl ?_
    refine Rd.sfldE (fs' := wsF k0 p fl kp) hx T.cl_Workshop T.na_Workshop_kept_texts (by simp) rfl ?_
    walk_at "rd"
    refine Rd.fldE' (hx1 _) T.cl_Trial T.na_Trial_saved_past rfl ?_
    walk_at "rd"
    refine Rd.fldE' (hx1 _) T.cl_Trial T.na_Trial_house rfl ?_
    refine Rd.sfldE (fs' := wsF k0 p0 fl kp) upd_same T.cl_Workshop T.na_Workshop_past (by simp) rfl ?_
    rw [upd_upd]
    walk_at "rd"
    refine Rd.fldE' (hx1 _) T.cl_Trial T.na_Trial_saved_floor rfl ?_
    walk_at "rd"
    refine Rd.fldE' (hx1 _) T.cl_Trial T.na_Trial_house rfl ?_
    refine Rd.sfldE (fs' := wsF k0 p0 f0 kp) upd_same T.cl_Workshop T.na_Workshop_floor (by simp) rfl ?_
    rw [upd_upd]
    exact hQ _ ((Keep.refl _ _).put List.mem_cons_self) (by rw [upd_same, if_pos hc])
  walk_at "rd"
  refine ⟨rfl, ?_⟩
  walk_at "rd"
  by_cases hk : kind = .non
  · rw [decide_eq_true hk]
    walk_at "rd"
    refine Rd.fldE' ht T.cl_Trial T.na_Trial_kept rfl ?_
    walk_at "rd"
    refine ⟨rfl, ?_⟩
    walk_at "rd"
    cases kept with
    | false =>
      walk_at "rd"
      exact back (.inr rfl)
    | true =>
      rw [show decide ((if true = true then V.bl true else V.non) = V.non) = false from rfl]
      walk_at "rd"
      refine Rd.fldE' ht T.cl_Trial T.na_Trial_saved_floor rfl ?_
      walk_at "rd"
      refine Rd.fldE' ht T.cl_Trial T.na_Trial_house rfl ?_
      refine Rd.sfldE (fs' := wsF k p f0 kp) hx T.cl_Workshop T.na_Workshop_floor (by simp) rfl ?_
      exact hQ _ ((Keep.refl _ _).put List.mem_cons_self) (by rw [upd_same, if_neg (by simp [hk])])
  · rw [decide_eq_false hk]
    exact Rd.ifNF (Rd.ifT (back (.inl hk)))
theorem sc_keep : FnScope ["self"] ["self"] (defScope s_Trial_keep) := ⟨rfl, rfl, rfl, by decide +kernel, rfl, by decide +kernel, by decide +kernel⟩
theorem ok_keep (T : T72 K mg) : Def P w K mg base CX0 1 (ma K (ga K "Trial") "keep") ["self"] (spKeep K) := by
  refine Def.mk0 T.d_Trial_keep sc_keep (fun vs H Q E h => ?_) (fun _ _ _ _ _ _ us hl => match us, hl with | [_], _ => rfl) (fun cdv A outer s H vs Q E hr h => ?_)
  · obtain ⟨_, _, _, _, _, _, _, rfl, _⟩ := h
    rfl
  obtain ⟨t, x, dt, kv, tx, pt, f0, rfl, ht, hQ⟩ := h
  refine ⟨_, pss_one (ps_fld (pv 0) pe_bl rfl), ?_⟩
  walk_at "rd"
  exact Rd.sfldE (fs' := trF x (.bl true) tx pt f0) ht T.cl_Trial T.na_Trial_kept (by simp) rfl hQ
theorem sc_trial : FnScope ["self"] ["self"] (defScope s_Workshop_trial) := ⟨rfl, rfl, rfl, by decide +kernel, rfl, by decide +kernel, by decide +kernel⟩
theorem ok_trial (T : T72 K mg) : Def P w K mg base CX0 3 (ma K (ga K "Workshop") "trial") ["self"] (spTrial K) := by
  obtain ⟨fdi, Gi, bi⟩ := (ok_TInit (P := P) (w := w) (base := base) T).ex
  refine Def.mk0 T.d_Workshop_trial sc_trial (fun vs H Q E h => ?_) (fun _ _ _ _ _ _ us hl => match us, hl with | [_], _ => rfl) (fun cdv A outer s H vs Q E hr h => ?_)
  · obtain ⟨_, rfl, _⟩ := h
    rfl
  obtain ⟨x, rfl, hQ⟩ := h
  refine ⟨_, pss_one (ps_ret (pe_make T.mk_Trial Gi hr (by rfl) T.g_Trial bi .nil pass0 (pa_cons (pv 0) pa_nil))), ?_⟩
  walk_at "rd"
  refine ⟨_, rfl, fun t dt nt nd ne => ⟨t, x, dt, rfl, upd_same, fun H' e kk h' => ⟨rfl, hQ H' t dt e (fun b o hb => ?_) nt h'⟩⟩⟩
  refine kk b o ?_ (fun z => ?_)
  · rw [upd_ne (ne_of_none hb nt), upd_ne (ne_of_none hb nd)]
    exact hb
  · have : b = t := by simpa using z
    rw [this, nt] at hb
    cases hb
end
end W72
-- D8

set_option Elab.async false
set_option linter.all false
set_option maxRecDepth 100000
set_option maxHeartbeats 400000
namespace W72
open PySem PySem.Spec PyProof.Rows L2 Ft
local macro_rules | `(tactic| walk_at "rd") => `(tactic| (repeat (first
  | with_reducible refine Rd.seq ?_ | with_reducible refine Rd.asg ?_ | with_reducible refine Rd.var rfl ?_ | with_reducible refine Rd.con ?_ | with_reducible refine Rd.op ?_ | with_reducible refine Rd.gname ?_ | with_reducible refine Rd.gsub ?_
  | with_reducible refine Rd.ri0 ?_ | with_reducible refine Rd.mulL (by decide +kernel) ?_ | with_reducible refine Rd.mulR (by decide +kernel) ?_ | with_reducible refine Rd.modK (by decide +kernel) ?_ | with_reducible refine Rd.divK (by decide +kernel) ?_
  | with_reducible refine Rd.test ?_ | with_reducible refine Rd.bk ?_ | with_reducible refine Rd.cons ?_ | with_reducible refine Rd.nil ?_ | with_reducible refine Rd.ret ?_ | with_reducible refine Rd.retN ?_ | with_reducible refine Rd.ifs ?_
  | with_reducible refine Rd.nxt ?_ | with_reducible refine Rd.ixl (by first | assumption | exact upd_same) rfl ?_ | with_reducible refine Rd.setl (by first | assumption | exact upd_same) rfl ?_
  | with_reducible refine Rd.cb ?_ | with_reducible refine Rd.andT ?_ | with_reducible refine Rd.orT ?_ | with_reducible refine Rd.notT ?_ | with_reducible refine Rd.ifexp ?_ | with_reducible refine Rd.req rfl ?_ | with_reducible refine Rd.rne rfl ?_
  | with_reducible refine Rd.tup ?_ | with_reducible refine Rd.lst ?_ | with_reducible refine Rd.dget0 ?_ | with_reducible refine Rd.dput0 ?_ | with_reducible refine Rd.fld0 ?_ | with_reducible refine Rd.sfld0 ?_ | with_reducible refine Rd.sl ?_
  | with_reducible refine Rd.nopart ?_ | with_reducible refine Rd.part0 ?_ | with_reducible refine Rd.intE ?_ | with_reducible refine Rd.un ?_ | with_reducible refine Rd.ru ?_ | with_reducible refine Rd.expr ?_
  | with_reducible refine Rd.gcons ?_ | with_reducible refine Rd.gnil ?_ | with_reducible refine Rd.call ?_ | with_reducible refine lc_inT ?_ | with_reducible refine lc_inL ?_
  | with_reducible refine Rd.lenL (by assumption) ?_ | with_reducible refine Rd.lenT (by assumption) ?_ | with_reducible refine Rd.gtup (by assumption) rfl ?_
  | with_reducible refine Rd.dgetE (by first | assumption | exact upd_same) rfl ?_ | with_reducible refine Rd.dputE (by first | assumption | exact upd_same) (by decide) ?_
  | with_reducible refine Rd.line (by first | decide | simp) ?_ | with_reducible refine Rd.yes ?_ | with_reducible refine Rd.asg2 ?_ | with_reducible refine Rd.tupF ?_ | with_reducible refine Rd.meth0 ?_ | with_reducible refine Rd.prop0 ?_ | with_reducible refine mko ?_ | with_reducible refine Rd.ifNT ?_ | with_reducible refine Rd.ifNF ?_ | with_reducible refine Rd.tbE ?_ | with_reducible refine Rd.andV ?_ | with_reducible refine Rd.chain ?_ | with_reducible refine Rd.ifT ?_ | with_reducible refine Rd.ifF ?_ | dsimp only [])))
local macro_rules | `(tactic| walk_at "hp") => `(tactic| (first | assumption | exact upd_same | grind [upd]))
/-! ### _law_box -/
def spBox (K : PySem.W.Frag) : Sp := fun vs H Q _ => ∃ (a : Addr) (k : Int) (ns : List Int), vs = [.ref a, .int k] ∧ SqL K H a (ns.map V.int) ∧ 0 ≤ k ∧ k < 1000 ∧ ns.length ≤ 1000 ∧ ∀ H' b, Ext H H' → H b = none → Box H' b → Q (.ref b) H'
section
variable {P : Program} {w : World} {K : PySem.W.Frag} {mg : Str → Option Value} {base : Heap}
abbrev N_box : List Str := ["_law_script", "_law_k", "_law_cell", "_law_seed"]
theorem sc_box : FnScope N_box ["_law_script", "_law_k"] (defScope s_law_box) := ⟨rfl, rfl, rfl, by decide +kernel, rfl, by decide +kernel, by decide +kernel⟩
theorem ok_box (T : T72 K mg) : Def P w K mg base CX0 1 (ga K "_law_box") ["_law_script", "_law_k"] (spBox K) := by
  refine Def.mk0 T.d_law_box sc_box (fun vs H Q E h => ?_) (fun _ _ _ _ _ _ us hl => match us, hl with | [_, _], _ => rfl) (fun cdv A outer s H vs Q E hr h => ?_)
  · obtain ⟨_, _, _, rfl, _⟩ := h
    rfl
  obtain ⟨a, k, ns, rfl, hS, k0, k1, hl, hQ⟩ := h
  have nd := sc_box.nd
  refine ⟨_, pss_cons (ps_set (i := 2) nd rfl (Or.inl rfl) (pe_op op_add (pe_op op_mul pe_int (pv 1)) pe_int))
    (pss_cons (ps_if (pt_cmpR op_lt (pv 1) (pe_callB call_len_seq (by rfl) T.f_len PySem.boot_len (pa_cons (pv 0) pa_nil)) (nomark _))
        (pss_one (ps_set (i := 2) nd rfl (Or.inl rfl) (pe_ix ix_list (pv 0) (pv 1) (fun _ _ => rfl))))
        (pss_one (ps_if (pt_cmpR op_gt (pe_callB call_len_seq (by rfl) T.f_len PySem.boot_len (pa_cons (pv 0) pa_nil)) pe_int (nomark _))
          (pss_one (ps_set (i := 2) nd rfl (Or.inl rfl) (pe_op op_add (pv 2) (pe_op op_mul (pe_op op_mod (pe_ix ix_list (pv 0) (pe_op op_mod (pv 1) (pe_callB call_len_seq (by rfl) T.f_len PySem.boot_len (pa_cons (pv 0) pa_nil))) (fun _ _ => rfl)) pe_int) pe_int))))
          pss_nil)))
      (pss_cons (ps_set (i := 3) nd rfl (Or.inl rfl) (pe_op op_add (pe_op op_mod (pe_op op_add (pe_op op_mul (pe_op op_mod (pv 2) pe_int) pe_int) (pe_op op_mul pe_int (pv 1))) pe_int) pe_int))
        (pss_one (ps_ret (pe_lst (pa_cons (pe_ix ix_list (pe_lst (pa_cons pe_int (pa_cons (pv 2) pa_nil))) (pe_callTy call_int1 (by rfl) T.f_int (by decide +kernel) (pa_cons (pe_cmpR op_ge (pv 2) (pe_op op_pow pe_int pe_int) (nomark _)) pa_nil)) (fun _ _ => rfl)) (pa_cons (pv 3) (pa_cons pe_int pa_nil)))))))), ?_⟩
  have fin : ∀ (c : Int), (tSeq (tAsg (tOp (rI0 fun i j => .int (i + j)) (tOp (rI (fun _ j => 0 < j) fun i j => .int (i % j)) (tOp (rI0 fun i j => .int (i + j)) (tOp (rI CMul fun i j => .int (i * j)) (tOp (rI (fun _ j => 0 < j) fun i j => .int (i % j)) (tVar 2) (tC (.int 2147483629))) (tC (.int 48271))) (tOp (rI CMul fun i j => .int (i * j)) (tC (.int 40692)) (tVar 1))) (tC (.int 2147483629))) (tC (.int 1))) (gName 3))
      (tRet (tLst (tCons (tOp (rIxL K) (tLst (tCons (tC (.int 0)) (tCons (tVar 2) tNil))) (tCB (fun xs H Q => (∃ i, xs = [.int i] ∧ Q (.int i) H) ∨ ∃ k, xs = [.bl k] ∧ Q (.int (if k then 1 else 0)) H) (tCons (tOp (rI0 fun i j => .bl (decide (j ≤ i))) (tVar 2) (tOp (rI CPow fun i j => .int (i ^ j.toNat)) (tC (.int 10)) (tC (.int 18)))) tNil))) (tCons (tVar 3) (tCons (tC (.int 0)) tNil))))))
      { nx := fun _ H' => Q .non H', rt := Q } [some (.ref a), some (.int k), some (.int c), none] H := fun c => by
    walk_at "rd"
    intro p np
    walk_at "rd"
    refine Rd.ri ⟨by decide, by decide, by decide⟩ ?_
    walk_at "rd"
    refine .inr ⟨_, rfl, ?_⟩
    have e1 : Ext H (upd H p (.lst [.int 0, .int c])) := .new np
    cases decide ((10 : Int) ^ (18 : Int).toNat ≤ c) with
    | false =>
      refine Rd.ixl upd_same rfl ?_
      walk_at "rd"
      intro q nq
      exact hQ _ _ (e1.newL nq) (by rw [upd_ne (fun z => by rw [z, upd_same] at nq; cases nq)] at nq; exact nq) ⟨_, _, _, upd_same⟩
    | true =>
      refine Rd.ixl upd_same rfl ?_
      walk_at "rd"
      intro q nq
      exact hQ _ _ (e1.newL nq) (by rw [upd_ne (fun z => by rw [z, upd_same] at nq; cases nq)] at nq; exact nq) ⟨_, _, _, upd_same⟩
  have len_ : (ns.map V.int).length = ns.length := List.length_map _
  walk_at "rd"
  refine Rd.lenS (.inl hS) ?_
  walk_at "rd"
  refine ite2 (fun hc => ?_) (fun hc => ?_)
  · have hc : k < (ns.length : Int) := by rw [len_] at hc; exact of_decide_eq_true hc
    obtain ⟨j, rfl⟩ : ∃ j : Nat, k = (j : Int) := ⟨k.toNat, (Int.toNat_of_nonneg k0).symm⟩
    have hj : j < ns.length := by omega
    walk_at "rd"
    refine ⟨a, _, _, .int (ns[j]), rfl, rfl, hS, atI_nat (by simp [hj]), ?_⟩
    exact fin _
  · walk_at "rd"
    refine Rd.lenS (.inl hS) ?_
    walk_at "rd"
    refine ite2 (fun hc2 => ?_) (fun hc2 => ?_)
    · have hc2 : 0 < ns.length := by
        rw [len_] at hc2
        have := of_decide_eq_true hc2
        omega
      walk_at "rd"
      refine Rd.lenS (.inl hS) ?_
      rw [len_]
      walk_at "rd"
      refine Rd.ri (by omega) ?_
      have m0 : 0 ≤ k % (ns.length : Int) := Int.emod_nonneg _ (by omega)
      have m1 : k % (ns.length : Int) < (ns.length : Int) := Int.emod_lt_of_pos _ (by omega)
      obtain ⟨j, ej⟩ : ∃ j : Nat, k % (ns.length : Int) = (j : Int) := ⟨(k % (ns.length : Int)).toNat, (Int.toNat_of_nonneg m0).symm⟩
      have hj : j < ns.length := by omega
      rw [ej]
      refine ⟨a, _, _, .int (ns[j]), rfl, rfl, hS, atI_nat (by simp [hj]), ?_⟩
      refine Rd.con ?_
      refine Rd.modK (by decide +kernel) ?_
      refine Rd.con ?_
      refine Rd.mulR (by decide +kernel) ?_
      refine Rd.ri0 ?_
      exact fin _
    · exact fin _
end
end W72
-- D9

set_option Elab.async false
set_option linter.all false
set_option maxRecDepth 100000
set_option maxHeartbeats 400000
namespace W72
open PySem PySem.Spec PyProof.Rows L2 Ft
local macro_rules | `(tactic| walk_at "rd") => `(tactic| (repeat (first
  | with_reducible refine Rd.seq ?_ | with_reducible refine Rd.asg ?_ | with_reducible refine Rd.var rfl ?_ | with_reducible refine Rd.con ?_ | with_reducible refine Rd.op ?_ | with_reducible refine Rd.gname ?_ | with_reducible refine Rd.gsub ?_
  | with_reducible refine Rd.ri0 ?_ | with_reducible refine Rd.mulL (by decide +kernel) ?_ | with_reducible refine Rd.mulR (by decide +kernel) ?_ | with_reducible refine Rd.modK (by decide +kernel) ?_ | with_reducible refine Rd.divK (by decide +kernel) ?_
  | with_reducible refine Rd.test ?_ | with_reducible refine Rd.bk ?_ | with_reducible refine Rd.cons ?_ | with_reducible refine Rd.nil ?_ | with_reducible refine Rd.ret ?_ | with_reducible refine Rd.retN ?_ | with_reducible refine Rd.ifs ?_
  | with_reducible refine Rd.nxt ?_ | with_reducible refine Rd.ixl (by first | assumption | exact upd_same) rfl ?_ | with_reducible refine Rd.setl (by first | assumption | exact upd_same) rfl ?_
  | with_reducible refine Rd.cb ?_ | with_reducible refine Rd.andT ?_ | with_reducible refine Rd.orT ?_ | with_reducible refine Rd.notT ?_ | with_reducible refine Rd.ifexp ?_ | with_reducible refine Rd.req rfl ?_ | with_reducible refine Rd.rne rfl ?_
  | with_reducible refine Rd.tup ?_ | with_reducible refine Rd.lst ?_ | with_reducible refine Rd.dget0 ?_ | with_reducible refine Rd.dput0 ?_ | with_reducible refine Rd.fld0 ?_ | with_reducible refine Rd.sfld0 ?_ | with_reducible refine Rd.sl ?_
  | with_reducible refine Rd.nopart ?_ | with_reducible refine Rd.part0 ?_ | with_reducible refine Rd.intE ?_ | with_reducible refine Rd.un ?_ | with_reducible refine Rd.ru ?_ | with_reducible refine Rd.expr ?_
  | with_reducible refine Rd.gcons ?_ | with_reducible refine Rd.gnil ?_ | with_reducible refine Rd.call ?_ | with_reducible refine lc_inT ?_ | with_reducible refine lc_inL ?_
  | with_reducible refine Rd.lenL (by assumption) ?_ | with_reducible refine Rd.lenT (by assumption) ?_ | with_reducible refine Rd.gtup (by assumption) rfl ?_
  | with_reducible refine Rd.dgetE (by first | assumption | exact upd_same) rfl ?_ | with_reducible refine Rd.dputE (by first | assumption | exact upd_same) (by decide) ?_
  | with_reducible refine Rd.line (by first | decide | simp) ?_ | with_reducible refine Rd.yes ?_ | with_reducible refine Rd.asg2 ?_ | with_reducible refine Rd.tupF ?_ | with_reducible refine Rd.meth0 ?_ | with_reducible refine Rd.prop0 ?_ | with_reducible refine mko ?_ | with_reducible refine Rd.ifNT ?_ | with_reducible refine Rd.ifNF ?_ | with_reducible refine Rd.tbE ?_ | with_reducible refine Rd.andV ?_ | with_reducible refine Rd.chain ?_ | with_reducible refine Rd.ifT ?_ | with_reducible refine Rd.ifF ?_ | dsimp only [])))
local macro_rules | `(tactic| walk_at "hp") => `(tactic| (first | assumption | exact upd_same | grind [upd]))
theorem setdE {K : PySem.W.Frag} {H : Hp} {v : V} {a : Addr} {k : Str} {kvs kvs' : List (Key × V)} {QH : Hp → Prop} (h : H a = some (.dK kvs)) (hl : kvs.length ≤ 1000) (e : putK kvs (Sum.inr k) v = kvs') (q : QH (upd H a (.dK kvs'))) : rSetD (.ref a) (.str k) v H QH := ⟨a, _, rfl, .k (k := Sum.inr k) h (small1000 hl), by rw [e]; exact q⟩
theorem dputE' {H : Hp} {v : V} {a : Addr} {k : Str} {kvs kvs' : List (Key × V)} {R : Hp → Prop} (h : H a = some (.dK kvs)) (hl : kvs.length ≤ 1000) (e : putK kvs (Sum.inr k) v = kvs') (q : R (upd H a (.dK kvs'))) : ∃ a' H4, V.ref a = .ref a' ∧ DPut H a' (.str k) v H4 ∧ R H4 := ⟨a, _, rfl, .k (k := Sum.inr k) h (small1000 hl), by rw [e]; exact q⟩
theorem ws_st {K : PySem.W.Frag} {H : Hp} {x s : Addr} {rows rows' : List Row} {past past' : List (List Row)} {fl fl' : Int} {told : V} {opens : List Addr} (h : WS K H x rows past fl) (h' : ST H s rows' past' fl' told opens) : x ≠ s := fun z => by
  obtain ⟨dw, k, p, kp, h1, _⟩ := h
  obtain ⟨r, p', o, h2, _⟩ := h'
  rw [z, h2] at h1
  cases h1
theorem ST.mu {H : Hp} {s : Addr} {rows : List Row} {past : List (List Row)} {fl : Int} {told : V} {opens : List Addr} (h : ST H s rows past fl told opens) : ∃ o, H s = some o ∧ MuO o := let ⟨_, _, _, e, _⟩ := h; ⟨_, e, fun z => nomatch z⟩
theorem WS.mu {K : PySem.W.Frag} {H : Hp} {x : Addr} {rows : List Row} {past : List (List Row)} {fl : Int} (h : WS K H x rows past fl) : ∃ o, H x = some o ∧ MuO o := let ⟨_, _, _, _, e, _⟩ := h; ⟨_, e, True.intro⟩
theorem mok2 {H : Hp} {a b : Addr} (ha : ∃ o, H a = some o ∧ MuO o) (hb : ∃ o, H b = some o ∧ MuO o) : MOk [a, b] H := fun c hc => by
  rcases List.mem_cons.mp hc with e | hc
  · rw [e]; exact ha
  · rw [List.mem_singleton.mp hc]; exact hb
theorem mok1 {H : Hp} {a : Addr} (ha : ∃ o, H a = some o ∧ MuO o) : MOk [a] H := fun c hc => by rw [List.mem_singleton.mp hc]; exact ha
/-! ### _law_undo -/
def undoR (fl : Int) (rows : List Row) (past : List (List Row)) : List Row × List (List Row) := if fl < (past.length : Int) then (past.getLast?.getD rows, past.dropLast) else (rows, past)
theorem undoR_snoc {fl : Int} {rows r : List Row} {ps : List (List Row)} (h : fl < ((ps ++ [r]).length : Int)) : undoR fl rows (ps ++ [r]) = (r, ps) := by
  unfold undoR
  rw [if_pos h]
  simp
theorem undoR_no {fl : Int} {rows : List Row} {past : List (List Row)} (h : ¬ fl < (past.length : Int)) : undoR fl rows past = (rows, past) := by
  unfold undoR
  rw [if_neg h]
def spLUndo (K : PySem.W.Frag) : Sp := fun vs H Q _ => ∃ (x s : Addr) (rows : List Row) (past : List (List Row)) (fl : Int) (told : V) (opens : List Addr), vs = [.ref x, .ref s] ∧ WS K H x rows past fl ∧ ST H s rows past fl told opens ∧ 0 ≤ fl ∧
  ∀ H', Keep [x, s] H H' → WS K H' x (undoR fl rows past).1 (undoR fl rows past).2 fl → ST H' s (undoR fl rows past).1 (undoR fl rows past).2 fl told opens → Q (.bl true) H'
section
variable {P : Program} {w : World} {K : PySem.W.Frag} {mg : Str → Option Value} {base : Heap}
abbrev N_lundo : List Str := ["_law_workshop", "_law_state", "_law_is_there"]
theorem sc_lundo : FnScope N_lundo ["_law_workshop", "_law_state"] (defScope s_law_undo) := ⟨rfl, rfl, rfl, by decide +kernel, rfl, by decide +kernel, by decide +kernel⟩
theorem ok_lundo (T : T72 K mg) : Def P w K mg base CX0 2 (ga K "_law_undo") ["_law_workshop", "_law_state"] (spLUndo K) := by
  obtain ⟨fdu, Gu, bu⟩ := (ok_undo (P := P) (w := w) (base := base) T).ex
  refine Def.mk0 T.d_law_undo sc_lundo (fun vs H Q E h => ?_) (fun _ _ _ _ _ _ us hl => match us, hl with | [_, _], _ => rfl) (fun cdv A outer st H vs Q E hr h => ?_)
  · obtain ⟨_, _, _, _, _, _, _, rfl, _⟩ := h
    rfl
  obtain ⟨x, s, rows, past, fl, told, opens, rfl, ws, hst, hfl, hQ⟩ := h
  have hu := hu_of hr
  have nd := sc_lundo.nd
  refine ⟨_, pss_cons (ps_set (i := 2) nd rfl (Or.inl rfl) (pe_cmpR op_gt (pe_callB call_len_seq (by rfl) T.f_len PySem.boot_len (pa_cons (pe_dget hu (pv 1) pe_str (fun _ _ => rfl)) pa_nil)) (pe_dget hu (pv 1) pe_str (fun _ _ => rfl)) (nomark _)))
    (pss_cons (ps_if (pt_val (pv 2))
        (pss_one (ps_asg (pe_tup (pa_cons (pe_ix ix_list (pe_dget hu (pv 1) pe_str (fun _ _ => rfl)) (pe_un un_neg pe_int) (fun _ _ => rfl)) (pa_cons (pe_slice sl_list (pe_dget hu (pv 1) pe_str (fun _ _ => rfl)) po_none (po_some (pe_un un_neg pe_int))) pa_nil)))
          (pg_tup (by rfl) (pgs_cons (pg_sub (pv 1) pe_str (set_dict hu)) (pgs_cons (pg_sub (pv 1) pe_str (set_dict hu)) pgs_nil))))) pss_nil)
      (pss_one (ps_ret (pe_cmpR op_eq (pe_meth0 (pv 0) T.cl_Workshop T.me_Workshop_undo Gu hr bu .nil pass0) (pv 2) (nomark _))))), ?_⟩
  have nxs := ws_st ws hst
  obtain ⟨dw, k, p, kp, hx, hk, hp, hkp⟩ := id ws
  obtain ⟨rr, pp, o, hs, hrows, ⟨as, hpp, pas⟩, ho⟩ := id hst
  have len_ : (as.map V.ref).length = past.length := by rw [List.length_map, Paired.length pas]
  walk_at "rd"
  rw [len_]
  refine ite2 (fun hc => ?_) (fun hc => ?_)
  · have hc : fl < (past.length : Int) := of_decide_eq_true hc
    have hne : past ≠ [] := fun z => by rw [z] at hc; simp at hc; omega
    obtain ⟨ps, r, ep⟩ : ∃ ps r, past = ps ++ [r] := ⟨past.dropLast, past.getLast hne, (List.dropLast_concat_getLast hne).symm⟩
    subst ep
    obtain ⟨bs, b, eb, pb, hb⟩ := Paired.unsnoc pas
    subst eb
    rw [List.map_append, List.map_cons, List.map_nil] at hpp
    rw [undoR_snoc hc] at hQ
    walk_at "rd"
    refine Rd.ixl hpp (atI_last _ _) ?_
    walk_at "rd"
    refine ⟨pp, _, rfl, .of hpp, fun q nq => ?_⟩
    rw [cut_last]
    walk_at "rd"
    intro t nt
    have e1 : Ext H (upd H q (.lst (bs.map V.ref))) := .new nq
    have e2 : Ext H (upd (upd H q (.lst (bs.map V.ref))) t (.tup [.ref b, .ref q])) := e1.newL nt
    refine Rd.gtup (xs := [.ref b, .ref q]) upd_same rfl ?_
    walk_at "rd"
    refine setdE (K := K) (kvs' := stF b pp fl told o) (e2 _ _ hs) (by simp) rfl ?_
    walk_at "rd"
    refine setdE (K := K) (kvs' := stF b q fl told o) upd_same (by simp) rfl ?_
    rw [upd_upd]
    have kk : Keep [s] H (upd (upd (upd H q (.lst (bs.map V.ref))) t (.tup [.ref b, .ref q])) s (.dK (stF b q fl told o))) := (Keep.of e2).put List.mem_cons_self
    have m1 := mok1 hst.mu
    have ws2 := ws.keep kk m1 (by rw [upd_ne nxs]; exact (e2 _ _ hx).trans hx.symm)
    have hqs : q ≠ s := fun z => by rw [z, hs] at nq; cases nq
    have hst2 : ST (upd (upd (upd H q (.lst (bs.map V.ref))) t (.tup [.ref b, .ref q])) s (.dK (stF b q fl told o))) s r ps fl told opens :=
      ⟨b, q, o, upd_same, hb.keep kk m1, ⟨bs, by rw [upd_ne hqs]; exact (Ext.new nt) _ _ upd_same, Paired.mapP pb fun _ _ z => z.keep kk m1⟩, kk.refs m1 ho⟩
    walk_at "rd"
    obtain ⟨dw2, k2, p2, kp2, hx2, _⟩ := id ws2
    refine Rd.insE hx2 rfl ?_
    walk_at "rd"
    refine ⟨x, rows, ps ++ [r], fl, rfl, ws2, hfl, fun z => by omega, fun ps' r' _ e3 H' k3 w3 => ?_⟩
    obtain ⟨e4, e5⟩ := List.append_inj' e3 rfl
    have e5 : r = r' := (List.cons.inj e5).1
    subst e4 e5
    walk_at "rd"
    rw [decide_eq_true hc]
    have hk3 : Keep [x, s] H H' := (kk.mono (by simp)).trans (k3.mono (by simp))
    exact hQ H' hk3 w3 (hst2.keep k3 ws2.mok (k3 _ _ (by exact hst2.mu.choose_spec.1 |> fun z => z) (by simpa using Ne.symm nxs) |>.trans hst2.mu.choose_spec.1.symm))
  · have hc' : ¬ fl < (past.length : Int) := fun z => hc (decide_eq_true z)
    rw [undoR_no hc'] at hQ
    walk_at "rd"
    refine Rd.insE hx rfl ?_
    walk_at "rd"
    refine ⟨x, rows, past, fl, rfl, ws, hfl, fun z => ?_, fun ps r h1 => absurd h1 hc'⟩
    walk_at "rd"
    rw [decide_eq_false hc']
    exact hQ H (Keep.refl _ _) ws hst
end
end W72
-- D10
set_option Elab.async false
set_option linter.all false
set_option maxRecDepth 100000
set_option maxHeartbeats 400000
namespace W72
open PySem PySem.Spec PyProof.Rows L2 Ft
local macro_rules | `(tactic| walk_at "rd") => `(tactic| (repeat (first
  | with_reducible refine Rd.seq ?_ | with_reducible refine Rd.asg ?_ | with_reducible refine Rd.var rfl ?_ | with_reducible refine Rd.con ?_ | with_reducible refine Rd.op ?_ | with_reducible refine Rd.gname ?_ | with_reducible refine Rd.gsub ?_
  | with_reducible refine Rd.ri0 ?_ | with_reducible refine Rd.mulL (by decide +kernel) ?_ | with_reducible refine Rd.mulR (by decide +kernel) ?_ | with_reducible refine Rd.modK (by decide +kernel) ?_ | with_reducible refine Rd.divK (by decide +kernel) ?_
  | with_reducible refine Rd.test ?_ | with_reducible refine Rd.bk ?_ | with_reducible refine Rd.cons ?_ | with_reducible refine Rd.nil ?_ | with_reducible refine Rd.ret ?_ | with_reducible refine Rd.retN ?_ | with_reducible refine Rd.ifs ?_
  | with_reducible refine Rd.nxt ?_ | with_reducible refine Rd.ixl (by first | assumption | exact upd_same) rfl ?_ | with_reducible refine Rd.setl (by first | assumption | exact upd_same) rfl ?_
  | with_reducible refine Rd.cb ?_ | with_reducible refine Rd.andT ?_ | with_reducible refine Rd.orT ?_ | with_reducible refine Rd.notT ?_ | with_reducible refine Rd.ifexp ?_ | with_reducible refine Rd.req rfl ?_ | with_reducible refine Rd.rne rfl ?_
  | with_reducible refine Rd.tup ?_ | with_reducible refine Rd.lst ?_ | with_reducible refine Rd.dget0 ?_ | with_reducible refine Rd.dput0 ?_ | with_reducible refine Rd.fld0 ?_ | with_reducible refine Rd.sfld0 ?_ | with_reducible refine Rd.sl ?_
  | with_reducible refine Rd.nopart ?_ | with_reducible refine Rd.part0 ?_ | with_reducible refine Rd.intE ?_ | with_reducible refine Rd.un ?_ | with_reducible refine Rd.ru ?_ | with_reducible refine Rd.expr ?_
  | with_reducible refine Rd.gcons ?_ | with_reducible refine Rd.gnil ?_ | with_reducible refine Rd.call ?_ | with_reducible refine lc_inT ?_ | with_reducible refine lc_inL ?_
  | with_reducible refine Rd.lenL (by assumption) ?_ | with_reducible refine Rd.lenT (by assumption) ?_ | with_reducible refine Rd.gtup (by assumption) rfl ?_
  | with_reducible refine Rd.dgetE (by first | assumption | exact upd_same) rfl ?_ | with_reducible refine Rd.dputE (by first | assumption | exact upd_same) (by decide) ?_
  | with_reducible refine Rd.line (by first | decide | simp) ?_ | with_reducible refine Rd.yes ?_ | with_reducible refine Rd.asg2 ?_ | with_reducible refine Rd.tupF ?_ | with_reducible refine Rd.meth0 ?_ | with_reducible refine Rd.prop0 ?_ | with_reducible refine mko ?_ | with_reducible refine Rd.ifNT ?_ | with_reducible refine Rd.ifNF ?_ | with_reducible refine Rd.tbE ?_ | with_reducible refine Rd.andV ?_ | with_reducible refine Rd.chain ?_ | with_reducible refine Rd.methS ?_ | with_reducible refine Rd.callS ?_ | with_reducible refine Rd.xf0 ?_ | with_reducible refine Rd.ifT ?_ | with_reducible refine Rd.ifF ?_ | dsimp only [])))
local macro_rules | `(tactic| walk_at "hp") => `(tactic| (first | assumption | exact upd_same | grind [upd]))
/-! ### _law_missed -/
def spMissed (K : PySem.W.Frag) : Sp := fun vs H Q _ => ∃ (x : Addr) (rows : List Row) (past : List (List Row)) (fl : Int), vs = [.ref x] ∧ WS K H x rows past fl ∧ RowsOk rows ∧ ∀ H', Ext H H' → Q (.str "zzz") H'
theorem RowsOk.no {rows : List Row} {n : Str} (h : RowsOk rows) (hn : n ∉ names4) : n ∉ rows.map (·.1) := fun z => by
  obtain ⟨r, hr, e⟩ := List.mem_map.mp z
  exact hn (e ▸ h.nm r hr)
section
variable {P : Program} {w : World} {K : PySem.W.Frag} {mg : Str → Option Value} {base : Heap}
abbrev N_missed : List Str := ["_law_workshop", "_law_found", "e"]
theorem sc_missed : FnScope N_missed ["_law_workshop"] (defScope s_law_missed) := ⟨rfl, rfl, rfl, by decide +kernel, rfl, by decide +kernel, by decide +kernel⟩
theorem ok_missed (T : T72 K mg) : Def P w K mg base CX0 4 (ga K "_law_missed") ["_law_workshop"] (spMissed K) := by
  obtain ⟨fdt, Gt, bt⟩ := (ok_text (P := P) (w := w) (base := base) T).ex
  obtain ⟨oe, xe, iC, tI⟩ := T.oex_UnknownName
  refine Def.mk0 T.d_law_missed sc_missed (fun vs H Q E h => ?_) (fun _ _ _ _ _ _ us hl => match us, hl with | [_], _ => rfl) (fun cdv A outer st H vs Q E hr h => ?_)
  · obtain ⟨_, _, _, _, rfl, _⟩ := h
    rfl
  obtain ⟨x, rows, past, fl, rfl, ws, ok, hQ⟩ := h
  have nd := sc_missed.nd
  refine ⟨_, pss_cons (ps_set (i := 1) nd rfl (Or.inl rfl) pe_non)
    (pss_cons (Tx.ps_try_manyAs (i := 2) rfl rfl nd rfl rfl takes_none5 (fun W pn xe tk _ => pss_one (ps_set (i := 1) nd rfl (Or.inl rfl) (Ms.pe_methS (pv 0) T.cl_Workshop T.me_Workshop_text Gt hr bt (fun σ => passAt tk σ) (pa_cons pe_str pa_nil))))
      (Tx.HdsAs.cons ⟨rfl, by decide, .inl T.g_UnknownName⟩ (fun a oe cls d pn hz hf => pss_one (ps_set (i := 1) nd rfl (Or.inl rfl) (pe_xf xe T.no_UnknownName_name hz hf (pv 2)))) .nil))
    (pss_one (ps_ret (pv 1)))), ?_⟩
  obtain ⟨dw, k, p, kp, hx, hk, hp, hkp⟩ := id ws
  walk_at "rd"
  refine ⟨x, dw, _, rfl, hx, rfl, ?_⟩
  walk_at "rd"
  refine ⟨x, _, rows, past, fl, rfl, ws, ok, fun _ d H' e hd => ?_, fun t hm => absurd (List.mem_map_of_mem (f := (·.1)) hm) (ok.no (n := "zzz") (by decide))⟩
  refine Rd.hit T.exm_UnknownName_UnknownName fun a na => ?_
  walk_at "rd"
  refine Rd.xfE hd rfl ?_
  walk_at "rd"
  exact hQ _ e
end
/-! ### what stands between two deeds -/
structure Sit (K : PySem.W.Frag) (H : Hp) (b x s : Addr) (rows : List Row) (past : List (List Row)) (fl : Int) (told : V) (opens : List Addr) : Prop where
  box : Box H b
  ws : WS K H x rows past fl
  st : ST H s rows past fl told opens
  ok : RowsOk rows
  pok : ∀ r ∈ past, RowsOk r
  fl0 : 0 ≤ fl
theorem box_mu {H : Hp} {b : Addr} (h : Box H b) : ∃ o, H b = some o ∧ MuO o := by
  obtain ⟨c, s, n, e⟩ := h
  exact ⟨_, e, .int c, List.mem_cons_self, fun a z => by cases z⟩
theorem box_ws {K : PySem.W.Frag} {H : Hp} {b x : Addr} {rows : List Row} {past : List (List Row)} {fl : Int} (h : Box H b) (w : WS K H x rows past fl) : b ≠ x := fun z => by
  obtain ⟨_, _, _, e⟩ := h
  obtain ⟨_, _, _, _, e2, _⟩ := w
  rw [z, e2] at e
  cases e
theorem box_st {H : Hp} {b s : Addr} {rows : List Row} {past : List (List Row)} {fl : Int} {told : V} {opens : List Addr} (h : Box H b) (w : ST H s rows past fl told opens) : b ≠ s := fun z => by
  obtain ⟨_, _, _, e⟩ := h
  obtain ⟨_, _, _, e2, _⟩ := w
  rw [z, e2] at e
  cases e
section
variable {K : PySem.W.Frag} {H H' : Hp} {b x s : Addr} {rows : List Row} {past : List (List Row)} {fl : Int} {told : V} {opens : List Addr} {M : List Addr}
theorem Sit.mok (h : Sit K H b x s rows past fl told opens) : MOk [b, x, s] H := fun c hc => by
  rcases List.mem_cons.mp hc with e | hc
  · rw [e]; exact box_mu h.box
  rcases List.mem_cons.mp hc with e | hc
  · rw [e]; exact h.ws.mu
  · rw [List.mem_singleton.mp hc]; exact h.st.mu
/-- a heap where the three stay -/
theorem Sit.keepN (h : Sit K H b x s rows past fl told opens) (k : KeepN M H H') (m : MOk M H) (eb : H' b = H b) (ex : H' x = H x) (es : H' s = H s) : Sit K H' b x s rows past fl told opens where
  box := let ⟨c, z, n, e⟩ := h.box; ⟨c, z, n, eb.trans e⟩
  ws := h.ws.keepN k m ex
  st := h.st.keepN k m es
  ok := h.ok
  pok := h.pok
  fl0 := h.fl0
theorem Ext.at_ {a : Addr} {o : HO} (e : Ext H H') (h : ∃ o, H a = some o ∧ MuO o) : H' a = H a := by
  obtain ⟨o, h, _⟩ := h
  rw [h, e _ _ h]
theorem Sit.ext (h : Sit K H b x s rows past fl told opens) (e : Ext H H') : Sit K H' b x s rows past fl told opens :=
  h.keepN (M := []) (.of e) .nil (e.at_ (o := .tup []) (box_mu h.box)) (e.at_ (o := .tup []) h.ws.mu) (e.at_ (o := .tup []) h.st.mu)
theorem Sit.take {c z n : Int} (h : Sit K H b x s rows past fl told opens) : Sit K (upd H b (.lst [.int c, .int z, .int n])) b x s rows past fl told opens where
  box := ⟨c, z, n, upd_same⟩
  ws := h.ws.keep (M := [b]) ((Keep.refl _ _).put List.mem_cons_self) (mok1 (box_mu h.box)) (upd_ne (box_ws h.box h.ws).symm)
  st := h.st.keep (M := [b]) ((Keep.refl _ _).put List.mem_cons_self) (mok1 (box_mu h.box)) (upd_ne (box_st h.box h.st).symm)
  ok := h.ok
  pok := h.pok
  fl0 := h.fl0
end
theorem pickL {K : PySem.W.Frag} {H : Hp} {Q : VK} {p : Addr} {l : List Str} {xs : List V} {d : Int} (h : H p = some (.lst xs)) (e : xs = l.map V.str) (h0 : 0 ≤ d) (h1 : d < (l.length : Int)) (q : ∀ n ∈ l, Q (.str n) H) : rIxL K (.ref p) (.int d) H Q := by
  obtain ⟨j, rfl⟩ := Int.eq_ofNat_of_zero_le h0
  have hj : j < l.length := by omega
  subst e
  refine Rd.ixl h (atI_nat (v := .str l[j]) ?_) (q _ (List.getElem_mem hj))
  rw [List.getElem?_map, List.getElem?_eq_getElem hj]
  rfl
theorem RowsOk.put {n : Str} {t : Str} {rows : List Row} (h : RowsOk rows) (hn : n ∈ names4) (ht : t ∈ texts7) : RowsOk (putR n t rows) := by
  unfold putR
  split
  · next hin =>
    have e : (rows.map fun r => (r.1, if r.1 = n then t else r.2)).map (·.1) = rows.map (·.1) := by rw [List.map_map]; rfl
    refine ⟨by rw [e]; exact h.nd, fun r hr => ?_, fun r hr => ?_⟩
    · obtain ⟨r', hr', rfl⟩ := List.mem_map.mp hr
      exact h.nm r' hr'
    · obtain ⟨r', hr', rfl⟩ := List.mem_map.mp hr
      show (if r'.1 = n then t else r'.2) ∈ texts7
      split
      · exact ht
      · exact h.tx r' hr'
  · next hin =>
    refine ⟨?_, fun r hr => ?_, fun r hr => ?_⟩
    · rw [List.map_append]
      refine List.nodup_append.mpr ⟨h.nd, by simp, fun a ha b hb z => ?_⟩
      rw [List.map_cons, List.map_nil, List.mem_singleton] at hb
      have hb : b = n := hb
      exact hin (by rw [← hb, ← z]; exact ha)
    · rcases List.mem_append.mp hr with hr | hr
      · exact h.nm r hr
      · rw [List.mem_singleton.mp hr]; exact hn
    · rcases List.mem_append.mp hr with hr | hr
      · exact h.tx r hr
      · rw [List.mem_singleton.mp hr]; exact ht
theorem RowsOk.filter {rows : List Row} (h : RowsOk rows) (p : Row → Bool) : RowsOk (rows.filter p) :=
  ⟨h.nd.sublist (List.filter_sublist.map _), fun r hr => h.nm r (List.mem_filter.mp hr).1, fun r hr => h.tx r (List.mem_filter.mp hr).1⟩
/-- what a deed tells -/
def DeedQ (K : PySem.W.Frag) (H : Hp) (b x s : Addr) (past : List (List Row)) (fl : Int) (told : V) (opens : List Addr) (Q : VK) : Prop :=
  ∀ H' rows' past', Keep [b, x, s] H H' → Sit K H' b x s rows' past' fl told opens → past'.length ≤ past.length + 1 → Q (.bl true) H'
def spDeed (K : PySem.W.Frag) : Sp := fun vs H Q _ => ∃ (b x s : Addr) (rows : List Row) (past : List (List Row)) (fl : Int) (told : V) (opens : List Addr), vs = [.ref b, .ref x, .ref s] ∧ Sit K H b x s rows past fl told opens ∧ past.length < 100000 ∧ DeedQ K H b x s past fl told opens Q

end W72
-- D11
set_option Elab.async false
set_option linter.all false
set_option maxRecDepth 100000
set_option maxHeartbeats 400000
namespace W72
open PySem PySem.Spec PyProof.Rows L2 Ft
local macro_rules | `(tactic| walk_at "rd") => `(tactic| (repeat (first
  | with_reducible refine Rd.seq ?_ | with_reducible refine Rd.asg ?_ | with_reducible refine Rd.var rfl ?_ | with_reducible refine Rd.con ?_ | with_reducible refine Rd.op ?_ | with_reducible refine Rd.gname ?_ | with_reducible refine Rd.gsub ?_
  | with_reducible refine Rd.ri0 ?_ | with_reducible refine Rd.mulL (by decide +kernel) ?_ | with_reducible refine Rd.mulR (by decide +kernel) ?_ | with_reducible refine Rd.modK (by decide +kernel) ?_ | with_reducible refine Rd.divK (by decide +kernel) ?_
  | with_reducible refine Rd.test ?_ | with_reducible refine Rd.bk ?_ | with_reducible refine Rd.cons ?_ | with_reducible refine Rd.nil ?_ | with_reducible refine Rd.ret ?_ | with_reducible refine Rd.retN ?_ | with_reducible refine Rd.ifs ?_
  | with_reducible refine Rd.nxt ?_ | with_reducible refine Rd.ixl (by first | assumption | exact upd_same) rfl ?_ | with_reducible refine Rd.setl (by first | assumption | exact upd_same) rfl ?_
  | with_reducible refine Rd.cb ?_ | with_reducible refine Rd.andT ?_ | with_reducible refine Rd.orT ?_ | with_reducible refine Rd.notT ?_ | with_reducible refine Rd.ifexp ?_ | with_reducible refine Rd.req rfl ?_ | with_reducible refine Rd.rne rfl ?_
  | with_reducible refine Rd.tup ?_ | with_reducible refine Rd.lst ?_ | with_reducible refine Rd.dget0 ?_ | with_reducible refine Rd.dput0 ?_ | with_reducible refine Rd.fld0 ?_ | with_reducible refine Rd.sfld0 ?_ | with_reducible refine Rd.sl ?_
  | with_reducible refine Rd.nopart ?_ | with_reducible refine Rd.part0 ?_ | with_reducible refine Rd.intE ?_ | with_reducible refine Rd.un ?_ | with_reducible refine Rd.ru ?_ | with_reducible refine Rd.expr ?_
  | with_reducible refine Rd.gcons ?_ | with_reducible refine Rd.gnil ?_ | with_reducible refine Rd.call ?_ | with_reducible refine lc_inT ?_ | with_reducible refine lc_inL ?_
  | with_reducible refine Rd.lenL (by assumption) ?_ | with_reducible refine Rd.lenT (by assumption) ?_ | with_reducible refine Rd.gtup (by assumption) rfl ?_
  | with_reducible refine Rd.dgetE (by first | assumption | exact upd_same) rfl ?_ | with_reducible refine Rd.dputE (by first | assumption | exact upd_same) (by decide) ?_
  | with_reducible refine Rd.line (by first | decide | simp) ?_ | with_reducible refine Rd.yes ?_ | with_reducible refine Rd.asg2 ?_ | with_reducible refine Rd.tupF ?_ | with_reducible refine Rd.meth0 ?_ | with_reducible refine Rd.prop0 ?_ | with_reducible refine mko ?_ | with_reducible refine Rd.ifNT ?_ | with_reducible refine Rd.ifNF ?_ | with_reducible refine Rd.tbE ?_ | with_reducible refine Rd.andV ?_ | with_reducible refine Rd.chain ?_ | with_reducible refine Rd.methS ?_ | with_reducible refine Rd.callS ?_ | with_reducible refine Rd.xf0 ?_ | with_reducible refine Rd.ifT ?_ | with_reducible refine Rd.ifF ?_ | dsimp only [])))
local macro_rules | `(tactic| walk_at "hp") => `(tactic| (first | assumption | exact upd_same | grind [upd]))
/-! ### _law_drop -/
def namesD : List Str := ["a", "b", "abcdef", "q", "zz"]
theorem okD : ∀ n ∈ namesD, [V.str "unknown", V.str n].all Qx.okV = true := by decide +kernel
theorem strsOf : ∀ {rows : List Row} {ys : List V}, Paired (fun r y => y = V.str r.1) rows ys → ys = rows.map fun r => V.str r.1
  | _, _, .nil => rfl
  | _, _, .cons h t => by rw [List.map_cons, h, strsOf t]
section
variable {P : Program} {w : World} {K : PySem.W.Frag} {mg : Str → Option Value} {base : Heap}
abbrev N_ldrop : List Str := ["_law_box_here", "_law_workshop", "_law_state", "e", "_law_name", "_law_caught_here", "_law_pair", "_law_own", "_law_elder"]
theorem sc_ldrop : FnScope N_ldrop ["_law_box_here", "_law_workshop", "_law_state"] (defScope s_law_drop) := ⟨rfl, rfl, rfl, by decide +kernel, rfl, by decide +kernel, by decide +kernel⟩
theorem ok_ldrop (T : T72 K mg) : Def P w K mg base CX0 4 (ga K "_law_drop") ["_law_box_here", "_law_workshop", "_law_state"] (spDeed K) := by
  obtain ⟨fdt, Gt, bt⟩ := (ok_take (P := P) (w := w) (base := base) T).ex
  have kpt := (ok_take (P := P) (w := w) (base := base) T).kp
  obtain ⟨fdd, Gd, bd⟩ := (ok_drop (P := P) (w := w) (base := base) T).ex
  obtain ⟨oe, xe, iC, tI⟩ := T.oex_UnknownName
  refine Def.mk0 T.d_law_drop sc_ldrop (fun vs H Q E h => ?_) (fun _ _ _ _ _ _ us hl => match us, hl with | [_, _, _], _ => rfl) (fun cdv A outer st H vs Q E hr h => ?_)
  · obtain ⟨_, _, _, _, _, _, _, _, rfl, _⟩ := h
    rfl
  obtain ⟨b, x, s, rows, past, fl, told, opens, rfl, S, hl, hQ⟩ := h
  have nd := sc_ldrop.nd
  have hu := hu_of hr
  refine ⟨_, (pss_cons (ps_asg (pe_tup (pa_cons (pe_ix ix_list (pe_lst (pa_cons pe_str (pa_cons pe_str (pa_cons pe_str (pa_cons pe_str (pa_cons pe_str pa_nil)))))) (pe_call Gt (hr.mono (by decide)) (by rfl) T.g_law_take kpt bt .nil pass0 (pa_cons (pv 0) (pa_cons pe_int pa_nil))) (fun _ _ => rfl)) (pa_cons pe_non pa_nil))) (pg_tup (by rfl) (pgs_cons (pg_name (i := 4) nd rfl (by first | exact Or.inl rfl | exact Or.inr rfl)) (pgs_cons (pg_name (i := 5) nd rfl (by first | exact Or.inl rfl | exact Or.inr rfl)) pgs_nil))))
 (pss_cons (Tx.ps_try_manyAs (i := 3) rfl rfl nd rfl rfl takes_none5 (fun W pn xe tk _ => pss_one (ps_set (i := 5) nd rfl (Or.inl rfl) (Ms.pe_methS (pv 1) T.cl_Workshop T.me_Workshop_drop Gd hr bd (fun σ => passAt tk σ) (pa_cons (pv 4) pa_nil))))
      (Tx.HdsAs.cons ⟨rfl, by decide, .inl T.g_UnknownName⟩ (fun a oe cls d pn hz hf => pss_one (ps_set (i := 5) nd rfl (Or.inl rfl) (pe_tup (pa_cons pe_str (pa_cons (pe_xf xe T.no_UnknownName_name hz hf (pv 3)) pa_nil))))) .nil))
 (pss_cons (ps_if (pt_cmpR op_notIn_seq (pv 4) (pe_lc (own := [("_law_own", 7), ("_law_elder", 8)]) (g := gTup K 2 (gCons (gName 7) (gCons (gName 8) gNil))) (tt := tYes) rfl nd (pi_list (pe_dget hu (pv 2) pe_str (fun _ _ => rfl)))
          (blkOk_by (N := N_ldrop) (sc := defScope s_law_drop) (by decide +kernel)) (fun _ _ _ _ _ => pg_tup (by rfl) (pgs_cons (pg_name (i := 7) nd rfl (Or.inl rfl)) (pgs_cons (pg_name (i := 8) nd rfl (Or.inl rfl)) pgs_nil))) (fun _ _ _ _ _ => pts_nil)
          (fun _ _ _ _ _ => pv 7)) (by rfl))
 (pss_one (ps_ret (pe_cmpR (op_eqD hr.units) (pv 5) (pe_tup (pa_cons pe_str (pa_cons (pv 4) pa_nil))) (nomark _))))
 pss_nil)
 (pss_cons (ps_dput hu (pv 2) pe_str (pe_op op_cat (pe_dget hu (pv 2) pe_str (fun _ _ => rfl)) (pe_lst (pa_cons (pe_dget hu (pv 2) pe_str (fun _ _ => rfl)) pa_nil))) rfl)
 (pss_cons (ps_dput hu (pv 2) pe_str (pe_lc (own := [("_law_pair", 6)]) (g := gName 6) rfl nd (pi_list (pe_dget hu (pv 2) pe_str (fun _ _ => rfl)))
          (blkOk_by (N := N_ldrop) (sc := defScope s_law_drop) (by decide +kernel)) (fun _ _ _ _ _ => pg_name (i := 6) nd rfl (Or.inl rfl)) (fun _ _ _ _ _ => pts_one (pt_cmpR op_ne (pe_ix (ix_tup : IxR _ (rIxT K)) (pv 6) pe_int (fun _ _ => rfl)) (pv 4) (nomark _)))
          (fun _ _ _ _ _ => pv 6)) rfl)
 (pss_one (ps_ret (pe_cmpR op_isN (pv 5) pe_non (nomark _))))))))), ?_⟩
  walk_at "rd"
  intro p np
  walk_at "rd"
  have e1 : Ext H (upd H p (.lst [.str "a", .str "b", .str "abcdef", .str "q", .str "zz"])) := .new np
  have S1 := S.ext e1
  refine ⟨b, 5, rfl, by decide, by decide, S1.box, fun d c z n h0 h1 => ?_⟩
  have np' : p ≠ b := fun q => by
    obtain ⟨_, _, _, e⟩ := S.box
    rw [q, e] at np
    cases np
  refine pickL (l := namesD) ((upd_ne np').trans upd_same) rfl h0 (by exact h1) fun nm hnm => ?_
  have S2 := S1.take (c := c) (z := z) (n := n)
  have k2 : Keep [b] H (upd (upd H p (.lst [.str "a", .str "b", .str "abcdef", .str "q", .str "zz"])) b (.lst [.int c, .int z, .int n])) := (Keep.of e1).put List.mem_cons_self
  generalize (upd (upd H p (.lst [.str "a", .str "b", .str "abcdef", .str "q", .str "zz"])) b (.lst [.int c, .int z, .int n])) = H2 at S2 k2 ⊢
  clear S1 e1
  walk_at "rd"
  intro t nt
  have e3 : Ext H2 (upd H2 t (.tup [.str nm, .non])) := .new nt
  refine Rd.gtup upd_same rfl ?_
  walk_at "rd"
  have S3 := S2.ext e3
  have k3 := k2.trans (.of e3)
  generalize (upd H2 t (.tup [.str nm, .non])) = H3 at S3 k3 ⊢
  clear S2 k2 e3 nt
  obtain ⟨dw, kt, pt, kp, hx, _⟩ := id S3.ws
  refine ⟨x, dw, _, rfl, hx, rfl, ?_⟩
  walk_at "rd"
  refine ⟨x, nm, rows, past, fl, rfl, S3.ws, S3.ok, Nat.le_of_lt hl, fun hno d H4 e4 hd => ?_, fun hin H4 k4 ws4 => ?_⟩
  · refine Rd.hit T.exm_UnknownName_UnknownName fun a na => ?_
    walk_at "rd"
    refine Rd.xfE hd rfl ?_
    walk_at "rd"
    intro p2 np2
    have S5 := S3.ext (e4.newL (o := .tup [.str "unknown", .str nm]) np2)
    have k5 := k3.trans (.of (e4.newL (o := .tup [.str "unknown", .str nm]) np2))
    have h5 : (upd H4 p2 (.tup [.str "unknown", .str nm])) p2 = some (.tup [.str "unknown", .str nm]) := upd_same
    generalize (upd H4 p2 (.tup [.str "unknown", .str nm])) = H5 at S5 k5 h5 ⊢
    walk_at "rd"
    obtain ⟨rr, pp, o, hs, ⟨as, hrr, pas⟩, ⟨bs, hpp, pbs⟩, ho⟩ := id S5.st
    refine Rd.dgetE hs rfl ?_
    refine lc_rowsL (fun _ => true) (fun H r y => y = .str r.1) hrr (fun _ h => h) pas (by have := S5.ok.len; omega) (fun r b H6 K1 K0 hr' e hb h1 h0 => ?_) (fun D H6 ys n0 e hD hy => ?_)
    · refine Rd.gtup hb rfl ?_
      walk_at "rd"
      refine ⟨rfl, ?_⟩
      walk_at "rd"
      exact h1 _ _ (Ext.refl _) rfl rfl
    · rw [List.filter_eq_self.mpr (fun _ _ => rfl)] at hy
      cases strsOf hy
      refine Rd.notIn (.inl (.of hD)) rfl (strs_flat rows) ?_
      rw [inV_strs]
      walk_at "rd"
      rw [decide_eq_false hno]
      walk_at "rd"
      intro q nq
      have e7 := e.newL (o := .tup [.str "unknown", .str nm]) nq
      refine Qx.eqT (.of (e7 _ _ h5)) (.of upd_same) (okD nm hnm) ?_
      exact hQ _ rows past (k5.trans (.of e7) |>.mono (by simp)) (S5.ext e7) (Nat.le_succ _)
  · have m3 := mok1 S3.ws.mu
    have nxb := box_ws S3.box S3.ws
    have nxs := ws_st S3.ws S3.st
    have bx4 : Box H4 b := let ⟨c, z, n, e⟩ := S3.box; ⟨c, z, n, k4 _ _ e (by simpa using nxb)⟩
    have st4 : ST H4 s rows past fl told opens := S3.st.keep k4 m3 (by
      obtain ⟨o, h, _⟩ := S3.st.mu
      rw [h, k4 _ _ h (by simpa using Ne.symm nxs)])
    walk_at "rd"
    obtain ⟨rr, pp, o, hs, ⟨as, hrr, pas⟩, ⟨bs, hpp, pbs⟩, ho⟩ := id st4
    refine Rd.dgetE hs rfl ?_
    refine lc_rowsL (fun _ => true) (fun H r y => y = .str r.1) hrr (fun _ h => h) pas (by have := S3.ok.len; omega) (fun r b H6 K1 K0 hr' e hb h1 h0 => ?_) (fun D H6 ys n0 e hD hy => ?_)
    · refine Rd.gtup hb rfl ?_
      walk_at "rd"
      refine ⟨rfl, ?_⟩
      walk_at "rd"
      exact h1 _ _ (Ext.refl _) rfl rfl
    · rw [List.filter_eq_self.mpr (fun _ _ => rfl)] at hy
      cases strsOf hy
      refine Rd.notIn (.inl (.of hD)) rfl (strs_flat rows) ?_
      rw [inV_strs]
      walk_at "rd"
      rw [decide_eq_true hin]
      walk_at "rd"
      have hs6 := e _ _ hs
      refine Rd.dgetE hs6 rfl ?_
      walk_at "rd"
      intro q nq
      have hpp6 : H6 pp = some (.lst (bs.map V.ref)) := e _ _ hpp
      have lb : bs.length = past.length := Paired.length pbs
      refine ⟨pp, q, _, _, rfl, rfl, (Ext.new nq) _ _ hpp6, upd_same, ?_, fun p8 n8 => ?_⟩
      · rw [List.length_map, lb]
        show past.length + 1 ≤ sizeLine
        rw [sizeLine_eq]
        omega
      have e8 : Ext H4 (upd (upd H6 q (.lst [.ref rr])) p8 (.lst (bs.map V.ref ++ [.ref rr]))) := (e.newL nq).newL n8
      have h8 : (upd (upd H6 q (.lst [.ref rr])) p8 (.lst (bs.map V.ref ++ [.ref rr]))) p8 = some (.lst ((bs ++ [rr]).map V.ref)) := by rw [List.map_append]; exact upd_same
      generalize (upd (upd H6 q (.lst [.ref rr])) p8 (.lst (bs.map V.ref ++ [.ref rr]))) = H8 at e8 h8 ⊢
      walk_at "rd"
      have hs8 := e8 _ _ hs
      have m4 : MOk [s] H4 := mok1 st4.mu
      refine dputE' (kvs' := stF rr p8 fl told o) hs8 (by simp) rfl ?_
      have k9 : Keep [s] H4 (upd H8 s (.dK (stF rr p8 fl told o))) := (Keep.of e8).put List.mem_cons_self
      have n8s : p8 ≠ s := fun z => by rw [z, hs8] at h8; cases h8
      have h9 : (upd H8 s (.dK (stF rr p8 fl told o))) p8 = some (.lst ((bs ++ [rr]).map V.ref)) := (upd_ne n8s).trans h8
      have hs9 : (upd H8 s (.dK (stF rr p8 fl told o))) s = some (.dK (stF rr p8 fl told o)) := upd_same
      generalize (upd H8 s (.dK (stF rr p8 fl told o))) = H9 at k9 h9 hs9 ⊢
      have hrr9 := k9.refs m4 hrr
      walk_at "rd"
      refine lc_rowsL (fun r => decide (r.1 ≠ nm)) (fun H r y => ∃ b, y = V.ref b ∧ PairT H b r) hrr9 (fun hT ⟨b, e, h⟩ => ⟨b, e, hT _ _ h⟩) (Paired.mapP pas fun _ _ z => k9.tup m4 z) (by have := S3.ok.len; omega) (fun r b H6 K1 K0 hr' e hb h1 h0 => ?_) (fun D2 H10 ys2 n02 e2 hD2 hy2 => ?_)
      · walk_at "rd"
        refine ⟨rfl, ?_⟩
        walk_at "rd"
        refine Rd.ixt hb rfl ?_
        walk_at "rd"
        have dd : (!decide (V.str r.1 = V.str nm)) = decide (r.1 ≠ nm) := by
          by_cases h : r.1 = nm
          · simp [h]
          · have h2 : ¬ V.str r.1 = V.str nm := fun z => h (V.str.inj z)
            simp [h, h2]
        rw [dd]
        refine ite2 (fun hc => ?_) (fun hc => ?_)
        · walk_at "rd"
          exact h1 _ _ (.refl _) hc ⟨_, rfl, hb⟩
        · exact h0 _ (Ext.refl _) (by simpa using hc)
      · obtain ⟨cs, e3, pb⟩ := pairs_of (f := id) hy2
        subst e3
        rw [List.map_id] at pb
        walk_at "rd"
        refine dputE' (kvs' := stF D2 p8 fl told o) (e2 _ _ hs9) (by simp) rfl ?_
        have k11 : Keep [s] H4 (upd H10 s (.dK (stF D2 p8 fl told o))) := (k9.trans (.of e2)).put List.mem_cons_self
        have nDs : D2 ≠ s := fun z => by rw [z, e2 _ _ hs9] at hD2; cases hD2
        have hD11 : (upd H10 s (.dK (stF D2 p8 fl told o))) D2 = some (.lst (cs.map V.ref)) := (upd_ne nDs).trans hD2
        have h11 : (upd H10 s (.dK (stF D2 p8 fl told o))) p8 = some (.lst ((bs ++ [rr]).map V.ref)) := (upd_ne n8s).trans (e2 _ _ h9)
        have hs11 : (upd H10 s (.dK (stF D2 p8 fl told o))) s = some (.dK (stF D2 p8 fl told o)) := upd_same
        have pb11 : Paired (PairT (upd H10 s (.dK (stF D2 p8 fl told o)))) cs (rows.filter fun r => decide (r.1 ≠ nm)) := Paired.mapP pb fun a r z => by
          rw [show PairT _ a r ↔ _ from Iff.rfl]
          have nas : a ≠ s := fun y => by
            have z' : H10 a = some (.tup [.str r.1, .str r.2]) := z
            rw [y, e2 _ _ hs9] at z'; cases z'
          exact (upd_ne nas).trans z
        generalize (upd H10 s (.dK (stF D2 p8 fl told o))) = H11 at k11 hD11 h11 hs11 pb11 ⊢
        walk_at "rd"
        refine ⟨rfl, ?_⟩
        have kk : Keep [b, x, s] H H11 := ((k3.mono (by simp)).trans (k4.mono (by simp))).trans (k11.mono (by simp))
        refine hQ H11 (rows.filter fun r => decide (r.1 ≠ nm)) (past ++ [rows]) kk ⟨?_, ?_, ?_, S3.ok.filter _, ?_, S3.fl0⟩ (by rw [List.length_append]; exact Nat.le_refl _)
        · obtain ⟨c, z, n, e⟩ := bx4
          exact ⟨c, z, n, k11 _ _ e (by simpa using box_st ⟨c, z, n, e⟩ st4)⟩
        · exact ws4.keep k11 m4 (by
            obtain ⟨o, h, _⟩ := ws4.mu
            rw [h, k11 _ _ h (by simpa using nxs)])
        · exact ⟨D2, p8, o, hs11, ⟨cs, hD11, pb11⟩, ⟨bs ++ [rr], h11, Paired.snoc (Paired.mapP pbs fun _ _ z => z.keep k11 m4) (RowsL.keep ⟨as, hrr, pas⟩ k11 m4)⟩, k11.refs m4 ho⟩
        · intro r hr
          rcases List.mem_append.mp hr with hr | hr
          · exact S3.pok r hr
          · rw [List.mem_singleton.mp hr]; exact S3.ok
end

end W72
-- D12
set_option Elab.async false
set_option linter.all false
set_option maxRecDepth 100000
set_option maxHeartbeats 400000
namespace W72
open PySem PySem.Spec PyProof.Rows L2 Ft
local macro_rules | `(tactic| walk_at "rd") => `(tactic| (repeat (first
  | with_reducible refine Rd.seq ?_ | with_reducible refine Rd.asg ?_ | with_reducible refine Rd.var rfl ?_ | with_reducible refine Rd.con ?_ | with_reducible refine Rd.op ?_ | with_reducible refine Rd.gname ?_ | with_reducible refine Rd.gsub ?_
  | with_reducible refine Rd.ri0 ?_ | with_reducible refine Rd.mulL (by decide +kernel) ?_ | with_reducible refine Rd.mulR (by decide +kernel) ?_ | with_reducible refine Rd.modK (by decide +kernel) ?_ | with_reducible refine Rd.divK (by decide +kernel) ?_
  | with_reducible refine Rd.test ?_ | with_reducible refine Rd.bk ?_ | with_reducible refine Rd.cons ?_ | with_reducible refine Rd.nil ?_ | with_reducible refine Rd.ret ?_ | with_reducible refine Rd.retN ?_ | with_reducible refine Rd.ifs ?_
  | with_reducible refine Rd.nxt ?_ | with_reducible refine Rd.ixl (by first | assumption | exact upd_same) rfl ?_ | with_reducible refine Rd.setl (by first | assumption | exact upd_same) rfl ?_
  | with_reducible refine Rd.cb ?_ | with_reducible refine Rd.andT ?_ | with_reducible refine Rd.orT ?_ | with_reducible refine Rd.notT ?_ | with_reducible refine Rd.ifexp ?_ | with_reducible refine Rd.req rfl ?_ | with_reducible refine Rd.rne rfl ?_
  | with_reducible refine Rd.tup ?_ | with_reducible refine Rd.lst ?_ | with_reducible refine Rd.dget0 ?_ | with_reducible refine Rd.dput0 ?_ | with_reducible refine Rd.fld0 ?_ | with_reducible refine Rd.sfld0 ?_ | with_reducible refine Rd.sl ?_
  | with_reducible refine Rd.nopart ?_ | with_reducible refine Rd.part0 ?_ | with_reducible refine Rd.intE ?_ | with_reducible refine Rd.un ?_ | with_reducible refine Rd.ru ?_ | with_reducible refine Rd.expr ?_
  | with_reducible refine Rd.gcons ?_ | with_reducible refine Rd.gnil ?_ | with_reducible refine Rd.call ?_ | with_reducible refine lc_inT ?_ | with_reducible refine lc_inL ?_
  | with_reducible refine Rd.lenL (by assumption) ?_ | with_reducible refine Rd.lenT (by assumption) ?_ | with_reducible refine Rd.gtup (by assumption) rfl ?_
  | with_reducible refine Rd.dgetE (by first | assumption | exact upd_same) rfl ?_ | with_reducible refine Rd.dputE (by first | assumption | exact upd_same) (by decide) ?_
  | with_reducible refine Rd.line (by first | decide | simp) ?_ | with_reducible refine Rd.yes ?_ | with_reducible refine Rd.asg2 ?_ | with_reducible refine Rd.tupF ?_ | with_reducible refine Rd.meth0 ?_ | with_reducible refine Rd.prop0 ?_ | with_reducible refine mko ?_ | with_reducible refine Rd.ifNT ?_ | with_reducible refine Rd.ifNF ?_ | with_reducible refine Rd.tbE ?_ | with_reducible refine Rd.andV ?_ | with_reducible refine Rd.chain ?_ | with_reducible refine Rd.methS ?_ | with_reducible refine Rd.bm ?_ | with_reducible refine Rd.callS ?_ | with_reducible refine Rd.xf0 ?_ | with_reducible refine Rd.ifT ?_ | with_reducible refine Rd.ifF ?_ | dsimp only [])))
local macro_rules | `(tactic| walk_at "hp") => `(tactic| (first | assumption | exact upd_same | grind [upd]))
/-! ### _law_put -/
def names8 : List Str := ["a", "b", "abcdef", "q", "kind", "A", "", "abcdefg"]
theorem n8_len : ∀ n ∈ names8, n.length ≤ 1000 := by decide +kernel
theorem n8_isw : ∀ n ∈ names8, isw n = decide (n ∈ names4) := by decide +kernel
theorem n8_in : ∀ n ∈ names8, inV (.str n) [.str "kind", .str "A", .str "", .str "abcdefg"] = !decide (n ∈ names4) := by decide +kernel
theorem okN0 : [V.str "name", V.int 0].all Qx.okV = true := by decide +kernel
section
variable {P : Program} {w : World} {K : PySem.W.Frag} {mg : Str → Option Value} {base : Heap}
abbrev N_lput : List Str := ["_law_box_here", "_law_workshop", "_law_state", "_law_text", "e", "_law_rows", "_law_name", "_law_caught_here", "_law_own", "_law_elder"]
theorem sc_lput : FnScope N_lput ["_law_box_here", "_law_workshop", "_law_state"] (defScope s_law_put) := ⟨rfl, rfl, rfl, by decide +kernel, rfl, by decide +kernel, by decide +kernel⟩
set_option maxHeartbeats 4000000 in
theorem ok_lput (T : T72 K mg) : Def P w K mg base CX0 4 (ga K "_law_put") ["_law_box_here", "_law_workshop", "_law_state"] (spDeed K) := by
  obtain ⟨fdt, Gt, bt⟩ := (ok_take (P := P) (w := w) (base := base) T).ex
  have kpt := (ok_take (P := P) (w := w) (base := base) T).kp
  obtain ⟨fdd, Gd, bd⟩ := (ok_put (P := P) (w := w) (base := base) T).ex
  obtain ⟨oe, xe, iC, tI⟩ := T.oex_InvalidPart
  refine Def.mk0 T.d_law_put sc_lput (fun vs H Q E h => ?_) (fun _ _ _ _ _ _ us hl => match us, hl with | [_, _, _], _ => rfl) (fun cdv A outer st H vs Q E hr h => ?_)
  · obtain ⟨_, _, _, _, _, _, _, _, rfl, _⟩ := h
    rfl
  obtain ⟨b, x, s, rows, past, fl, told, opens, rfl, S, hl, hQ⟩ := h
  have nd := sc_lput.nd
  have hu := hu_of hr
  refine ⟨_, (pss_cons (ps_asg (pe_tup (pa_cons (pe_ix ix_list (pe_lst (pa_cons pe_str (pa_cons pe_str (pa_cons pe_str (pa_cons pe_str (pa_cons pe_str (pa_cons pe_str (pa_cons pe_str (pa_cons pe_str pa_nil))))))))) (pe_call Gt (hr.mono (by decide)) (by rfl) T.g_law_take kpt bt .nil pass0 (pa_cons (pv 0) (pa_cons pe_int pa_nil))) (fun _ _ => rfl)) (pa_cons pe_non pa_nil))) (pg_tup (by rfl) (pgs_cons (pg_name (i := 6) nd rfl (by first | exact Or.inl rfl | exact Or.inr rfl)) (pgs_cons (pg_name (i := 7) nd rfl (by first | exact Or.inl rfl | exact Or.inr rfl)) pgs_nil))))
 (pss_cons (ps_set (i := 3) nd rfl (by first | exact Or.inl rfl | exact Or.inr rfl) (pe_ix ix_list (pe_lst (pa_cons pe_str (pa_cons pe_str (pa_cons pe_str (pa_cons pe_str (pa_cons pe_str (pa_cons pe_str (pa_cons pe_str pa_nil)))))))) (pe_call Gt (hr.mono (by decide)) (by rfl) T.g_law_take kpt bt .nil pass0 (pa_cons (pv 0) (pa_cons pe_int pa_nil))) (fun _ _ => rfl)))
 (pss_cons (Tx.ps_try_manyAs (i := 4) rfl rfl nd rfl rfl takes_none5 (fun W pn xe tk _ => pss_one (ps_set (i := 7) nd rfl (Or.inl rfl) (Ms.pe_methS (pv 1) T.cl_Workshop T.me_Workshop_put Gd hr bd (fun σ => passAt tk σ) (pa_cons (pv 6) (pa_cons (pv 3) pa_nil)))))
      (Tx.HdsAs.cons ⟨rfl, by decide, .inl T.g_InvalidPart⟩ (fun a oe cls d pn hz hf => pss_one (ps_set (i := 7) nd rfl (Or.inl rfl) (pe_tup (pa_cons (pe_xf xe T.no_InvalidPart_word hz hf (pv 4)) (pa_cons (pe_xf xe T.no_InvalidPart_index hz hf (pv 4)) pa_nil))))) .nil))
 (pss_cons (ps_if (pt_cmpR op_in_seq (pv 6) (pe_tup (pa_cons pe_str (pa_cons pe_str (pa_cons pe_str (pa_cons pe_str pa_nil))))) (by rfl))
 (pss_one (ps_ret (pe_cmpR (op_eqD hr.units) (pv 7) (pe_tup (pa_cons pe_str (pa_cons pe_int pa_nil))) (nomark _))))
 pss_nil)
 (pss_cons (ps_setLc (i := 5) (own := [("_law_own", 8), ("_law_elder", 9)]) (g := gTup K 2 (gCons (gName 8) (gCons (gName 9) gNil))) (tt := tYes) (by rfl) nd rfl rfl (sw_true rfl rfl rfl (by decide +kernel)) (pi_list (pe_dget hu (pv 2) pe_str (fun _ _ => rfl)))
          (blkOk_by (N := N_lput) (sc := defScope s_law_put) (by decide +kernel)) (fun _ _ _ _ _ => pg_tup (by rfl) (pgs_cons (pg_name (i := 8) nd rfl (Or.inl rfl)) (pgs_cons (pg_name (i := 9) nd rfl (Or.inl rfl)) pgs_nil))) (fun _ _ _ _ _ => pts_nil)
          (fun _ _ _ _ _ => pe_tup (pa_cons (pv 8) (pa_cons (pe_ix (ix_list : IxR _ (rIxL K)) (pe_lst (pa_cons (pv 9) (pa_cons (pv 3) pa_nil))) (pe_callTy call_int1 (by rfl) T.f_int (by decide +kernel) (pa_cons (pe_cmpR op_eq (pv 8) (pv 6) (nomark _)) pa_nil)) (fun _ _ => rfl)) pa_nil))))
 (pss_cons (ps_if (pt_cmpR op_notIn_seq (pv 6) (pe_lc (own := [("_law_own", 8), ("_law_elder", 9)]) (g := gTup K 2 (gCons (gName 8) (gCons (gName 9) gNil))) (tt := tYes) rfl nd (pi_list (pv 5))
          (blkOk_by (N := N_lput) (sc := defScope s_law_put) (by decide +kernel)) (fun _ _ _ _ _ => pg_tup (by rfl) (pgs_cons (pg_name (i := 8) nd rfl (Or.inl rfl)) (pgs_cons (pg_name (i := 9) nd rfl (Or.inl rfl)) pgs_nil))) (fun _ _ _ _ _ => pts_nil)
          (fun _ _ _ _ _ => pv 8)) (by rfl))
 (pss_one (ps_expr (pe_bm PySem.F.plainAttrs_list PySem.F.slot_list_append PySem.F.type_list_append mt_append (pv 5) (pa_cons (pe_tup (pa_cons (pv 6) (pa_cons (pv 3) pa_nil))) pa_nil))))
 pss_nil)
 (pss_cons (ps_asg (pe_tup (pa_cons (pe_op op_cat (pe_dget hu (pv 2) pe_str (fun _ _ => rfl)) (pe_lst (pa_cons (pe_dget hu (pv 2) pe_str (fun _ _ => rfl)) pa_nil))) (pa_cons (pv 5) pa_nil))) (pg_tup (by rfl) (pgs_cons (pg_sub (pv 2) pe_str (set_dict hu)) (pgs_cons (pg_sub (pv 2) pe_str (set_dict hu)) pgs_nil))))
 (pss_one (ps_ret (pe_cmpR op_isN (pv 7) pe_non (nomark _))))))))))), ?_⟩
  walk_at "rd"
  intro p np
  walk_at "rd"
  have e1 : Ext H (upd H p (.lst [.str "a", .str "b", .str "abcdef", .str "q", .str "kind", .str "A", .str "", .str "abcdefg"])) := .new np
  have S1 := S.ext e1
  refine ⟨b, 8, rfl, by decide, by decide, S1.box, fun d c z n h0 h1 => ?_⟩
  have np' : p ≠ b := fun q => by
    obtain ⟨_, _, _, e⟩ := S.box
    rw [q, e] at np
    cases np
  refine pickL (l := names8) ((upd_ne np').trans upd_same) rfl h0 (by exact h1) fun nm hnm => ?_
  have S2 := S1.take (c := c) (z := z) (n := n)
  have k2 : Keep [b] H (upd (upd H p (.lst [.str "a", .str "b", .str "abcdef", .str "q", .str "kind", .str "A", .str "", .str "abcdefg"])) b (.lst [.int c, .int z, .int n])) := (Keep.of e1).put List.mem_cons_self
  generalize (upd (upd H p (.lst [.str "a", .str "b", .str "abcdef", .str "q", .str "kind", .str "A", .str "", .str "abcdefg"])) b (.lst [.int c, .int z, .int n])) = H2 at S2 k2 ⊢
  clear S1 e1 np np' h0 h1 c z n d
  walk_at "rd"
  intro t nt
  have e3 : Ext H2 (upd H2 t (.tup [.str nm, .non])) := .new nt
  refine Rd.gtup upd_same rfl ?_
  walk_at "rd"
  have S3 := S2.ext e3
  have k3 := k2.trans (.of e3)
  generalize (upd H2 t (.tup [.str nm, .non])) = H3 at S3 k3 ⊢
  clear S2 k2 e3 nt
  intro p np
  walk_at "rd"
  have e1 : Ext H3 (upd H3 p (.lst [.str "", .str "part a", .str "kind", .str "x\ny", .str "x\n", .str " x", .str "part a\n"])) := .new np
  have S1 := S3.ext e1
  refine ⟨b, 7, rfl, by decide, by decide, S1.box, fun d c z n h0 h1 => ?_⟩
  have np' : p ≠ b := fun q => by
    obtain ⟨_, _, _, e⟩ := S3.box
    rw [q, e] at np
    cases np
  refine pickL (l := texts7) ((upd_ne np').trans upd_same) rfl h0 (by exact h1) fun tx htx => ?_
  have S2 := S1.take (c := c) (z := z) (n := n)
  have k2 : Keep [b] H (upd (upd H3 p (.lst [.str "", .str "part a", .str "kind", .str "x\ny", .str "x\n", .str " x", .str "part a\n"])) b (.lst [.int c, .int z, .int n])) := (k3.trans (.of e1)).put List.mem_cons_self
  generalize (upd (upd H3 p (.lst [.str "", .str "part a", .str "kind", .str "x\ny", .str "x\n", .str " x", .str "part a\n"])) b (.lst [.int c, .int z, .int n])) = H2 at S2 k2 ⊢
  clear S1 e1 np np' h0 h1 c z n d k3 S3
  walk_at "rd"
  obtain ⟨dw, kt, pt, kp, hx, _⟩ := id S2.ws
  refine ⟨x, dw, _, rfl, hx, rfl, ?_⟩
  walk_at "rd"
  refine ⟨x, nm, tx, rows, past, fl, rfl, S2.ws, S2.ok, Nat.le_of_lt hl, n8_len nm hnm, fun hno d H4 e4 hd => ?_, fun hin H4 k4 ws4 => ?_⟩
  · refine Rd.hit T.exm_InvalidPart_InvalidPart fun a na => ?_
    walk_at "rd"
    refine Rd.xfE hd rfl ?_
    walk_at "rd"
    refine Rd.xfE hd rfl ?_
    walk_at "rd"
    intro p2 np2
    have S5 := S2.ext (e4.newL (o := .tup [.str "name", .int 0]) np2)
    have k5 := k2.trans (.of (e4.newL (o := .tup [.str "name", .int 0]) np2))
    have h5 : (upd H4 p2 (.tup [.str "name", .int 0])) p2 = some (.tup [.str "name", .int 0]) := upd_same
    generalize (upd H4 p2 (.tup [.str "name", .int 0])) = H5 at S5 k5 h5 ⊢
    walk_at "rd"
    intro q nq
    refine Rd.inS (.inr (.of upd_same)) rfl rfl ?_
    rw [n8_in nm hnm, ← n8_isw nm hnm, hno]
    walk_at "rd"
    intro q2 nq2
    have e7 : Ext H5 (upd (upd H5 q (.tup [.str "kind", .str "A", .str "", .str "abcdefg"])) q2 (.tup [.str "name", .int 0])) := (Ext.new nq).newL nq2
    refine Qx.eqT (.of (e7 _ _ h5)) (.of upd_same) okN0 ?_
    exact hQ _ rows past (k5.trans (.of e7) |>.mono (by simp)) (S5.ext e7) (Nat.le_succ _)
  · have h4n : nm ∈ names4 := of_decide_eq_true ((n8_isw nm hnm).symm.trans hin)
    have m3 := mok1 S2.ws.mu
    have nxb := box_ws S2.box S2.ws
    have nxs := ws_st S2.ws S2.st
    have bx4 : Box H4 b := let ⟨c, z, n, e⟩ := S2.box; ⟨c, z, n, k4 _ _ e (by simpa using nxb)⟩
    have st4 : ST H4 s rows past fl told opens := S2.st.keep k4 m3 (by
      obtain ⟨o, h, _⟩ := S2.st.mu
      rw [h, k4 _ _ h (by simpa using Ne.symm nxs)])
    walk_at "rd"
    intro q nq
    refine Rd.inS (.inr (.of upd_same)) rfl rfl ?_
    rw [n8_in nm hnm, ← n8_isw nm hnm, hin]
    walk_at "rd"
    have e5 : Ext H4 (upd H4 q (.tup [.str "kind", .str "A", .str "", .str "abcdefg"])) := Ext.new nq
    generalize (upd H4 q (.tup [.str "kind", .str "A", .str "", .str "abcdefg"])) = H5 at e5 ⊢
    obtain ⟨rr, pp, o, hs, ⟨as, hrr, pas⟩, ⟨bs, hpp, pbs⟩, ho⟩ := id st4
    refine Rd.dgetE (e5 _ _ hs) rfl ?_
    refine lc_rowsL (fun _ => true) (fun H r y => ∃ b, y = V.ref b ∧ PairT H b (r.1, if r.1 = nm then tx else r.2)) (e5 _ _ hrr) (fun hT ⟨b, e, h⟩ => ⟨b, e, hT _ _ h⟩) (Paired.mapP pas fun _ _ z => e5 _ _ z) (by have := S2.ok.len; omega) (fun r b H6 K1 K0 hr' e hb h1 h0 => ?_) (fun D H6 ys n0 e hD hy => ?_)
    · refine Rd.gtup hb rfl ?_
      walk_at "rd"
      refine ⟨rfl, ?_⟩
      walk_at "rd"
      intro q nq
      walk_at "rd"
      have dd : decide (V.str r.1 = V.str nm) = decide (r.1 = nm) := decide_eq_decide.mpr ⟨fun z => V.str.inj z, fun z => by rw [z]⟩
      rw [dd]
      refine .inr ⟨_, rfl, ?_⟩
      refine Rd.ixl (v := .str (if r.1 = nm then tx else r.2)) upd_same (by
        by_cases h : r.1 = nm
        · rw [decide_eq_true h, if_pos h]; rfl
        · rw [decide_eq_false h, if_neg h]; rfl) ?_
      walk_at "rd"
      intro q2 nq2
      exact h1 _ _ ((Ext.new nq).newL nq2) rfl ⟨q2, rfl, upd_same⟩
    · rw [List.filter_eq_self.mpr (fun _ _ => rfl)] at hy
      obtain ⟨cs, e3, pb⟩ := pairs_of hy
      subst e3
      have enm : (rows.map fun r => (r.1, if r.1 = nm then tx else r.2)).map (fun r => r.1) = rows.map (fun r => r.1) := by rw [List.map_map]; rfl
      have n4D : H4 D = none := by
        cases h : H4 D with
        | none => rfl
        | some u => rw [e5 _ _ h] at n0; cases n0
      have lr : (rows.map fun r => (r.1, if r.1 = nm then tx else r.2)).length ≤ 4 := by rw [List.length_map]; exact S2.ok.len
      have lcs : cs.length ≤ 4 := by rw [Paired.length pb]; exact lr
      walk_at "rd"
      refine lc_rowsL (fun _ => true) (fun H r y => y = .str r.1) hD (fun _ h => h) pb (by omega) (fun r b H6 K1 K0 hr' e hb h1 h0 => ?_) (fun D2 H7 ys2 n02 e2 hD2 hy2 => ?_)
      · refine Rd.gtup hb rfl ?_
        walk_at "rd"
        refine ⟨rfl, ?_⟩
        walk_at "rd"
        exact h1 _ _ (Ext.refl _) rfl rfl
      · rw [List.filter_eq_self.mpr (fun _ _ => rfl)] at hy2
        cases strsOf hy2
        refine Rd.notIn (.inl (.of hD2)) rfl (strs_flat _) ?_
        rw [inV_strs, enm]
        walk_at "rd"
        have e7 : Ext H4 H7 := (e5.trans e).trans e2
        have hD7 := e2 _ _ hD
        have pb7 := Paired.mapP pb fun _ _ z => e2 _ _ z
        refine ite2 (fun hc => ?_) (fun hc => ?_)
        focus
          have hc : ¬ nm ∈ rows.map (fun r => r.1) := by simpa using hc
          walk_at "rd"
          refine ⟨.inl ⟨rfl, _, SqL.of hD7⟩, ?_⟩
          walk_at "rd"
          intro q nq
          refine ⟨D, _, _, rfl, rfl, (Ext.new nq) _ _ hD7, Nat.lt_of_le_of_lt (by rw [List.length_map]; exact lcs) (by decide : 4 < sizeLine), ?_⟩
          have nDq : q ≠ D := fun z => by rw [z, hD7] at nq; cases nq
          have e8 : Ext H4 (upd (upd H7 q (.tup [.str nm, .str tx])) D (.lst (cs.map V.ref ++ [.ref q]))) := fun b u h => by
            rw [upd_ne (ne_of_none h n4D)]
            exact (e7.newL nq) b u h
          have hD8 : (upd (upd H7 q (.tup [.str nm, .str tx])) D (.lst (cs.map V.ref ++ [.ref q]))) D = some (.lst ((cs ++ [q]).map V.ref)) := by rw [List.map_append]; exact upd_same
          have pb8 : Paired (PairT (upd (upd H7 q (.tup [.str nm, .str tx])) D (.lst (cs.map V.ref ++ [.ref q])))) (cs ++ [q]) (putR nm tx rows) := by
            unfold putR
            rw [if_neg hc]
            have er : (rows.map fun r => (r.1, if r.1 = nm then tx else r.2)) = rows := by
              refine (List.map_congr_left fun r hr => ?_).trans (List.map_id _)
              rw [if_neg (fun z => hc (by rw [← z]; exact List.mem_map_of_mem (f := fun r => r.1) hr))]
              rfl
            rw [er] at pb7
            refine Paired.snoc (Paired.mapP pb7 fun a r z => ?_) ((upd_ne nDq).trans upd_same)
            have naD : a ≠ D := fun y => by
              have z' : H7 a = some (.tup [.str r.1, .str r.2]) := z
              rw [y, hD7] at z'; cases z'
            exact (upd_ne naD).trans ((Ext.new nq) _ _ z)
          generalize (upd (upd H7 q (.tup [.str nm, .str tx])) D (.lst (cs.map V.ref ++ [.ref q]))) = H8 at e8 hD8 pb8 ⊢
          generalize cs ++ [q] = cs8 at hD8 pb8
          walk_at "rd"
        rotate_left
        focus
          have hc : nm ∈ rows.map (fun r => r.1) := by simpa using hc
          have pb8 : Paired (PairT H7) cs (putR nm tx rows) := by
            unfold putR
            rw [if_pos hc]
            exact pb7
          have e8 := e7
          have hD8 := hD7
          clear e2 e7 hD7 pb7 hD2
          generalize H7 = H8 at e8 hD8 pb8 ⊢
          generalize cs = cs8 at hD8 pb8
          walk_at "rd"
        all_goals
          have hs8 := e8 _ _ hs
          refine Rd.dgetE hs8 rfl ?_
          walk_at "rd"
          intro q nq
          have hpp8 : H8 pp = some (.lst (bs.map V.ref)) := e8 _ _ hpp
          have lb : bs.length = past.length := Paired.length pbs
          refine ⟨pp, q, _, _, rfl, rfl, (Ext.new nq) _ _ hpp8, upd_same, ?_, fun p8 n8 => ?_⟩
          focus
            rw [List.length_map, lb]
            show past.length + 1 ≤ sizeLine
            rw [sizeLine_eq]
            omega
          have e9 : Ext H8 (upd (upd H8 q (.lst [.ref rr])) p8 (.lst (bs.map V.ref ++ [.ref rr]))) := (Ext.new nq).newL n8
          have h9 : (upd (upd H8 q (.lst [.ref rr])) p8 (.lst (bs.map V.ref ++ [.ref rr]))) p8 = some (.lst ((bs ++ [rr]).map V.ref)) := by rw [List.map_append]; exact upd_same
          generalize (upd (upd H8 q (.lst [.ref rr])) p8 (.lst (bs.map V.ref ++ [.ref rr]))) = H9 at e9 h9 ⊢
          have e49 := e8.trans e9
          have hD9 := e9 _ _ hD8
          have pb9 := Paired.mapP pb8 fun _ _ z => e9 _ _ z
          walk_at "rd"
          intro t nt
          have e10 : Ext H9 (upd H9 t (.tup [.ref p8, .ref D])) := .new nt
          have ht : (upd H9 t (.tup [.ref p8, .ref D])) t = some (.tup [.ref p8, .ref D]) := upd_same
          generalize (upd H9 t (.tup [.ref p8, .ref D])) = H10 at e10 ht ⊢
          have e410 := e49.trans e10
          refine Rd.gtup ht rfl ?_
          walk_at "rd"
          refine setdE (K := K) (kvs' := stF rr p8 fl told o) (e410 _ _ hs) (by simp) rfl ?_
          walk_at "rd"
          refine setdE (K := K) (kvs' := stF D p8 fl told o) upd_same (by simp) rfl ?_
          rw [upd_upd]
          have m4 : MOk [s] H4 := mok1 st4.mu
          have k11 : Keep [s] H4 (upd H10 s (.dK (stF D p8 fl told o))) := (Keep.of e410).put List.mem_cons_self
          have nDs : D ≠ s := fun z => by rw [z, hs8] at hD8; cases hD8
          have n8s : p8 ≠ s := fun z => by rw [z, e9 _ _ hs8] at h9; cases h9
          have hD11 : (upd H10 s (.dK (stF D p8 fl told o))) D = some (.lst (cs8.map V.ref)) := (upd_ne nDs).trans (e10 _ _ hD9)
          have h11 : (upd H10 s (.dK (stF D p8 fl told o))) p8 = some (.lst ((bs ++ [rr]).map V.ref)) := (upd_ne n8s).trans (e10 _ _ h9)
          have hs11 : (upd H10 s (.dK (stF D p8 fl told o))) s = some (.dK (stF D p8 fl told o)) := upd_same
          have pb11 : Paired (PairT (upd H10 s (.dK (stF D p8 fl told o)))) cs8 (putR nm tx rows) := Paired.mapP pb9 fun a r z => by
            have nas : a ≠ s := fun y => by
              have z' : H9 a = some (.tup [.str r.1, .str r.2]) := z
              rw [y, e49 _ _ hs] at z'; cases z'
            exact (upd_ne nas).trans (e10 _ _ z)
          generalize (upd H10 s (.dK (stF D p8 fl told o))) = H11 at k11 hD11 h11 hs11 pb11 ⊢
          walk_at "rd"
          refine ⟨rfl, ?_⟩
          have kk : Keep [b, x, s] H H11 := ((k2.mono (by simp)).trans (k4.mono (by simp))).trans (k11.mono (by simp))
          have w4 := ws4 
          refine hQ H11 (putR nm tx rows) (past ++ [rows]) kk ⟨?_, ?_, ?_, S2.ok.put h4n htx, ?_, S2.fl0⟩ (by rw [List.length_append]; exact Nat.le_refl _)
          focus
            obtain ⟨c, z, n, e⟩ := bx4
            exact ⟨c, z, n, k11 _ _ e (by simpa using box_st ⟨c, z, n, e⟩ st4)⟩
          focus
            exact w4.keep k11 m4 (by
              obtain ⟨o, h, _⟩ := w4.mu
              rw [h, k11 _ _ h (by simpa using nxs)])
          focus
            exact ⟨D, p8, o, hs11, ⟨cs8, hD11, pb11⟩, ⟨bs ++ [rr], h11, Paired.snoc (Paired.mapP pbs fun _ _ z => z.keep k11 m4) (RowsL.keep ⟨as, hrr, pas⟩ k11 m4)⟩, k11.refs m4 ho⟩
          focus
            intro r hr
            rcases List.mem_append.mp hr with hr | hr
            · exact S2.pok r hr
            · rw [List.mem_singleton.mp hr]; exact S2.ok
end

end W72
-- D13
set_option Elab.async false
set_option linter.all false
set_option maxRecDepth 100000
set_option maxHeartbeats 400000
namespace W72
open PySem PySem.Spec PyProof.Rows L2 Ft
local macro_rules | `(tactic| walk_at "rd") => `(tactic| (repeat (first
  | with_reducible refine Rd.seq ?_ | with_reducible refine Rd.asg ?_ | with_reducible refine Rd.var rfl ?_ | with_reducible refine Rd.con ?_ | with_reducible refine Rd.op ?_ | with_reducible refine Rd.gname ?_ | with_reducible refine Rd.gsub ?_
  | with_reducible refine Rd.ri0 ?_ | with_reducible refine Rd.mulL (by decide +kernel) ?_ | with_reducible refine Rd.mulR (by decide +kernel) ?_ | with_reducible refine Rd.modK (by decide +kernel) ?_ | with_reducible refine Rd.divK (by decide +kernel) ?_
  | with_reducible refine Rd.test ?_ | with_reducible refine Rd.bk ?_ | with_reducible refine Rd.cons ?_ | with_reducible refine Rd.nil ?_ | with_reducible refine Rd.ret ?_ | with_reducible refine Rd.retN ?_ | with_reducible refine Rd.ifs ?_
  | with_reducible refine Rd.nxt ?_ | with_reducible refine Rd.ixl (by first | assumption | exact upd_same) rfl ?_ | with_reducible refine Rd.setl (by first | assumption | exact upd_same) rfl ?_
  | with_reducible refine Rd.cb ?_ | with_reducible refine Rd.andT ?_ | with_reducible refine Rd.orT ?_ | with_reducible refine Rd.notT ?_ | with_reducible refine Rd.ifexp ?_ | with_reducible refine Rd.req rfl ?_ | with_reducible refine Rd.rne rfl ?_
  | with_reducible refine Rd.tup ?_ | with_reducible refine Rd.lst ?_ | with_reducible refine Rd.dget0 ?_ | with_reducible refine Rd.dput0 ?_ | with_reducible refine Rd.fld0 ?_ | with_reducible refine Rd.sfld0 ?_ | with_reducible refine Rd.sl ?_
  | with_reducible refine Rd.nopart ?_ | with_reducible refine Rd.part0 ?_ | with_reducible refine Rd.intE ?_ | with_reducible refine Rd.un ?_ | with_reducible refine Rd.ru ?_ | with_reducible refine Rd.expr ?_
  | with_reducible refine Rd.gcons ?_ | with_reducible refine Rd.gnil ?_ | with_reducible refine Rd.call ?_ | with_reducible refine lc_inT ?_ | with_reducible refine lc_inL ?_
  | with_reducible refine Rd.lenL (by assumption) ?_ | with_reducible refine Rd.lenT (by assumption) ?_ | with_reducible refine Rd.gtup (by assumption) rfl ?_
  | with_reducible refine Rd.dgetE (by first | assumption | exact upd_same) rfl ?_ | with_reducible refine Rd.dputE (by first | assumption | exact upd_same) (by decide) ?_
  | with_reducible refine Rd.line (by first | decide | simp) ?_ | with_reducible refine Rd.yes ?_ | with_reducible refine Rd.asg2 ?_ | with_reducible refine Rd.tupF ?_ | with_reducible refine Rd.meth0 ?_ | with_reducible refine Rd.prop0 ?_ | with_reducible refine mko ?_ | with_reducible refine Rd.ifNT ?_ | with_reducible refine Rd.ifNF ?_ | with_reducible refine Rd.tbE ?_ | with_reducible refine Rd.andV ?_ | with_reducible refine Rd.chain ?_ | with_reducible refine Rd.methS ?_ | with_reducible refine Rd.bm ?_ | with_reducible refine Rd.callS ?_ | with_reducible refine Rd.xf0 ?_ | with_reducible refine Rd.ifT ?_ | with_reducible refine Rd.ifF ?_ | dsimp only [])))
local macro_rules | `(tactic| walk_at "hp") => `(tactic| (first | assumption | exact upd_same | grind [upd]))
/-! ### _law_build_due -/
def dueT (rows : List Row) : List V := if rows = [] ∨ (rows.head?.map (·.2)) = some ("part a" : Str) then [.str "program", .str "kinds", .int (-1), .int 0] else [.str "text", .int (if (rows.head?.map (·.2)) = some ("part a\n" : Str) then 1 else 0)]
def spDue (K : PySem.W.Frag) : Sp := fun vs H Q _ => ∃ (s : Addr) (rows : List Row) (past : List (List Row)) (fl : Int) (told : V) (opens : List Addr), vs = [.ref s] ∧ ST H s rows past fl told opens ∧ RowsOk rows ∧ ∀ H' p, Ext H H' → H' p = some (.tup (dueT rows)) → Q (.ref p) H'
abbrev rowD (r : Row) : PyData := .tuple [.str r.1, .str r.2]
theorem dp_rows {K : PySem.W.Frag} {H : Hp} : ∀ {as : List Addr} {rows : List Row}, Paired (PairT H) as rows → DpAll K H (as.map V.ref) (rows.map rowD)
  | _, _, .nil => .nil
  | _, _, .cons h t => .cons (.tup (.of h) (.cons (.str _) (.cons (.str _) .nil))) (dp_rows t)
theorem lay4 : ∀ n ∈ names4, (PyData.str n).canLay0 = true := by decide +kernel
theorem lay7 : ∀ n ∈ texts7, (PyData.str n).canLay0 = true := by decide +kernel
theorem rows_lay : ∀ {rows : List Row}, (∀ r ∈ rows, r.1 ∈ names4) → (∀ r ∈ rows, r.2 ∈ texts7) → PyData.canLayAll0 (rows.map rowD) = true ∧ PyData.depthAll (rows.map rowD) ≤ 1
  | [], _, _ => ⟨rfl, Nat.zero_le _⟩
  | r :: t, h1, h2 => by
    obtain ⟨a, b⟩ := rows_lay (rows := t) (fun r hr => h1 r (List.mem_cons_of_mem _ hr)) (fun r hr => h2 r (List.mem_cons_of_mem _ hr))
    refine ⟨?_, ?_⟩
    · simp only [List.map_cons, PyData.canLayAll0, a, Bool.and_true]
      show (PyData.tuple [.str r.1, .str r.2]).canLay0 = true
      simp only [PyData.canLay0, PyData.canLayAll0]
      have := lay4 _ (h1 r List.mem_cons_self)
      have := lay7 _ (h2 r List.mem_cons_self)
      simp_all [PyData.canLay0]
    · simp only [List.map_cons, PyData.depthAll]
      refine Nat.max_le.mpr ⟨?_, b⟩
      show (PyData.tuple [.str r.1, .str r.2]).depth ≤ 1
      simp [PyData.depth, PyData.depthAll]
theorem rows_sh {rows : List Row} (ok : RowsOk rows) : SeqAt.shaped (.list (rows.map rowD)) = true := by
  obtain ⟨a, b⟩ := rows_lay ok.nm ok.tx
  unfold SeqAt.shaped
  rw [Bool.and_eq_true]
  refine ⟨?_, decide_eq_true ?_⟩
  · simpa [PyData.canLay0] using a
  · simp only [PyData.depth]
    omega
section
variable {P : Program} {w : World} {K : PySem.W.Frag} {mg : Str → Option Value} {base : Heap}
abbrev N_due : List Str := ["_law_state"]
theorem sc_due : FnScope N_due ["_law_state"] (defScope s_law_build_due) := ⟨rfl, rfl, rfl, by decide +kernel, rfl, by decide +kernel, by decide +kernel⟩
theorem ok_due (T : T72 K mg) : Def P w K mg base CX0 1 (ga K "_law_build_due") ["_law_state"] (spDue K) := by
  refine Def.mk0 T.d_law_build_due sc_due (fun vs H Q E h => ?_) (fun _ _ _ _ _ _ us hl => match us, hl with | [_], _ => rfl) (fun cdv A outer st H vs Q E hr h => ?_)
  · obtain ⟨_, _, _, _, _, _, rfl, _⟩ := h
    rfl
  obtain ⟨s, rows, past, fl, told, opens, rfl, hst, ok, hQ⟩ := h
  have nd := sc_due.nd
  have hu := hu_of hr
  refine ⟨_, (pss_cons (ps_if (PW.pt (pw_or (pt_cmpR (op_eqD hr.units) (pe_dget hu (pv 0) pe_str (fun _ _ => rfl)) (pe_lst pa_nil) (nomark _)) (pw_or1 (pt_cmpR op_eq (pe_ix ix_tup (pe_ix ix_list (pe_dget hu (pv 0) pe_str (fun _ _ => rfl)) pe_int (fun _ _ => rfl)) pe_int (fun _ _ => rfl)) pe_str (nomark _)))))
 (pss_one (ps_ret (pe_tup (pa_cons pe_str (pa_cons pe_str (pa_cons (pe_un un_neg pe_int) (pa_cons pe_int pa_nil)))))))
 pss_nil)
 (pss_one (ps_ret (pe_tup (pa_cons pe_str (pa_cons (pe_callTy call_int1 (by rfl) T.f_int (by decide +kernel) (pa_cons (pe_cmpR op_eq (pe_ix ix_tup (pe_ix ix_list (pe_dget hu (pv 0) pe_str (fun _ _ => rfl)) pe_int (fun _ _ => rfl)) pe_int (fun _ _ => rfl)) pe_str (nomark _)) pa_nil)) pa_nil)))))), ?_⟩
  obtain ⟨rr, pp, o, hs, ⟨as, hrr, pas⟩, ⟨bs, hpp, pbs⟩, ho⟩ := id hst
  walk_at "rd"
  intro q nq
  have e1 : Ext H (upd H q (.lst [])) := .new nq
  refine ⟨_, _, .lst (.of (e1 _ _ hrr)) (dp_rows (Paired.mapP pas fun _ _ z => e1 _ _ z)), .lst (.of upd_same) .nil, rows_sh ok, by decide, ?_⟩
  generalize (upd H q (.lst [])) = H1 at e1 ⊢
  have hs1 := e1 _ _ hs
  have hrr1 := e1 _ _ hrr
  walk_at "rd"
  cases rows with
  | nil =>
    rw [if_pos (by rfl)]
    walk_at "rd"
    intro p np
    refine hQ _ _ (e1.newL np) ?_
    rw [show dueT [] = [.str "program", .str "kinds", .int (-1), .int 0] from if_pos (.inl rfl)]
    exact upd_same
  | cons r t =>
    obtain ⟨a, as', rfl, hr1, pas'⟩ : ∃ a as', as = a :: as' ∧ PairT H a r ∧ Paired (PairT H) as' t := by
      cases pas with
      | cons h1 h2 => exact ⟨_, _, rfl, h1, h2⟩
    have ha1 : H1 a = some (.tup [.str r.1, .str r.2]) := e1 _ _ hr1
    rw [if_neg (by rw [show (PyData.list (List.map rowD (r :: t))).eqv (.list []) = false from rfl]; decide)]
    walk_at "rd"
    refine Rd.ixl hrr1 (v := .ref a) (by exact atI_nat (j := 0) rfl) ?_
    walk_at "rd"
    refine Rd.ixt ha1 (v := .str r.2) rfl ?_
    walk_at "rd"
    have dd : ∀ x : Str, decide (V.str r.2 = V.str x) = decide (r.2 = x) := fun x => decide_eq_decide.mpr ⟨fun z => V.str.inj z, fun z => by rw [z]⟩
    rw [dd]
    refine ite2 (fun hc => ?_) (fun hc => ?_)
    · have hc := of_decide_eq_true hc
      walk_at "rd"
      intro p np
      refine hQ _ _ (e1.newL np) ?_
      rw [show dueT (r :: t) = [.str "program", .str "kinds", .int (-1), .int 0] from if_pos (.inr (by show some r.2 = _; rw [hc]))]
      exact upd_same
    · have hc : ¬ r.2 = "part a" := fun z => hc (decide_eq_true z)
      walk_at "rd"
      refine Rd.ixl hrr1 (v := .ref a) (by exact atI_nat (j := 0) rfl) ?_
      walk_at "rd"
      refine Rd.ixt ha1 (v := .str r.2) rfl ?_
      walk_at "rd"
      rw [dd]
      refine .inr ⟨_, rfl, ?_⟩
      walk_at "rd"
      intro p np
      refine hQ _ _ (e1.newL np) ?_
      rw [show dueT (r :: t) = [.str "text", .int (if r.2 = "part a\n" then 1 else 0)] from by
        unfold dueT
        rw [if_neg (fun z => by
          rcases z with z | z
          · cases z
          · exact hc (Option.some.inj z))]
        show [V.str "text", V.int (if some r.2 = some ("part a\n" : Str) then 1 else 0)] = _
        by_cases h : r.2 = "part a\n"
        · rw [if_pos h, if_pos (by rw [h])]
        · rw [if_neg h, if_neg (fun z => h (Option.some.inj z))]]
      rw [upd_same]
      by_cases h : r.2 = "part a\n"
      · rw [decide_eq_true h, if_pos h]; rfl
      · rw [decide_eq_false h, if_neg h]; rfl
end

end W72
-- D14
set_option Elab.async false
set_option linter.all false
set_option maxRecDepth 100000
set_option maxHeartbeats 400000
namespace W72
open PySem PySem.Spec PyProof.Rows L2 Ft
local macro_rules | `(tactic| walk_at "rd") => `(tactic| (repeat (first
  | with_reducible refine Rd.seq ?_ | with_reducible refine Rd.asg ?_ | with_reducible refine Rd.var rfl ?_ | with_reducible refine Rd.con ?_ | with_reducible refine Rd.op ?_ | with_reducible refine Rd.gname ?_ | with_reducible refine Rd.gsub ?_
  | with_reducible refine Rd.ri0 ?_ | with_reducible refine Rd.mulL (by decide +kernel) ?_ | with_reducible refine Rd.mulR (by decide +kernel) ?_ | with_reducible refine Rd.modK (by decide +kernel) ?_ | with_reducible refine Rd.divK (by decide +kernel) ?_
  | with_reducible refine Rd.test ?_ | with_reducible refine Rd.bk ?_ | with_reducible refine Rd.cons ?_ | with_reducible refine Rd.nil ?_ | with_reducible refine Rd.ret ?_ | with_reducible refine Rd.retN ?_ | with_reducible refine Rd.ifs ?_
  | with_reducible refine Rd.nxt ?_ | with_reducible refine Rd.ixl (by first | assumption | exact upd_same) rfl ?_ | with_reducible refine Rd.setl (by first | assumption | exact upd_same) rfl ?_
  | with_reducible refine Rd.cb ?_ | with_reducible refine Rd.andT ?_ | with_reducible refine Rd.orT ?_ | with_reducible refine Rd.notT ?_ | with_reducible refine Rd.ifexp ?_ | with_reducible refine Rd.req rfl ?_ | with_reducible refine Rd.rne rfl ?_
  | with_reducible refine Rd.tup ?_ | with_reducible refine Rd.lst ?_ | with_reducible refine Rd.dget0 ?_ | with_reducible refine Rd.dput0 ?_ | with_reducible refine Rd.fld0 ?_ | with_reducible refine Rd.sfld0 ?_ | with_reducible refine Rd.sl ?_
  | with_reducible refine Rd.nopart ?_ | with_reducible refine Rd.part0 ?_ | with_reducible refine Rd.intE ?_ | with_reducible refine Rd.un ?_ | with_reducible refine Rd.ru ?_ | with_reducible refine Rd.expr ?_
  | with_reducible refine Rd.gcons ?_ | with_reducible refine Rd.gnil ?_ | with_reducible refine Rd.call ?_ | with_reducible refine lc_inT ?_ | with_reducible refine lc_inL ?_
  | with_reducible refine Rd.lenL (by assumption) ?_ | with_reducible refine Rd.lenT (by assumption) ?_ | with_reducible refine Rd.gtup (by assumption) rfl ?_
  | with_reducible refine Rd.dgetE (by first | assumption | exact upd_same) rfl ?_ | with_reducible refine Rd.dputE (by first | assumption | exact upd_same) (by decide) ?_
  | with_reducible refine Rd.line (by first | decide | simp) ?_ | with_reducible refine Rd.yes ?_ | with_reducible refine Rd.asg2 ?_ | with_reducible refine Rd.tupF ?_ | with_reducible refine Rd.meth0 ?_ | with_reducible refine Rd.prop0 ?_ | with_reducible refine mko ?_ | with_reducible refine Rd.ifNT ?_ | with_reducible refine Rd.ifNF ?_ | with_reducible refine Rd.tbE ?_ | with_reducible refine Rd.andV ?_ | with_reducible refine Rd.chain ?_ | with_reducible refine Rd.methS ?_ | with_reducible refine Rd.bm ?_ | with_reducible refine Rd.callS ?_ | with_reducible refine Rd.xf0 ?_ | with_reducible refine Rd.ifT ?_ | with_reducible refine Rd.ifF ?_ | dsimp only [])))
local macro_rules | `(tactic| walk_at "hp") => `(tactic| (first | assumption | exact upd_same | grind [upd]))
/-! ### _law_shown -/
def spShown (K : PySem.W.Frag) : Sp := fun vs H Q _ => ∃ (x s : Addr) (rows : List Row) (past past' : List (List Row)) (fl fl' : Int) (told : V) (opens : List Addr), vs = [.ref x, .ref s] ∧ WS K H x rows past fl ∧ ST H s rows past' fl' told opens ∧ RowsOk rows ∧ ∀ H', Ext H H' → Q (.bl true) H'
theorem names_ok {rows : List Row} (h : ∀ r ∈ rows, r.1 ∈ names4) : (rows.map fun r => V.str r.1).all Qx.okV = true := by
  rw [List.all_map, List.all_eq_true]
  exact fun r hr => lay4 _ (h r hr)
theorem texts_ok {rows : List Row} (h : ∀ r ∈ rows, r.2 ∈ texts7) : (rows.map fun r => V.str r.2).all Qx.okV = true := by
  rw [List.all_map, List.all_eq_true]
  exact fun r hr => lay7 _ (h r hr)
theorem txts_of : ∀ {rows : List Row} {ys : List V}, Paired (fun r y => y = V.str r.2) rows ys → ys = rows.map fun r => V.str r.2
  | _, _, .nil => rfl
  | _, _, .cons h t => by rw [List.map_cons, h, txts_of t]
theorem RowsOk.one {rows : List Row} (h : RowsOk rows) {r : Row} {t : Str} (h1 : r ∈ rows) (h2 : (r.1, t) ∈ rows) : t = r.2 := by
  have nd := h.nd
  clear h
  induction rows with
  | nil => cases h1
  | cons a l ih =>
    rw [List.map_cons, List.nodup_cons] at nd
    rcases List.mem_cons.mp h1 with e1 | h1 <;> rcases List.mem_cons.mp h2 with e2 | h2
    · rw [e1, ← e2]
    · exact absurd (by rw [← e1]; exact List.mem_map_of_mem (f := (·.1)) h2) nd.1
    · exact absurd (by rw [← e2]; exact List.mem_map_of_mem (f := (·.1)) h1) nd.1
    · exact ih h1 h2 nd.2
section
variable {P : Program} {w : World} {K : PySem.W.Frag} {mg : Str → Option Value} {base : Heap}
abbrev N_shown : List Str := ["_law_workshop", "_law_state", "_law_rows", "_law_name", "_law_text"]
theorem sc_shown : FnScope N_shown ["_law_workshop", "_law_state"] (defScope s_law_shown) := ⟨rfl, rfl, rfl, by decide +kernel, rfl, by decide +kernel, by decide +kernel⟩
set_option maxHeartbeats 4000000 in
theorem ok_shown (T : T72 K mg) : Def P w K mg base CX0 4 (ga K "_law_shown") ["_law_workshop", "_law_state"] (spShown K) := by
  obtain ⟨fdt, Gt, bt⟩ := (ok_text (P := P) (w := w) (base := base) T).ex
  obtain ⟨fdn, Gn, bn⟩ := (ok_names (P := P) (w := w) (base := base) T).ex
  obtain ⟨fdl, Gl, bl⟩ := (ok_WLen (P := P) (w := w) (base := base) T).ex
  obtain ⟨sl, slf⟩ := T.sp_len
  refine Def.mk0 T.d_law_shown sc_shown (fun vs H Q E h => ?_) (fun _ _ _ _ _ _ us hl => match us, hl with | [_, _], _ => rfl) (fun cdv A outer st H vs Q E hr h => ?_)
  · obtain ⟨_, _, _, _, _, _, _, _, _, rfl, _⟩ := h
    rfl
  obtain ⟨x, s, rows, past, past', fl, fl', told, opens, rfl, ws, hst, ok, hQ⟩ := h
  have nd := sc_shown.nd
  have hu := hu_of hr
  refine ⟨_, (pss_cons (ps_set (i := 2) nd rfl (by first | exact Or.inl rfl | exact Or.inr rfl) (pe_dget hu (pv 1) pe_str (fun _ _ => rfl)))
 (pss_cons (ps_if (PW.pt (pw_or (pt_cmpR (op_neD hr.units) (pe_prop (pv 0) T.cl_Workshop T.prop_names Gn (hr.mono (by decide)) bn .nil pass0 rfl) (pe_callTy call_tupleF (by rfl) T.f_tuple (by decide +kernel) (pa_cons (pe_lc (own := [("_law_name", 3), ("_law_text", 4)]) (g := gTup K 2 (gCons (gName 3) (gCons (gName 4) gNil))) (tt := tYes) rfl nd (pi_list (pv 2))
          (blkOk_by (N := N_shown) (sc := defScope s_law_shown) (by decide +kernel)) (fun _ _ _ _ _ => pg_tup (by rfl) (pgs_cons (pg_name (i := 3) nd rfl (Or.inl rfl)) (pgs_cons (pg_name (i := 4) nd rfl (Or.inl rfl)) pgs_nil))) (fun _ _ _ _ _ => pts_nil)
          (fun _ _ _ _ _ => pv 3)) pa_nil)) (nomark _)) (pw_or1 (pt_cmpR op_ne (pe_callB (Nx.call_lenI Gl (hr.mono (by decide)) bl pass0 sl slf) (by rfl) T.f_len PySem.boot_len (pa_cons (pv 0) pa_nil)) (pe_callB call_len_seq (by rfl) T.f_len PySem.boot_len (pa_cons (pv 2) pa_nil)) (nomark _)))))
 (pss_one (ps_ret pe_bl))
 pss_nil)
 (pss_one (ps_ret (pe_cmpR (op_eqD hr.units) (pe_lc (own := [("_law_name", 3), ("_law_text", 4)]) (g := gTup K 2 (gCons (gName 3) (gCons (gName 4) gNil))) (tt := tYes) rfl nd (pi_list (pv 2))
          (blkOk_by (N := N_shown) (sc := defScope s_law_shown) (by decide +kernel)) (fun _ _ _ _ _ => pg_tup (by rfl) (pgs_cons (pg_name (i := 3) nd rfl (Or.inl rfl)) (pgs_cons (pg_name (i := 4) nd rfl (Or.inl rfl)) pgs_nil))) (fun _ _ _ _ _ => pts_nil)
          (fun _ _ _ _ _ => Ms.pe_methS (pv 0) T.cl_Workshop T.me_Workshop_text Gt hr bt (fun σ => passAt takes_none5 σ) (pa_cons (pv 3) pa_nil)))
       (pe_lc (own := [("_law_name", 3), ("_law_text", 4)]) (g := gTup K 2 (gCons (gName 3) (gCons (gName 4) gNil))) (tt := tYes) rfl nd (pi_list (pv 2))
          (blkOk_by (N := N_shown) (sc := defScope s_law_shown) (by decide +kernel)) (fun _ _ _ _ _ => pg_tup (by rfl) (pgs_cons (pg_name (i := 3) nd rfl (Or.inl rfl)) (pgs_cons (pg_name (i := 4) nd rfl (Or.inl rfl)) pgs_nil))) (fun _ _ _ _ _ => pts_nil)
          (fun _ _ _ _ _ => pv 4)) (nomark _)))))), ?_⟩
  obtain ⟨dw, k, p, kp, hx, hk, hp, hkp⟩ := id ws
  obtain ⟨rr, pp, o, hs, ⟨as, hrr, pas⟩, ⟨bs, hpp, pbs⟩, ho⟩ := id hst
  walk_at "rd"
  refine ⟨x, dw, _, rfl, hx, x, rows, past, fl, rfl, ws, ok, fun H2 tn e2 ht => ?_⟩
  have hrr2 := e2 _ _ hrr
  have pas2 := Paired.mapP pas fun _ _ z => e2 _ _ z
  walk_at "rd"
  refine lc_rowsL (fun _ => true) (fun H r y => y = .str r.1) hrr2 (fun _ h => h) pas2 (by have := ok.len; omega) (fun r b H6 K1 K0 hr' e hb h1 h0 => ?_) (fun D H3 ys n0 e3 hD hy => ?_)
  · refine Rd.gtup hb rfl ?_
    walk_at "rd"
    refine ⟨rfl, ?_⟩
    walk_at "rd"
    exact h1 _ _ (Ext.refl _) rfl rfl
  rw [List.filter_eq_self.mpr (fun _ _ => rfl)] at hy
  cases strsOf hy
  walk_at "rd"
  refine ⟨D, _, rfl, .of hD, fun l o nl hdn => ?_⟩
  have e4 : Ext H3 (upd H3 l (.frz o (.tup (rows.map fun r => V.str r.1)))) := .new nl
  have h4 : (upd H3 l (.frz o (.tup (rows.map fun r => V.str r.1)))) l = some (.frz o (.tup (rows.map fun r => V.str r.1))) := upd_same
  generalize (upd H3 l (.frz o (.tup (rows.map fun r => V.str r.1)))) = H4 at e4 h4 ⊢
  have e24 := e3.trans e4
  have e04 := e2.trans e24
  obtain ⟨o2, ht2, hdt⟩ := ht
  refine Qx.neT (FT.sq ⟨o2, e24 _ _ ht2, hdt⟩) (FT.sq ⟨o, h4, hdn⟩) (names_ok ok.nm) ?_
  walk_at "rd"
  refine ⟨x, dw, _, rfl, e04 _ _ hx, x, rows, past, fl, rfl, ws.ext e04, _, rfl, Int.natCast_nonneg _, by have := ok.len; omega, ?_⟩
  have hrr4 := e04 _ _ hrr
  have pas4 := Paired.mapP pas fun _ _ z => e04 _ _ z
  walk_at "rd"
  have ll : (as.map V.ref).length = rows.length := by rw [List.length_map, Paired.length pas]
  rw [ll]
  rw [show (!decide (V.int (rows.length : Int) = V.int (rows.length : Int))) = false from by simp]
  walk_at "rd"
  refine lc_rowsL (fun _ => true) (fun H r y => y = .str r.2) hrr4 (fun _ h => h) pas4 (by have := ok.len; omega) (fun r b H6 K1 K0 hr' e hb h1 h0 => ?_) (fun D5 H5 ys5 n5 e5 hD5 hy5 => ?_)
  · refine Rd.gtup hb rfl ?_
    walk_at "rd"
    refine ⟨rfl, ?_⟩
    walk_at "rd"
    refine ⟨x, dw, _, rfl, (e04.trans e) _ _ hx, rfl, ?_⟩
    walk_at "rd"
    refine ⟨x, r.1, rows, past, fl, rfl, ws.ext (e04.trans e), ok, fun z => absurd (List.mem_map_of_mem (f := (·.1)) hr') z, fun t ht H' e' => ?_⟩
    exact h1 _ _ e' rfl (by rw [ok.one hr' ht])
  rw [List.filter_eq_self.mpr (fun _ _ => rfl)] at hy5
  cases txts_of hy5
  walk_at "rd"
  refine lc_rowsL (fun _ => true) (fun H r y => y = .str r.2) (e5 _ _ hrr4) (fun _ h => h) (Paired.mapP pas4 fun _ _ z => e5 _ _ z) (by have := ok.len; omega) (fun r b H6 K1 K0 hr' e hb h1 h0 => ?_) (fun D7 H7 ys7 n7 e7 hD7 hy7 => ?_)
  · refine Rd.gtup hb rfl ?_
    walk_at "rd"
    refine ⟨rfl, ?_⟩
    walk_at "rd"
    exact h1 _ _ (Ext.refl _) rfl rfl
  rw [List.filter_eq_self.mpr (fun _ _ => rfl)] at hy7
  cases txts_of hy7
  refine Qx.eqL (.of (e7 _ _ hD5)) (.of hD7) (texts_ok ok.tx) ?_
  exact hQ _ ((e04.trans e5).trans e7)
end

end W72
-- D15
set_option Elab.async false
set_option linter.all false
set_option maxRecDepth 100000
set_option maxHeartbeats 400000
namespace W72
open PySem PySem.Spec PyProof.Rows L2 Ft
local macro_rules | `(tactic| walk_at "rd") => `(tactic| (repeat (first
  | with_reducible refine Rd.seq ?_ | with_reducible refine Rd.asg ?_ | with_reducible refine Rd.var rfl ?_ | with_reducible refine Rd.con ?_ | with_reducible refine Rd.op ?_ | with_reducible refine Rd.gname ?_ | with_reducible refine Rd.gsub ?_
  | with_reducible refine Rd.ri0 ?_ | with_reducible refine Rd.mulL (by decide +kernel) ?_ | with_reducible refine Rd.mulR (by decide +kernel) ?_ | with_reducible refine Rd.modK (by decide +kernel) ?_ | with_reducible refine Rd.divK (by decide +kernel) ?_
  | with_reducible refine Rd.test ?_ | with_reducible refine Rd.bk ?_ | with_reducible refine Rd.cons ?_ | with_reducible refine Rd.nil ?_ | with_reducible refine Rd.ret ?_ | with_reducible refine Rd.retN ?_ | with_reducible refine Rd.ifs ?_
  | with_reducible refine Rd.nxt ?_ | with_reducible refine Rd.ixl (by first | assumption | exact upd_same) rfl ?_ | with_reducible refine Rd.setl (by first | assumption | exact upd_same) rfl ?_
  | with_reducible refine Rd.cb ?_ | with_reducible refine Rd.andT ?_ | with_reducible refine Rd.orT ?_ | with_reducible refine Rd.notT ?_ | with_reducible refine Rd.ifexp ?_ | with_reducible refine Rd.req rfl ?_ | with_reducible refine Rd.rne rfl ?_
  | with_reducible refine Rd.tup ?_ | with_reducible refine Rd.lst ?_ | with_reducible refine Rd.dget0 ?_ | with_reducible refine Rd.dput0 ?_ | with_reducible refine Rd.fld0 ?_ | with_reducible refine Rd.sfld0 ?_ | with_reducible refine Rd.sl ?_
  | with_reducible refine Rd.nopart ?_ | with_reducible refine Rd.part0 ?_ | with_reducible refine Rd.intE ?_ | with_reducible refine Rd.un ?_ | with_reducible refine Rd.ru ?_ | with_reducible refine Rd.expr ?_
  | with_reducible refine Rd.gcons ?_ | with_reducible refine Rd.gnil ?_ | with_reducible refine Rd.call ?_ | with_reducible refine lc_inT ?_ | with_reducible refine lc_inL ?_
  | with_reducible refine Rd.lenL (by assumption) ?_ | with_reducible refine Rd.lenT (by assumption) ?_ | with_reducible refine Rd.gtup (by assumption) rfl ?_
  | with_reducible refine Rd.dgetE (by first | assumption | exact upd_same) rfl ?_ | with_reducible refine Rd.dputE (by first | assumption | exact upd_same) (by decide) ?_
  | with_reducible refine Rd.line (by first | decide | simp) ?_ | with_reducible refine Rd.yes ?_ | with_reducible refine Rd.asg2 ?_ | with_reducible refine Rd.tupF ?_ | with_reducible refine Rd.meth0 ?_ | with_reducible refine Rd.prop0 ?_ | with_reducible refine mko ?_ | with_reducible refine Rd.ifNT ?_ | with_reducible refine Rd.ifNF ?_ | with_reducible refine Rd.tbE ?_ | with_reducible refine Rd.andV ?_ | with_reducible refine Rd.chain ?_ | with_reducible refine Rd.methS ?_ | with_reducible refine Rd.bm ?_ | with_reducible refine Rd.callS ?_ | with_reducible refine Rd.xf0 ?_ | with_reducible refine Rd.ifT ?_ | with_reducible refine Rd.ifF ?_ | dsimp only [])))
local macro_rules | `(tactic| walk_at "hp") => `(tactic| (first | assumption | exact upd_same | grind [upd]))
/-! ### _law_caught -/
/-- what _law_caught tells of an error -/
inductive Told (K : PySem.W.Frag) (H : Hp) (dd : Addr) : Value → List V → Prop
  | part (w i : V) (fs : List (Str × V)) : H dd = some (.xd fs) → fs.lookup ("word" : Str) = some w → fs.lookup ("index" : Str) = some i → Told K H dd (.ref (ga K "InvalidPart")) [.str "part", w, i]
  | program (w p z : V) (fs : List (Str × V)) : H dd = some (.xd fs) → fs.lookup ("word" : Str) = some w → fs.lookup ("procedure" : Str) = some p → fs.lookup ("place" : Str) = some z → Told K H dd (.ref (ga K "InvalidProgram")) [.str "program", w, p, z]
  | text (l : V) (fs : List (Str × V)) : H dd = some (.xd fs) → fs.lookup ("line" : Str) = some l → Told K H dd (.ref (ga K "InvalidText")) [.str "text", l]
  | unknown (n : V) (fs : List (Str × V)) : H dd = some (.xd fs) → fs.lookup ("name" : Str) = some n → Told K H dd (.ref (ga K "UnknownName")) [.str "unknown", n]
/-- an error of the four, told as a tuple -/
def caughtE (K : PySem.W.Frag) (Q : VK) : XK := fun cls d H => ∃ dd vs, d = some dd ∧ Told K H dd cls vs ∧ ∀ p, H p = none → Q (.ref p) (upd H p (.tup vs))
def spLCaught (K : PySem.W.Frag) : Lx.SpL := fun tl vs H Q _ => vs = [] ∧ ∀ (E' : XK) (Q' : VK), (∀ cls d H', caughtE K Q cls d H' → E' cls d H') → (∀ v H', Q v H' → Q' v H') → tl E' [] H Q'
abbrev N_caught : List Str := ["_law_call", "_law_found", "e"]
theorem sc_caught : FnScope N_caught ["_law_call"] (defScope s_law_caught) := ⟨rfl, rfl, rfl, by decide +kernel, rfl, by decide +kernel, by decide +kernel⟩
theorem gv_caught {X : Cx} (T : T72 X.K X.mg) (q : Str) (g : Addr) (cdv : Value) (k : Nat) : Lx.Gives X k CX0 N_caught "_law_caught" (defScope s_law_caught) g cdv (defBody s_law_caught) q (fun Z f c' tl => Lx.Act0 Z "_law_call" 0 f c' q tl) (spLCaught X.K) := by
  intro f c' s H vs Q E tl _ hA hc h
  obtain ⟨rfl, h⟩ := h
  have nd := sc_caught.nd
  obtain ⟨_, xe1, _, _⟩ := T.oex_InvalidPart
  obtain ⟨_, xe2, _, _⟩ := T.oex_InvalidProgram
  obtain ⟨_, xe3, _, _⟩ := T.oex_InvalidText
  obtain ⟨_, xe4, _, _⟩ := T.oex_UnknownName
  refine ⟨_, pss_cons (ps_set (i := 1) nd rfl (Or.inl rfl) pe_non)
    (pss_cons (Tx.ps_try_manyAs (i := 2) rfl rfl nd rfl rfl takes_none5 (fun W pn xe tk _ => pss_one (ps_set (i := 1) nd rfl (Or.inl rfl) (hA W pn xe _ _ tk)))
      (Tx.HdsAs.cons ⟨rfl, by decide, .inl T.g_InvalidPart⟩ (fun a oe cls d pn hz hf => pss_one (ps_set (i := 1) nd rfl (Or.inl rfl) (pe_tup (pa_cons pe_str (pa_cons (pe_xf xe1 T.no_InvalidPart_word hz hf (pv 2)) (pa_cons (pe_xf xe1 T.no_InvalidPart_index hz hf (pv 2)) pa_nil))))))
      (Tx.HdsAs.cons ⟨rfl, by decide, .inl T.g_InvalidProgram⟩ (fun a oe cls d pn hz hf => pss_one (ps_set (i := 1) nd rfl (Or.inl rfl) (pe_tup (pa_cons pe_str (pa_cons (pe_xf xe2 T.no_InvalidProgram_word hz hf (pv 2)) (pa_cons (pe_xf xe2 T.no_InvalidProgram_procedure hz hf (pv 2)) (pa_cons (pe_xf xe2 T.no_InvalidProgram_place hz hf (pv 2)) pa_nil)))))))
      (Tx.HdsAs.cons ⟨rfl, by decide, .inl T.g_InvalidText⟩ (fun a oe cls d pn hz hf => pss_one (ps_set (i := 1) nd rfl (Or.inl rfl) (pe_tup (pa_cons pe_str (pa_cons (pe_xf xe3 T.no_InvalidText_line hz hf (pv 2)) pa_nil)))))
      (Tx.HdsAs.cons ⟨rfl, by decide, .inl T.g_UnknownName⟩ (fun a oe cls d pn hz hf => pss_one (ps_set (i := 1) nd rfl (Or.inl rfl) (pe_tup (pa_cons pe_str (pa_cons (pe_xf xe4 T.no_UnknownName_name hz hf (pv 2)) pa_nil))))) .nil)))))
    (pss_one (ps_ret (pv 1)))), ?_⟩
  walk_at "rd"
  refine ⟨rfl, hc, h _ _ (fun cls d H' hE => ?_) (fun v H' hv => ?_)⟩
  · obtain ⟨dd, vs, rfl, ht, hq⟩ := hE
    cases ht with
    | part w i fs e1 e2 e3 =>
      refine Rd.hit T.exm_InvalidPart_InvalidPart fun a na => ?_
      walk_at "rd"
      refine Rd.xfE e1 e2 ?_
      walk_at "rd"
      refine Rd.xfE e1 e3 ?_
      walk_at "rd"
      intro p np
      walk_at "rd"
      exact hq p np
    | program w p z fs e1 e2 e3 e4 =>
      refine Rd.miss T.exm_InvalidProgram_InvalidPart (Rd.hit T.exm_InvalidProgram_InvalidProgram fun a na => ?_)
      walk_at "rd"
      refine Rd.xfE e1 e2 ?_
      walk_at "rd"
      refine Rd.xfE e1 e3 ?_
      walk_at "rd"
      refine Rd.xfE e1 e4 ?_
      walk_at "rd"
      intro p np
      walk_at "rd"
      exact hq p np
    | text l fs e1 e2 =>
      refine Rd.miss T.exm_InvalidText_InvalidPart (Rd.miss T.exm_InvalidText_InvalidProgram (Rd.hit T.exm_InvalidText_InvalidText fun a na => ?_))
      walk_at "rd"
      refine Rd.xfE e1 e2 ?_
      walk_at "rd"
      intro p np
      walk_at "rd"
      exact hq p np
    | unknown n fs e1 e2 =>
      refine Rd.miss T.exm_UnknownName_InvalidPart (Rd.miss T.exm_UnknownName_InvalidProgram (Rd.miss T.exm_UnknownName_InvalidText (Rd.hit T.exm_UnknownName_UnknownName fun a na => ?_)))
      walk_at "rd"
      refine Rd.xfE e1 e2 ?_
      walk_at "rd"
      intro p np
      walk_at "rd"
      exact hq p np
  · walk_at "rd"
    exact hv

end W72
-- D16
set_option Elab.async false
set_option linter.all false
set_option maxRecDepth 100000
set_option maxHeartbeats 400000
namespace W72
open PySem PySem.Spec PyProof.Rows L2 Ft
local macro_rules | `(tactic| walk_at "rd") => `(tactic| (repeat (first
  | with_reducible refine Rd.seq ?_ | with_reducible refine Rd.asg ?_ | with_reducible refine Rd.var rfl ?_ | with_reducible refine Rd.con ?_ | with_reducible refine Rd.op ?_ | with_reducible refine Rd.gname ?_ | with_reducible refine Rd.gsub ?_
  | with_reducible refine Rd.ri0 ?_ | with_reducible refine Rd.mulL (by decide +kernel) ?_ | with_reducible refine Rd.mulR (by decide +kernel) ?_ | with_reducible refine Rd.modK (by decide +kernel) ?_ | with_reducible refine Rd.divK (by decide +kernel) ?_
  | with_reducible refine Rd.test ?_ | with_reducible refine Rd.bk ?_ | with_reducible refine Rd.cons ?_ | with_reducible refine Rd.nil ?_ | with_reducible refine Rd.ret ?_ | with_reducible refine Rd.retN ?_ | with_reducible refine Rd.ifs ?_
  | with_reducible refine Rd.nxt ?_ | with_reducible refine Rd.ixl (by first | assumption | exact upd_same) rfl ?_ | with_reducible refine Rd.setl (by first | assumption | exact upd_same) rfl ?_
  | with_reducible refine Rd.cb ?_ | with_reducible refine Rd.andT ?_ | with_reducible refine Rd.orT ?_ | with_reducible refine Rd.notT ?_ | with_reducible refine Rd.ifexp ?_ | with_reducible refine Rd.req rfl ?_ | with_reducible refine Rd.rne rfl ?_
  | with_reducible refine Rd.tup ?_ | with_reducible refine Rd.lst ?_ | with_reducible refine Rd.dget0 ?_ | with_reducible refine Rd.dput0 ?_ | with_reducible refine Rd.fld0 ?_ | with_reducible refine Rd.sfld0 ?_ | with_reducible refine Rd.sl ?_
  | with_reducible refine Rd.nopart ?_ | with_reducible refine Rd.part0 ?_ | with_reducible refine Rd.intE ?_ | with_reducible refine Rd.un ?_ | with_reducible refine Rd.ru ?_ | with_reducible refine Rd.expr ?_
  | with_reducible refine Rd.gcons ?_ | with_reducible refine Rd.gnil ?_ | with_reducible refine Rd.call ?_ | with_reducible refine lc_inT ?_ | with_reducible refine lc_inL ?_
  | with_reducible refine Rd.lenL (by assumption) ?_ | with_reducible refine Rd.lenT (by assumption) ?_ | with_reducible refine Rd.gtup (by assumption) rfl ?_
  | with_reducible refine Rd.dgetE (by first | assumption | exact upd_same) rfl ?_ | with_reducible refine Rd.dputE (by first | assumption | exact upd_same) (by decide) ?_
  | with_reducible refine Rd.line (by first | decide | simp) ?_ | with_reducible refine Rd.yes ?_ | with_reducible refine Rd.asg2 ?_ | with_reducible refine Rd.tupF ?_ | with_reducible refine Rd.meth0 ?_ | with_reducible refine Rd.prop0 ?_ | with_reducible refine mko ?_ | with_reducible refine Rd.ifNT ?_ | with_reducible refine Rd.ifNF ?_ | with_reducible refine Rd.tbE ?_ | with_reducible refine Rd.andV ?_ | with_reducible refine Rd.chain ?_ | with_reducible refine Rd.methS ?_ | with_reducible refine Rd.bm ?_ | with_reducible refine Rd.callS ?_ | with_reducible refine Rd.xf0 ?_ | with_reducible refine Rd.ifT ?_ | with_reducible refine Rd.ifF ?_ | dsimp only [])))
local macro_rules | `(tactic| walk_at "hp") => `(tactic| (first | assumption | exact upd_same | grind [upd]))
/-! ### within -/
def closeE (K : PySem.W.Frag) (t x : Addr) (E : XK) : XK := fun cls d H3 => ∃ (c dt dw k p kp k0 p0 : Addr) (kept : Bool) (f0 fl : Int), cls = .ref c ∧ H3 t = some (.ins (ga K "Trial") dt (trF x (if kept then .bl true else .non) (.ref k0) (.ref p0) f0)) ∧
  H3 x = some (.ins (ga K "Workshop") dw (wsF k p fl kp)) ∧ ∀ H4, Keep [x] H3 H4 → H4 x = some (.ins (ga K "Workshop") dw (wsF k0 p0 f0 kp)) → E cls d H4
def closeQ (K : PySem.W.Frag) (t x : Addr) (Q : VK) : VK := fun v H3 => ∃ (dt dw k p kp k0 p0 : Addr) (kept : Bool) (f0 fl : Int), H3 t = some (.ins (ga K "Trial") dt (trF x (if kept then .bl true else .non) (.ref k0) (.ref p0) f0)) ∧
  H3 x = some (.ins (ga K "Workshop") dw (wsF k p fl kp)) ∧ ∀ H4, Keep [x] H3 H4 → H4 x = some (.ins (ga K "Workshop") dw (if kept = false then wsF k0 p0 f0 kp else wsF k p f0 kp)) → Q v H4
def spLWithin (K : PySem.W.Frag) : Lx.SpL := fun tl vs H Q E => ∃ (t x dt dw k p kp : Addr) (kv tx pt : V) (f0 fl : Int) (ps : List V), vs = [.ref t] ∧ H t = some (.ins (ga K "Trial") dt (trF x kv tx pt f0)) ∧ H x = some (.ins (ga K "Workshop") dw (wsF k p fl kp)) ∧ H p = some (.tup ps) ∧
  ∀ H2, Keep [t, x] H H2 → H2 t = some (.ins (ga K "Trial") dt (trF x .non (.ref k) (.ref p) fl)) → H2 x = some (.ins (ga K "Workshop") dw (wsF k p ps.length kp)) →
    ∀ (E' : XK) (Q' : VK), (∀ cls d H3, closeE K t x E cls d H3 → E' cls d H3) → (∀ v H3, closeQ K t x Q v H3 → Q' v H3) → tl E' [.ref t] H2 Q'
abbrev N_within : List Str := ["block", "call", "given"]
theorem sc_within : FnScope N_within ["block", "call"] (defScope s_within) := ⟨rfl, rfl, rfl, by decide +kernel, rfl, by decide +kernel, by decide +kernel⟩
theorem gv_within {X : Cx} (T : T72 X.K X.mg) (q : Str) (g : Addr) (cdv : Value) (k : Nat) (hk : 1 ≤ k) : Lx.Gives X k (L2.CX X.prog X.w) N_within "within" (defScope s_within) g cdv (defBody s_within) q (fun Z f c' tl => Lx.Act1 Z "call" 1 f c' q 1 tl) (spLWithin X.K) := by
  intro f c' s H vs Q E tl hr hA hc h
  obtain ⟨t, x, dt, dw, k0, p0, kp, kv, tx, pt, f0, fl, ps, rfl, ht, hx, hp, h⟩ := h
  have nd := sc_within.nd
  obtain ⟨fde, Ge, be⟩ := (ok_enter (P := X.prog) (w := X.w) (base := X.base) T).ex
  obtain ⟨fdx, Gx, bx⟩ := ok_exit (P := X.prog) (w := X.w) (base := X.base) T
  obtain ⟨he, hfe⟩ := T.sp_enter
  obtain ⟨hxx, hfx⟩ := T.sp_exit
  refine ⟨_, pss_one (Wx.ps_with (i := 2) rfl rfl nd rfl rfl he hfe hxx hfx Ge (hr.mono (by omega)) be Gx bx (fun e => ⟨(hr.mono (j := 1) (by omega)).dp, (hr.mono (j := 1) (by omega)).un⟩) ⟨(hr.mono (j := 1) (by omega)).dp, (hr.mono (j := 1) (by omega)).un⟩ (takes_of rfl rfl rfl rfl) (pv 0)
    (fun W pn xe tk _ => pss_one (ps_ret (hA W pn xe _ _ _ _ _ tk (pa_cons (pv 2) pa_nil) rfl rfl)))), ?_⟩
  refine ⟨.ref t, rfl, t, dt, _, rfl, ht, t, x, dt, dw, k0, p0, kp, kv, tx, pt, f0, fl, ps, rfl, ht, hx, hp, fun H2 k2 ht2 hx2 => ?_⟩
  obtain ⟨P', hc⟩ := hc
  have hc2 : H2 c' = some (Lx.CodeP c' q P') := k2 _ _ hc (by
    intro z
    rcases List.mem_cons.mp z with e | z
    · rw [e, ht] at hc; cases hc
    · rw [List.mem_singleton.mp z, hx] at hc; cases hc)
  refine Rd.ret ?_
  refine ⟨rfl, ?_⟩
  walk_at "rd"
  refine ⟨rfl, ⟨P', hc2⟩, h H2 k2 ht2 hx2 _ _ (fun cls d H3 hE => ?_) (fun v H3 hQ => ?_)⟩
  · obtain ⟨c, dt, dw, k, p, kp, k0, p0, kept, f0, fl, rfl, ht3, hx3, hh⟩ := hE
    refine ⟨c, rfl, fun a tv na ntv => ⟨t, x, dt, dw, k, p, kp, k0, p0, .ref c, .ref a, tv, kept, f0, fl, rfl, ht3, hx3, fun H4 k4 hx4 => ⟨rfl, hh H4 k4 ?_⟩⟩⟩
    rw [if_pos (.inl (fun z => nomatch z))] at hx4
    exact hx4
  · obtain ⟨dt, dw, k, p, kp, k0, p0, kept, f0, fl, ht3, hx3, hh⟩ := hQ
    refine ⟨t, x, dt, dw, k, p, kp, k0, p0, .non, .non, .non, kept, f0, fl, rfl, ht3, hx3, fun H4 k4 hx4 => hh H4 k4 ?_⟩
    cases kept with
    | false => rw [if_pos (.inr rfl)] at hx4; rw [if_pos rfl]; exact hx4
    | true => rw [if_neg (by simp)] at hx4; rw [if_neg (by decide)]; exact hx4

end W72
-- D17
set_option Elab.async false
set_option linter.all false
set_option maxRecDepth 100000
set_option maxHeartbeats 400000
namespace W72
open PySem PySem.Spec PyProof.Rows L2 Ft
local macro_rules | `(tactic| walk_at "rd") => `(tactic| (repeat (first
  | with_reducible refine Rd.seq ?_ | with_reducible refine Rd.asg ?_ | with_reducible refine Rd.var rfl ?_ | with_reducible refine Rd.con ?_ | with_reducible refine Rd.op ?_ | with_reducible refine Rd.gname ?_ | with_reducible refine Rd.gsub ?_
  | with_reducible refine Rd.ri0 ?_ | with_reducible refine Rd.mulL (by decide +kernel) ?_ | with_reducible refine Rd.mulR (by decide +kernel) ?_ | with_reducible refine Rd.modK (by decide +kernel) ?_ | with_reducible refine Rd.divK (by decide +kernel) ?_
  | with_reducible refine Rd.test ?_ | with_reducible refine Rd.bk ?_ | with_reducible refine Rd.cons ?_ | with_reducible refine Rd.nil ?_ | with_reducible refine Rd.ret ?_ | with_reducible refine Rd.retN ?_ | with_reducible refine Rd.ifs ?_
  | with_reducible refine Rd.nxt ?_ | with_reducible refine Rd.ixl (by first | assumption | exact upd_same) rfl ?_ | with_reducible refine Rd.setl (by first | assumption | exact upd_same) rfl ?_
  | with_reducible refine Rd.cb ?_ | with_reducible refine Rd.andT ?_ | with_reducible refine Rd.orT ?_ | with_reducible refine Rd.notT ?_ | with_reducible refine Rd.ifexp ?_ | with_reducible refine Rd.req rfl ?_ | with_reducible refine Rd.rne rfl ?_
  | with_reducible refine Rd.tup ?_ | with_reducible refine Rd.lst ?_ | with_reducible refine Rd.dget0 ?_ | with_reducible refine Rd.dput0 ?_ | with_reducible refine Rd.fld0 ?_ | with_reducible refine Rd.sfld0 ?_ | with_reducible refine Rd.sl ?_
  | with_reducible refine Rd.nopart ?_ | with_reducible refine Rd.part0 ?_ | with_reducible refine Rd.intE ?_ | with_reducible refine Rd.un ?_ | with_reducible refine Rd.ru ?_ | with_reducible refine Rd.expr ?_
  | with_reducible refine Rd.gcons ?_ | with_reducible refine Rd.gnil ?_ | with_reducible refine Rd.call ?_ | with_reducible refine lc_inT ?_ | with_reducible refine lc_inL ?_
  | with_reducible refine Rd.lenL (by assumption) ?_ | with_reducible refine Rd.lenT (by assumption) ?_ | with_reducible refine Rd.gtup (by assumption) rfl ?_
  | with_reducible refine Rd.dgetE (by first | assumption | exact upd_same) rfl ?_ | with_reducible refine Rd.dputE (by first | assumption | exact upd_same) (by decide) ?_
  | with_reducible refine Rd.line (by first | decide | simp) ?_ | with_reducible refine Rd.yes ?_ | with_reducible refine Rd.asg2 ?_ | with_reducible refine Rd.tupF ?_ | with_reducible refine Rd.meth0 ?_ | with_reducible refine Rd.prop0 ?_ | with_reducible refine mko ?_ | with_reducible refine Rd.ifNT ?_ | with_reducible refine Rd.ifNF ?_ | with_reducible refine Rd.tbE ?_ | with_reducible refine Rd.andV ?_ | with_reducible refine Rd.chain ?_ | with_reducible refine Rd.methS ?_ | with_reducible refine Rd.bm ?_ | with_reducible refine Rd.callS ?_ | with_reducible refine Rd.xf0 ?_ | with_reducible refine Rd.ifT ?_ | with_reducible refine Rd.ifF ?_ | dsimp only [])))
local macro_rules | `(tactic| walk_at "hp") => `(tactic| (first | assumption | exact upd_same | grind [upd]))
/-! ### blocks that are open -/
theorem Keep.at_ {M : List Addr} {H H' : Hp} {a : Addr} {o : HO} (k : Keep M H H') (m : MOk M H) (h : H a = some o) (nm : ¬ MuO o) : H' a = some o := by
  refine k a o h (fun z => ?_)
  obtain ⟨u, e, mu⟩ := m a z
  rw [h] at e
  cases e
  exact nm mu
theorem KeepN.transN {M F : List Addr} {H H1 H2 : Hp} (a : KeepN M H H1) (b : KeepN (M ++ F) H1 H2) (f : ∀ y ∈ F, H y = none) : KeepN M H H2 := fun c o h m n => b c o (a c o h m n) (fun z => by
  rcases List.mem_append.mp z with z | z
  · exact m z
  · rw [f c z] at h; cases h) n
theorem KeepN.mk {M : List Addr} {H H1 : Hp} (m : LamX.ExtN H H1) : KeepN M H H1 := fun b o h _ n => m b o h n
/-- an open block: its list, its trial, what the trial keeps -/
structure Opn where
  o : Addr
  t : Addr
  dt : Addr
  k0 : Addr
  p0 : Addr
  f0 : Int
  kept : Bool
  flag : Bool
abbrev keptV (b : Bool) : V := if b then .bl true else .non
def Opn.Tr (K : PySem.W.Frag) (H : Hp) (x : Addr) (e : Opn) : Prop := H e.t = some (.ins (ga K "Trial") e.dt (trF x (keptV e.kept) (.ref e.k0) (.ref e.p0) e.f0))
def Opn.Li (H : Hp) (e : Opn) : Prop := H e.o = some (.lst [.ref e.t, .bl e.flag])
abbrev opO (es : List Opn) : List Addr := es.map (fun e => e.o)
abbrev opT (es : List Opn) : List Addr := es.map (fun e => e.t)
abbrev opM (es : List Opn) : List Addr := opO es ++ opT es
structure Ops (K : PySem.W.Frag) (H : Hp) (x : Addr) (es : List Opn) : Prop where
  li : ∀ e ∈ es, e.Li H
  tr : ∀ e ∈ es, e.Tr K H x
  no : (opO es).Nodup
  nt : (opT es).Nodup
section
variable {K : PySem.W.Frag} {H H' : Hp} {b x s : Addr} {es : List Opn} {M : List Addr}
theorem Ops.nil : Ops K H x [] := ⟨fun _ h => (nomatch h), fun _ h => (nomatch h), List.nodup_nil, List.nodup_nil⟩
theorem Ops.mu (O : Ops K H x es) : MOk (opM es) H := fun a ha => by
  rcases List.mem_append.mp ha with h | h
  · obtain ⟨e, he, rfl⟩ := List.mem_map.mp h
    exact ⟨_, O.li e he, .bl e.flag, by simp, fun a z => by cases z⟩
  · obtain ⟨e, he, rfl⟩ := List.mem_map.mp h
    exact ⟨_, O.tr e he, True.intro⟩
theorem Ops.keepN (O : Ops K H x es) (k : KeepN M H H') (n : ∀ a ∈ opM es, a ∉ M) : Ops K H' x es :=
  ⟨fun e he => k _ _ (O.li e he) (n _ (List.mem_append.mpr (.inl (List.mem_map_of_mem (f := fun e => e.o) he)))) (fun _ z => by cases z), fun e he => k _ _ (O.tr e he) (n _ (List.mem_append.mpr (.inr (List.mem_map_of_mem (f := fun e => e.t) he)))) (fun _ z => by cases z), O.no, O.nt⟩
theorem Ops.ot (O : Ops K H x es) {a : Addr} (h : a ∈ opO es) : a ∉ opT es := fun z => by
  obtain ⟨e, he, rfl⟩ := List.mem_map.mp h
  obtain ⟨e', he', q⟩ := List.mem_map.mp z
  have h1 := O.li e he
  have h2 := O.tr e' he'
  unfold Opn.Li at h1
  unfold Opn.Tr at h2
  rw [q, h1] at h2
  cases h2
end
/-! ### set by a block within -/
def Up (e e' : Opn) : Prop := e' = e ∨ e' = { e with kept := true, flag := true }
abbrev Ups : List Opn → List Opn → Prop := Paired Up
theorem Ups.refl : ∀ es, Ups es es
  | [] => .nil
  | _ :: t => .cons (.inl rfl) (Ups.refl t)
theorem Up.trans {a b c : Opn} (h : Up a b) (h' : Up b c) : Up a c := by
  rcases h with rfl | rfl <;> rcases h' with rfl | rfl
  · exact .inl rfl
  · exact .inr rfl
  · exact .inr rfl
  · exact .inr rfl
theorem Ups.trans : ∀ {a b c : List Opn}, Ups a b → Ups b c → Ups a c
  | _, _, _, .nil, .nil => .nil
  | _, _, _, .cons h t, .cons h' t' => .cons (h.trans h') (Ups.trans t t')
theorem Ups.o : ∀ {a b : List Opn}, Ups a b → opO b = opO a
  | _, _, .nil => rfl
  | _, _, .cons (a := e) (b := e') h t => by
    have e2 : e'.o = e.o := by rcases h with rfl | rfl <;> rfl
    show e'.o :: opO _ = e.o :: opO _
    rw [e2, Ups.o t]
theorem Ups.t : ∀ {a b : List Opn}, Ups a b → opT b = opT a
  | _, _, .nil => rfl
  | _, _, .cons (a := e) (b := e') h t => by
    have e2 : e'.t = e.t := by rcases h with rfl | rfl <;> rfl
    show e'.t :: opT _ = e.t :: opT _
    rw [e2, Ups.t t]
theorem Ups.m {a b : List Opn} (h : Ups a b) : opM b = opM a := by rw [opM, h.o, h.t]
theorem Ups.snoc {a c : List Opn} {e : Opn} (h : Ups (a ++ [e]) c) : ∃ a' e', c = a' ++ [e'] ∧ Ups a a' ∧ Up e e' := by
  induction a generalizing c with
  | nil =>
    cases h with
    | cons h t =>
      cases t
      exact ⟨[], _, rfl, .nil, h⟩
  | cons y ys ih =>
    cases h with
    | cons h t =>
      obtain ⟨a', e', e1, h1, h2⟩ := ih t
      exact ⟨_ :: a', e', by rw [e1]; rfl, .cons h h1, h2⟩
/-! ### tables of code objects -/
def qd : Str := "_law_deeds.<locals>.<lambda>"
def qb : Str := "_law_block.<locals>.<lambda>"
def qi : Str := "_law_block.<locals>.<lambda>.<locals>.<lambda>"
def TI (H : Hp) (Pd Pb P' : Addr) : Prop := P' ≠ Pd ∧ P' ≠ Pb ∧ Lx.TabP H P' qi (fun _ => True)
structure TX (H : Hp) (Pd Pb : Addr) : Prop where
  ne : Pd ≠ Pb
  d : Lx.TabP H Pd qd (fun _ => True)
  b : Lx.TabP H Pb qb (TI H Pd Pb)
theorem TabP.at_ {H : Hp} {P : Addr} {q : Str} {D : Addr → Prop} (t : Lx.TabP H P q D) : ∃ ps, H P = some (.tbl ps) := let ⟨ps, h, _⟩ := t; ⟨ps, h⟩
theorem TabP.keep {M : List Addr} {H H' : Hp} {P : Addr} {q : Str} {D D' : Addr → Prop} (t : Lx.TabP H P q D) (k : Keep M H H') (m : MOk M H) (d : ∀ a, D a → D' a) : Lx.TabP H' P q D' := by
  obtain ⟨ps, h1, h2, h3⟩ := t
  refine ⟨ps, k.at_ m h1 (fun z => z), h2, fun pos cv hc => ?_⟩
  obtain ⟨c, P', e1, e2, e3⟩ := h3 pos cv hc
  exact ⟨c, P', e1, k.at_ m e2 (fun z => by unfold Lx.CodeP at z; exact z), d _ e3⟩
theorem TI.keep {M : List Addr} {H H' : Hp} {Pd Pb P : Addr} (t : TI H Pd Pb P) (k : Keep M H H') (m : MOk M H) : TI H' Pd Pb P := ⟨t.1, t.2.1, TabP.keep t.2.2 k m (fun _ z => z)⟩
theorem TX.keep {M : List Addr} {H H' : Hp} {Pd Pb : Addr} (t : TX H Pd Pb) (k : Keep M H H') (m : MOk M H) : TX H' Pd Pb := ⟨t.ne, TabP.keep t.d k m (fun _ z => z), TabP.keep t.b k m (fun _ z => z.keep k m)⟩
section
variable {H H1 : Hp} {Pd Pb P P' c' : Addr} {q : Str}
theorem Made.oth (m : Lx.Made H H1 P c' q P') {a : Addr} (na : a ≠ P) (ha : ∃ ps, H a = some (.tbl ps)) : H1 a = H a := by
  rcases m.hit with e | ⟨n, _, h⟩
  · rw [e]
  · refine h a na (fun z => ?_) ha
    obtain ⟨ps, e⟩ := ha
    rw [z, n] at e
    cases e
theorem TX.made_d (T : TX H Pd Pb) (m : Lx.Made H H1 Pd c' qd P') (f : ∀ D' : Addr → Prop, (∀ a : Addr, True → D' a) → D' P' → Lx.TabP H1 Pd qd D') : TX H1 Pd Pb :=
  ⟨T.ne, f _ (fun _ z => z) True.intro, T.b.ext m.ext (Made.oth m T.ne.symm (TabP.at_ T.b)) fun a ⟨h1, h2, h3⟩ => ⟨h1, h2, h3.ext m.ext (Made.oth m h1 (TabP.at_ h3)) fun _ z => z⟩⟩
theorem TX.made_b (T : TX H Pd Pb) (m : Lx.Made H H1 Pb c' qb P') (hD : H1 = H → TI H Pd Pb P') (f : ∀ D' : Addr → Prop, (∀ a, TI H Pd Pb a → D' a) → D' P' → Lx.TabP H1 Pb qb D') : TX H1 Pd Pb ∧ TI H1 Pd Pb P' := by
  have go : ∀ a, TI H Pd Pb a → TI H1 Pd Pb a := fun a ⟨h1, h2, h3⟩ => ⟨h1, h2, h3.ext m.ext (Made.oth m h2 (TabP.at_ h3)) fun _ z => z⟩
  have hn : TI H1 Pd Pb P' := by
    rcases m.hit with e | ⟨n, e, h⟩
    · exact go _ (hD e)
    · refine ⟨fun z => ?_, fun z => ?_, Lx.TabP.nil e⟩
      · obtain ⟨ps, e2⟩ := TabP.at_ T.d
        rw [← z, n] at e2
        cases e2
      · obtain ⟨ps, e2⟩ := TabP.at_ T.b
        rw [← z, n] at e2
        cases e2
  exact ⟨⟨T.ne, T.d.ext m.ext (Made.oth m T.ne (TabP.at_ T.d)) fun _ z => z, f _ go hn⟩, hn⟩
theorem TX.made_i (T : TX H Pd Pb) (hP : TI H Pd Pb P) (m : Lx.Made H H1 P c' qi P') (f : ∀ D' : Addr → Prop, (∀ a : Addr, True → D' a) → D' P' → Lx.TabP H1 P qi D') : TX H1 Pd Pb := by
  have hp := f (fun _ => True) (fun _ z => z) True.intro
  refine ⟨T.ne, T.d.ext m.ext (Made.oth m (Ne.symm hP.1) (TabP.at_ T.d)) fun _ z => z, T.b.ext m.ext (Made.oth m (Ne.symm hP.2.1) (TabP.at_ T.b)) fun a ⟨h1, h2, h3⟩ => ⟨h1, h2, ?_⟩⟩
  by_cases ha : a = P
  · rw [ha]; exact hp
  · exact h3.ext m.ext (Made.oth m ha (TabP.at_ h3)) fun _ z => z
end
/-! ### what stands between two deeds, with the open blocks and the tables -/
structure Sit2 (K : PySem.W.Frag) (H : Hp) (b x s : Addr) (rows : List Row) (past : List (List Row)) (fl : Int) (told : V) (es : List Opn) (Pd Pb : Addr) : Prop where
  S : Sit K H b x s rows past fl told (opO es)
  O : Ops K H x es
  T : TX H Pd Pb
abbrev MM (b x s : Addr) (es : List Opn) : List Addr := [b, x, s] ++ opM es
section
variable {K : PySem.W.Frag} {H H' : Hp} {b x s Pd Pb : Addr} {rows rows' : List Row} {past past' : List (List Row)} {fl fl' : Int} {told told' : V} {es : List Opn} {M : List Addr}
theorem Sit2.apart (h : Sit2 K H b x s rows past fl told es Pd Pb) : ∀ a ∈ opM es, a ∉ [b, x, s] := fun a ha z => by
  obtain ⟨c1, c2, c3, eb⟩ := h.S.box
  obtain ⟨dw, k, p, kp, ex, _⟩ := h.S.ws
  obtain ⟨r, p', o', es', _⟩ := h.S.st
  rcases List.mem_append.mp ha with ha | ha
  · obtain ⟨e, he, rfl⟩ := List.mem_map.mp ha
    have hl : H e.o = _ := h.O.li e he
    rcases List.mem_cons.mp z with q | z
    · rw [q, eb] at hl; cases hl
    rcases List.mem_cons.mp z with q | z
    · rw [q, ex] at hl; cases hl
    · rw [List.mem_singleton.mp z, es'] at hl; cases hl
  · obtain ⟨e, he, rfl⟩ := List.mem_map.mp ha
    have hl : H e.t = _ := h.O.tr e he
    rcases List.mem_cons.mp z with q | z
    · rw [q, eb] at hl; cases hl
    rcases List.mem_cons.mp z with q | z
    · exact tr_ws hl ex q
    · rw [List.mem_singleton.mp z, es'] at hl; cases hl
theorem Sit2.mok (h : Sit2 K H b x s rows past fl told es Pd Pb) : MOk (MM b x s es) H := fun a ha => by
  rcases List.mem_append.mp ha with z | z
  · exact h.S.mok a z
  · exact h.O.mu a z
/-- a deed of its own -/
theorem Sit2.leaf (h : Sit2 K H b x s rows past fl told es Pd Pb) (k : Keep [b, x, s] H H') (S' : Sit K H' b x s rows' past' fl' told' (opO es)) : Sit2 K H' b x s rows' past' fl' told' es Pd Pb :=
  ⟨S', h.O.keepN k.n h.apart, h.T.keep k h.S.mok⟩
theorem ExtN.at_ {a : Addr} (m : LamX.ExtN H H') (h : ∃ o, H a = some o ∧ MuO o) : H' a = H a := by
  obtain ⟨o, h, mu⟩ := h
  rw [h, m _ _ h (fun ps z => by rw [z] at mu; exact mu)]
theorem Sit2.made (h : Sit2 K H b x s rows past fl told es Pd Pb) (m : LamX.ExtN H H') (T' : TX H' Pd Pb) : Sit2 K H' b x s rows past fl told es Pd Pb :=
  ⟨h.S.keepN (M := []) (.mk m) .nil (ExtN.at_ m (box_mu h.S.box)) (ExtN.at_ m h.S.ws.mu) (ExtN.at_ m h.S.st.mu), h.O.keepN (M := []) (.mk m) (fun _ _ z => nomatch z), T'⟩
theorem Sit2.ext (h : Sit2 K H b x s rows past fl told es Pd Pb) (e : Ext H H') : Sit2 K H' b x s rows past fl told es Pd Pb := h.leaf (.of e) (h.S.ext e)
theorem Sit2.take {c z n : Int} (h : Sit2 K H b x s rows past fl told es Pd Pb) : Sit2 K (upd H b (.lst [.int c, .int z, .int n])) b x s rows past fl told es Pd Pb :=
  h.leaf ((Keep.refl _ _).put (by simp)) h.S.take
end
/-- behind some deeds -/
structure Aft (K : PySem.W.Frag) (b x s : Addr) (fl : Int) (Pd Pb : Addr) (H : Hp) (past : List (List Row)) (es : List Opn) (H' : Hp) (rows' : List Row) (past' : List (List Row)) (told' : V) (es' : List Opn) (g : Nat) : Prop where
  k : KeepN (MM b x s es) H H'
  u : Ups es es'
  s : Sit2 K H' b x s rows' past' fl told' es' Pd Pb
  l : past'.length ≤ past.length + g
section
variable {K : PySem.W.Frag} {H H' H1 : Hp} {b x s Pd Pb : Addr} {rows rows' rows1 : List Row} {past past' past1 : List (List Row)} {fl : Int} {told told' told1 : V} {es es' es1 : List Opn} {g g1 : Nat}
theorem Aft.refl (h : Sit2 K H b x s rows past fl told es Pd Pb) : Aft K b x s fl Pd Pb H past es H rows past told es 0 := ⟨.refl _ _, .refl _, h, Nat.le_refl _⟩
theorem Aft.trans (a : Aft K b x s fl Pd Pb H past es H1 rows1 past1 told1 es1 g) (c : Aft K b x s fl Pd Pb H1 past1 es1 H' rows' past' told' es' g1) : Aft K b x s fl Pd Pb H past es H' rows' past' told' es' (g + g1) :=
  ⟨a.k.trans (by have := c.k; rwa [MM, a.u.m] at this), a.u.trans c.u, c.s, by have := a.l; have := c.l; omega⟩
theorem Aft.leaf (h : Sit2 K H b x s rows past fl told es Pd Pb) (k : Keep [b, x, s] H H') (S' : Sit K H' b x s rows' past' fl told' (opO es)) (l : past'.length ≤ past.length + g) : Aft K b x s fl Pd Pb H past es H' rows' past' told' es g :=
  ⟨k.n.mono (fun _ z => List.mem_append.mpr (.inl z)), .refl _, h.leaf k S', l⟩
theorem Aft.mono (a : Aft K b x s fl Pd Pb H past es H1 rows1 past1 told1 es1 g) (h : g ≤ g1) : Aft K b x s fl Pd Pb H past es H1 rows1 past1 told1 es1 g1 := ⟨a.k, a.u, a.s, by have := a.l; omega⟩
theorem Aft.ext (a : Aft K b x s fl Pd Pb H past es H1 rows1 past1 told1 es1 g) (e : Ext H1 H') : Aft K b x s fl Pd Pb H past es H' rows1 past1 told1 es1 g := ⟨a.k.trans (.of e), a.u, a.s.ext e, a.l⟩
theorem Aft.take {c z n : Int} (a : Aft K b x s fl Pd Pb H past es H1 rows1 past1 told1 es1 g) : Aft K b x s fl Pd Pb H past es (upd H1 b (.lst [.int c, .int z, .int n])) rows1 past1 told1 es1 g :=
  ⟨a.k.put (by simp), a.u, a.s.take, a.l⟩
theorem Aft.made (a : Aft K b x s fl Pd Pb H past es H1 rows1 past1 told1 es1 g) (m : LamX.ExtN H1 H') (T' : TX H' Pd Pb) : Aft K b x s fl Pd Pb H past es H' rows1 past1 told1 es1 g := ⟨a.k.trans (.mk m), a.u, a.s.made m T', a.l⟩
end
/-! ### promises of the blocks and the deeds -/
def G : Nat → Nat
  | 0 => 1
  | d + 1 => 1 + 5 * G d
theorem G_pos : ∀ d, 1 ≤ G d
  | 0 => Nat.le_refl _
  | d + 1 => by show 1 ≤ 1 + 5 * G d; omega
def spBuild (K : PySem.W.Frag) : Sp := fun vs H _ E => ∃ (x : Addr) (rows : List Row) (past : List (List Row)) (fl : Int), vs = [.ref x] ∧ WS K H x rows past fl ∧ RowsOk rows ∧
  ∀ cls dd H', Ext H H' → Told K H' dd cls (dueT rows) → E cls (some dd) H'
def spDeeds (K : PySem.W.Frag) (Pd Pb : Addr) (d : Nat) : Sp := fun vs H Q _ => ∃ (b x s : Addr) (n : Nat) (rows : List Row) (past : List (List Row)) (fl : Int) (told : V) (es : List Opn),
  vs = [.ref b, .ref x, .ref s, .int n, .int (3 - (d : Int))] ∧ n ≤ 30 ∧ Sit2 K H b x s rows past fl told es Pd Pb ∧ past.length + n * G d < 100000 ∧ es.length + d ≤ 3 ∧
  ∀ H' rows' past' told' es', Aft K b x s fl Pd Pb H past es H' rows' past' told' es' (n * G d) → Q (.bl true) H'
def spBlock (K : PySem.W.Frag) (Pd Pb : Addr) (d : Nat) : Sp := fun vs H Q _ => ∃ (b x s : Addr) (rows : List Row) (past : List (List Row)) (fl : Int) (told : V) (es : List Opn),
  vs = [.ref b, .ref x, .ref s, .int (3 - ((d + 1 : Nat) : Int))] ∧ Sit2 K H b x s rows past fl told es Pd Pb ∧ past.length + G (d + 1) < 100000 ∧ es.length + d ≤ 2 ∧
  ∀ H' rows' past' told' es', Aft K b x s fl Pd Pb H past es H' rows' past' told' es' (G (d + 1)) → Q (.bl true) H'
/-- what a block is left with -/
inductive Ends_ (K : PySem.W.Frag) (H : Hp) (form : Int) (told : V) : Value → Option Addr → Prop
  | mk (cls : Value) (dd p : Addr) (vs : List V) (ok : vs.all Qx.okV = true) (f : 1 < form) (t : Told K H dd cls vs) (e : told = .ref p) (h : H p = some (.tup vs)) : Ends_ K H form told cls (some dd)
def spInside (K : PySem.W.Frag) (Pd Pb : Addr) (d : Nat) : Sp := fun vs H Q E => ∃ (b x s : Addr) (form : Int) (rows : List Row) (past : List (List Row)) (fl : Int) (told : V) (es : List Opn) (e : Opn),
  vs = [.ref b, .ref x, .ref s, .ref e.t, .ref e.t, .int form, .int (3 - ((d + 1 : Nat) : Int))] ∧ 0 ≤ form ∧ form < 8 ∧ Sit2 K H b x s rows past fl told (es ++ [e]) Pd Pb ∧ past.length + 5 * G d < 100000 ∧ es.length + d ≤ 2 ∧ e.kept = e.flag ∧
  ∀ H' rows' past' told' es' e', KeepN (MM b x s (es ++ [e])) H H' → Ups es es' → e'.o = e.o → e'.t = e.t → e'.dt = e.dt → e'.k0 = e.k0 → e'.p0 = e.p0 → e'.f0 = e.f0 → (form = 0 → e'.kept = e'.flag) → (form = 1 → e'.kept = true) →
    Sit2 K H' b x s rows' past' fl told' (es' ++ [e']) Pd Pb → past'.length ≤ past.length + 5 * G d →
    (form ≤ 1 → told' = .int 7 → Q (.int 7) H') ∧ (∀ cls dd, Ends_ K H' form told' cls dd → E cls dd H')

end W72
-- D18
set_option Elab.async false
set_option linter.all false
set_option maxRecDepth 100000
set_option maxHeartbeats 400000
namespace W72
open PySem PySem.Spec PyProof.Rows L2 Ft
local macro_rules | `(tactic| walk_at "rd") => `(tactic| (repeat (first
  | with_reducible refine Rd.seq ?_ | with_reducible refine Rd.asg ?_ | with_reducible refine Rd.var rfl ?_ | with_reducible refine Rd.con ?_ | with_reducible refine Rd.op ?_ | with_reducible refine Rd.gname ?_ | with_reducible refine Rd.gsub ?_
  | with_reducible refine Rd.ri0 ?_ | with_reducible refine Rd.mulL (by decide +kernel) ?_ | with_reducible refine Rd.mulR (by decide +kernel) ?_ | with_reducible refine Rd.modK (by decide +kernel) ?_ | with_reducible refine Rd.divK (by decide +kernel) ?_
  | with_reducible refine Rd.test ?_ | with_reducible refine Rd.bk ?_ | with_reducible refine Rd.cons ?_ | with_reducible refine Rd.nil ?_ | with_reducible refine Rd.ret ?_ | with_reducible refine Rd.retN ?_ | with_reducible refine Rd.ifs ?_
  | with_reducible refine Rd.nxt ?_ | with_reducible refine Rd.ixl (by first | assumption | exact upd_same) rfl ?_ | with_reducible refine Rd.setl (by first | assumption | exact upd_same) rfl ?_
  | with_reducible refine Rd.cb ?_ | with_reducible refine Rd.andT ?_ | with_reducible refine Rd.orT ?_ | with_reducible refine Rd.notT ?_ | with_reducible refine Rd.ifexp ?_ | with_reducible refine Rd.req rfl ?_ | with_reducible refine Rd.rne rfl ?_
  | with_reducible refine Rd.tup ?_ | with_reducible refine Rd.lst ?_ | with_reducible refine Rd.dget0 ?_ | with_reducible refine Rd.dput0 ?_ | with_reducible refine Rd.fld0 ?_ | with_reducible refine Rd.sfld0 ?_ | with_reducible refine Rd.sl ?_
  | with_reducible refine Rd.nopart ?_ | with_reducible refine Rd.part0 ?_ | with_reducible refine Rd.intE ?_ | with_reducible refine Rd.un ?_ | with_reducible refine Rd.ru ?_ | with_reducible refine Rd.expr ?_
  | with_reducible refine Rd.gcons ?_ | with_reducible refine Rd.gnil ?_ | with_reducible refine Rd.call ?_ | with_reducible refine lc_inT ?_ | with_reducible refine lc_inL ?_
  | with_reducible refine Rd.lenL (by assumption) ?_ | with_reducible refine Rd.lenT (by assumption) ?_ | with_reducible refine Rd.gtup (by assumption) rfl ?_
  | with_reducible refine Rd.dgetE (by first | assumption | exact upd_same) rfl ?_ | with_reducible refine Rd.dputE (by first | assumption | exact upd_same) (by decide) ?_
  | with_reducible refine Rd.line (by first | decide | simp) ?_ | with_reducible refine Rd.yes ?_ | with_reducible refine Rd.asg2 ?_ | with_reducible refine Rd.tupF ?_ | with_reducible refine Rd.meth0 ?_ | with_reducible refine Rd.prop0 ?_ | with_reducible refine mko ?_ | with_reducible refine Rd.ifNT ?_ | with_reducible refine Rd.ifNF ?_ | with_reducible refine Rd.tbE ?_ | with_reducible refine Rd.andV ?_ | with_reducible refine Rd.chain ?_ | with_reducible refine Rd.methS ?_ | with_reducible refine Rd.bm ?_ | with_reducible refine Rd.callS ?_ | with_reducible refine Rd.xf0 ?_ | with_reducible refine Rd.ifT ?_ | with_reducible refine Rd.ifF ?_ | with_reducible refine Rd.par ?_ | with_reducible refine Rd.parE ?_ | dsimp only [])))
local macro_rules | `(tactic| walk_at "hp") => `(tactic| (first | assumption | exact upd_same | grind [upd]))
/-! ### _law_inside -/
theorem opO_set {es : List Opn} {j : Nat} {e e' : Opn} (h : es[j]? = some e) (q : e'.o = e.o) : opO (es.set j e') = opO es := by
  have hj := (List.getElem?_eq_some_iff.mp h).1
  have hv := (List.getElem?_eq_some_iff.mp h).2
  show (es.set j e').map (fun e => e.o) = es.map (fun e => e.o)
  rw [List.map_set, q, ← hv]
  refine List.ext_getElem (by simp) fun i h1 h2 => ?_
  rw [List.getElem_set]
  split
  · next z => subst z; rw [List.getElem_map]
  · rfl
theorem opT_set {es : List Opn} {j : Nat} {e e' : Opn} (h : es[j]? = some e) (q : e'.t = e.t) : opT (es.set j e') = opT es := by
  have hj := (List.getElem?_eq_some_iff.mp h).1
  have hv := (List.getElem?_eq_some_iff.mp h).2
  show (es.set j e').map (fun e => e.t) = es.map (fun e => e.t)
  rw [List.map_set, q, ← hv]
  refine List.ext_getElem (by simp) fun i h1 h2 => ?_
  rw [List.getElem_set]
  split
  · next z => subst z; rw [List.getElem_map]
  · rfl
theorem nodup_at {α β : Type} {f : α → β} {l : List α} {i j : Nat} {a b : α} (nd : (l.map f).Nodup) (hi : l[i]? = some a) (hj : l[j]? = some b) (e : f a = f b) : i = j := by
  have h1 : (l.map f)[i]? = some (f a) := by rw [List.getElem?_map, hi]; rfl
  have h2 : (l.map f)[j]? = some (f a) := by rw [List.getElem?_map, hj, e]; rfl
  obtain ⟨z1, e1⟩ := List.getElem?_eq_some_iff.mp h1
  obtain ⟨z2, e2⟩ := List.getElem?_eq_some_iff.mp h2
  exact (List.getElem_inj nd).mp (e1.trans e2.symm)
theorem mem_set {es : List Opn} {j : Nat} {e' y : Opn} (h : y ∈ es.set j e') (hj : j < es.length) : y = e' ∨ ∃ i, i ≠ j ∧ es[i]? = some y := by
  obtain ⟨i, hi⟩ := List.mem_iff_getElem?.mp h
  rw [List.getElem?_set] at hi
  split at hi
  · exact .inl (Option.some.inj hi).symm
  · next z => exact .inr ⟨i, fun q => z q.symm, hi⟩
section
variable {K : PySem.W.Frag} {H : Hp} {b x s Pd Pb : Addr} {es : List Opn} {j : Nat} {e : Opn} {rows : List Row} {past : List (List Row)} {fl : Int} {told : V}
theorem Ops.setK (O : Ops K H x es) (hj : es[j]? = some e) : Ops K (upd H e.t (.ins (ga K "Trial") e.dt (trF x (.bl true) (.ref e.k0) (.ref e.p0) e.f0))) x (es.set j { e with kept := true }) := by
  have hlt := (List.getElem?_eq_some_iff.mp hj).1
  have hme := List.mem_of_getElem? hj
  refine ⟨fun y hy => ?_, fun y hy => ?_, by rw [opO_set (e' := { e with kept := true }) hj rfl]; exact O.no, by rw [opT_set (e' := { e with kept := true }) hj rfl]; exact O.nt⟩
  · have lt : ∀ z ∈ es, upd H e.t (.ins (ga K "Trial") e.dt (trF x (.bl true) (.ref e.k0) (.ref e.p0) e.f0)) z.o = some (.lst [.ref z.t, .bl z.flag]) := fun z hz => by
      rw [upd_ne (fun q => O.ot (List.mem_map_of_mem (f := fun e => e.o) hz) (by rw [q]; exact List.mem_map_of_mem (f := fun e => e.t) hme))]
      exact O.li z hz
    rcases mem_set hy hlt with rfl | ⟨i, _, hi⟩
    · exact lt e hme
    · exact lt y (List.mem_of_getElem? hi)
  · rcases mem_set hy hlt with rfl | ⟨i, ne, hi⟩
    · exact upd_same
    · show upd H e.t _ y.t = _
      rw [upd_ne (fun q => ne (nodup_at O.nt hi hj q))]
      exact O.tr y (List.mem_of_getElem? hi)
theorem Ops.setF (O : Ops K H x es) (hj : es[j]? = some e) : Ops K (upd H e.o (.lst [.ref e.t, .bl true])) x (es.set j { e with flag := true }) := by
  have hlt := (List.getElem?_eq_some_iff.mp hj).1
  have hme := List.mem_of_getElem? hj
  refine ⟨fun y hy => ?_, fun y hy => ?_, by rw [opO_set (e' := { e with flag := true }) hj rfl]; exact O.no, by rw [opT_set (e' := { e with flag := true }) hj rfl]; exact O.nt⟩
  · rcases mem_set hy hlt with rfl | ⟨i, ne, hi⟩
    · exact upd_same
    · show upd H e.o _ y.o = _
      rw [upd_ne (fun q => ne (nodup_at O.no hi hj q))]
      exact O.li y (List.mem_of_getElem? hi)
  · have lt : ∀ z ∈ es, upd H e.o (.lst [.ref e.t, .bl true]) z.t = some (.ins (ga K "Trial") z.dt (trF x (keptV z.kept) (.ref z.k0) (.ref z.p0) z.f0)) := fun z hz => by
      rw [upd_ne (fun q => O.ot (List.mem_map_of_mem (f := fun e => e.o) hme) (by rw [← q]; exact List.mem_map_of_mem (f := fun e => e.t) hz))]
      exact O.tr z hz
    rcases mem_set hy hlt with rfl | ⟨i, _, hi⟩
    · exact lt e hme
    · exact lt y (List.mem_of_getElem? hi)
/-- an open block's list or trial is changed -/
theorem Sit2.open1 {es' : List Opn} {a : Addr} {u : HO} (h : Sit2 K H b x s rows past fl told es Pd Pb) (ha : a ∈ opM es) (eo : opO es' = opO es) (O : Ops K (upd H a u) x es') : Sit2 K (upd H a u) b x s rows past fl told es' Pd Pb := by
  have na := h.apart a ha
  have k : Keep [a] H (upd H a u) := (Keep.refl _ _).put List.mem_cons_self
  have m : MOk [a] H := mok1 (h.O.mu a ha)
  refine ⟨?_, O, h.T.keep k m⟩
  rw [eo]
  exact h.S.keepN k.n m (upd_ne (fun z => na (by rw [← z]; simp))) (upd_ne (fun z => na (by rw [← z]; simp))) (upd_ne (fun z => na (by rw [← z]; simp)))
theorem Sit2.setK (h : Sit2 K H b x s rows past fl told es Pd Pb) (hj : es[j]? = some e) : Sit2 K (upd H e.t (.ins (ga K "Trial") e.dt (trF x (.bl true) (.ref e.k0) (.ref e.p0) e.f0))) b x s rows past fl told (es.set j { e with kept := true }) Pd Pb :=
  h.open1 (List.mem_append.mpr (.inr (List.mem_map_of_mem (f := fun e => e.t) (List.mem_of_getElem? hj)))) (opO_set hj rfl) (h.O.setK hj)
theorem Sit2.setF (h : Sit2 K H b x s rows past fl told es Pd Pb) (hj : es[j]? = some e) : Sit2 K (upd H e.o (.lst [.ref e.t, .bl true])) b x s rows past fl told (es.set j { e with flag := true }) Pd Pb :=
  h.open1 (List.mem_append.mpr (.inl (List.mem_map_of_mem (f := fun e => e.o) (List.mem_of_getElem? hj)))) (opO_set hj rfl) (h.O.setF hj)
theorem ups_set : ∀ {es : List Opn} {j : Nat} {e : Opn}, es[j]? = some e → Ups es (es.set j { e with kept := true, flag := true })
  | _ :: t, 0, _, h => by
    cases h
    exact .cons (.inr rfl) (Ups.refl t)
  | _ :: t, j + 1, _, h => .cons (.inl rfl) (ups_set (es := t) (j := j) h)
  | [], _, _, h => by simp at h
/-- the state's 'told' is set -/
theorem Sit2.tell (h : Sit2 K H b x s rows past fl told es Pd Pb) {kvs : List (Key × V)} (hs : H s = some (.dK kvs)) (v : V) : Sit2 K (upd H s (.dK (putK kvs (.inr "told") v))) b x s rows past fl v es Pd Pb := by
  have k : Keep [s] H (upd H s (.dK (putK kvs (.inr "told") v))) := (Keep.refl _ _).put List.mem_cons_self
  have m := mok1 h.S.st.mu
  have nxs := ws_st h.S.ws h.S.st
  have nbs := box_st h.S.box h.S.st
  refine h.leaf (k.mono (by simp)) ⟨?_, h.S.ws.keep k m (upd_ne nxs), ?_, h.S.ok, h.S.pok, h.S.fl0⟩
  · obtain ⟨c, z, n, e⟩ := h.S.box
    exact ⟨c, z, n, (upd_ne nbs).trans e⟩
  · obtain ⟨r, p, o, h1, h2, h3, h4⟩ := h.S.st
    rw [hs] at h1
    cases h1
    exact ⟨r, p, o, upd_same, h2.keep k m, h3.keep k m, k.refs m h4⟩
end
/-- within a block -/
structure InA (K : PySem.W.Frag) (b x s : Addr) (fl : Int) (Pd Pb : Addr) (form : Int) (H : Hp) (past : List (List Row)) (es : List Opn) (e : Opn) (H' : Hp) (rows' : List Row) (past' : List (List Row)) (told' : V) (es' : List Opn) (e' : Opn) (g : Nat) : Prop where
  k : KeepN (MM b x s (es ++ [e])) H H'
  u : Ups es es'
  so : e'.o = e.o
  st : e'.t = e.t
  sd : e'.dt = e.dt
  sk : e'.k0 = e.k0
  sp : e'.p0 = e.p0
  sf : e'.f0 = e.f0
  fg : form % 2 = 0 → e'.kept = e'.flag
  s : Sit2 K H' b x s rows' past' fl told' (es' ++ [e']) Pd Pb
  l : past'.length ≤ past.length + g
section
variable {K : PySem.W.Frag} {H H' H1 : Hp} {b x s Pd Pb : Addr} {rows rows' rows1 : List Row} {past past' past1 : List (List Row)} {fl form : Int} {told told' told1 : V} {es es' es1 : List Opn} {e e' e1 : Opn} {g g1 : Nat}
theorem InA.m (A : InA K b x s fl Pd Pb form H past es e H1 rows1 past1 told1 es1 e1 g) : MM b x s (es1 ++ [e1]) = MM b x s (es ++ [e]) := by
  have h1 : opO (es1 ++ [e1]) = opO (es ++ [e]) := by
    show (es1 ++ [e1]).map _ = (es ++ [e]).map _
    rw [List.map_append, List.map_append, show es1.map (fun e => e.o) = es.map (fun e => e.o) from A.u.o, List.map_cons, List.map_cons, A.so]
  have h2 : opT (es1 ++ [e1]) = opT (es ++ [e]) := by
    show (es1 ++ [e1]).map _ = (es ++ [e]).map _
    rw [List.map_append, List.map_append, show es1.map (fun e => e.t) = es.map (fun e => e.t) from A.u.t, List.map_cons, List.map_cons, A.st]
  rw [MM, MM, opM, opM, h1, h2]
theorem InA.ext (A : InA K b x s fl Pd Pb form H past es e H1 rows1 past1 told1 es1 e1 g) (q : Ext H1 H') : InA K b x s fl Pd Pb form H past es e H' rows1 past1 told1 es1 e1 g :=
  { A with k := A.k.trans (.of q), s := A.s.ext q }
theorem InA.take {c z n : Int} (A : InA K b x s fl Pd Pb form H past es e H1 rows1 past1 told1 es1 e1 g) : InA K b x s fl Pd Pb form H past es e (upd H1 b (.lst [.int c, .int z, .int n])) rows1 past1 told1 es1 e1 g :=
  { A with k := A.k.put (by simp), s := A.s.take }
theorem InA.tell (A : InA K b x s fl Pd Pb form H past es e H1 rows1 past1 told1 es1 e1 g) {kvs : List (Key × V)} (hs : H1 s = some (.dK kvs)) (v : V) : InA K b x s fl Pd Pb form H past es e (upd H1 s (.dK (putK kvs (.inr "told") v))) rows1 past1 v es1 e1 g :=
  { A with k := A.k.put (by simp), s := A.s.tell hs v }
/-- deeds or an outer block's keep -/
theorem InA.up {es2 : List Opn} (A : InA K b x s fl Pd Pb form H past es e H1 rows1 past1 told1 es1 e1 g) (k : KeepN (MM b x s (es1 ++ [e1])) H1 H') (u : Ups (es1 ++ [e1]) es2) (S : Sit2 K H' b x s rows' past' fl told' es2 Pd Pb) (l : past'.length ≤ past1.length + g1) :
    ∃ es' e', InA K b x s fl Pd Pb form H past es e H' rows' past' told' es' e' (g + g1) ∧ (e1.kept = true → e'.kept = true) := by
  obtain ⟨es', e', rfl, u1, u2⟩ := u.snoc
  rw [A.m] at k
  refine ⟨es', e', ⟨A.k.trans k, A.u.trans u1, ?_, ?_, ?_, ?_, ?_, ?_, ?_, S, by have := A.l; omega⟩, ?_⟩
  all_goals rcases u2 with rfl | rfl
  · exact A.so
  · exact A.so
  · exact A.st
  · exact A.st
  · exact A.sd
  · exact A.sd
  · exact A.sk
  · exact A.sk
  · exact A.sp
  · exact A.sp
  · exact A.sf
  · exact A.sf
  · exact A.fg
  · exact fun _ => rfl
  · exact fun z => z
  · exact fun _ => rfl
theorem last_at : (es ++ [e])[es.length]? = some e := by simp
/-- the block's own keep -/
theorem InA.own (A : InA K b x s fl Pd Pb form H past es e H1 rows1 past1 told1 es1 e1 g) (h : form % 2 = 1) {a : Addr} (ha : e1.t = a) : InA K b x s fl Pd Pb form H past es e (upd H1 a (.ins (ga K "Trial") e1.dt (trF x (.bl true) (.ref e1.k0) (.ref e1.p0) e1.f0))) rows1 past1 told1 es1 { e1 with kept := true } g := by
  subst ha
  have S := A.s.setK (j := es1.length) (e := e1) last_at
  rw [List.set_append_right _ _ (Nat.le_refl _), Nat.sub_self] at S
  refine ⟨A.k.put ?_, A.u, A.so, A.st, A.sd, A.sk, A.sp, A.sf, fun z => by omega, S, A.l⟩
  rw [← A.m]
  exact List.mem_append.mpr (.inr (List.mem_append.mpr (.inr (by simp))))
theorem InA.tr (A : InA K b x s fl Pd Pb form H past es e H1 rows1 past1 told1 es1 e1 g) : H1 e.t = some (.ins (ga K "Trial") e1.dt (trF x (keptV e1.kept) (.ref e1.k0) (.ref e1.p0) e1.f0)) := by
  have h : H1 e1.t = _ := A.s.O.tr e1 (by simp)
  rw [← A.st]
  exact h
theorem InA.at_ (A : InA K b x s fl Pd Pb form H past es e H1 rows1 past1 told1 es1 e1 g) {j : Nat} {eo : Opn} (h : (es ++ [e])[j]? = some eo) : ∃ ej, (es1 ++ [e1])[j]? = some ej ∧ ej.o = eo.o := by
  have h1 : (opO (es1 ++ [e1]))[j]? = some eo.o := by
    have h2 : opO (es1 ++ [e1]) = opO (es ++ [e]) := by
      show (es1 ++ [e1]).map _ = (es ++ [e]).map _
      rw [List.map_append, List.map_append, show es1.map (fun e => e.o) = es.map (fun e => e.o) from A.u.o, List.map_cons, List.map_cons, A.so]
    rw [h2, List.getElem?_map, h]
    rfl
  rw [List.getElem?_map] at h1
  cases q : (es1 ++ [e1])[j]? with
  | none => rw [q] at h1; cases h1
  | some ej => rw [q] at h1; exact ⟨ej, rfl, Option.some.inj h1⟩
/-- between two parts of the text -/
def MidI (K : PySem.W.Frag) (b x s : Addr) (fl : Int) (Pd Pb : Addr) (form : Int) (H : Hp) (past : List (List Row)) (es : List Opn) (e : Opn) (σ0 : L2.St) (C : Opn → Prop) (g : Nat) : L2.St → Hp → Prop := fun σ' H' => σ' = σ0 ∧ ∃ rows' past' told' es' e',
  InA K b x s fl Pd Pb form H past es e H' rows' past' told' es' e' g ∧ C e'
end
theorem dInt {a b : Int} : decide (V.int a = V.int b) = decide (a = b) := decide_eq_decide.mpr ⟨fun z => V.int.inj z, fun z => by rw [z]⟩
section
theorem due_ok {rows : List Row} : (dueT rows).all Qx.okV = true := by
  have h1 : [V.str "program", .str "kinds", .int (-1), .int 0].all Qx.okV = true := by decide +kernel
  have h2 : ∀ n : Int, [V.str "text", .int n].all Qx.okV = true := fun n => by
    show (Qx.okV (.str "text") && (Qx.okV (.int n) && true)) = true
    rw [show Qx.okV (.str "text") = true from by decide +kernel]
    rfl
  unfold dueT
  split
  · exact h1
  · exact h2 _
end
section
variable {P : Program} {w : World} {K : PySem.W.Frag} {mg : Str → Option Value} {base : Heap}
abbrev N_inside : List Str := ["_law_box_here", "_law_workshop", "_law_state", "_law_block_here", "_law_given", "_law_form", "_law_deep", "_law_early", "_law_outer"]
theorem sc_inside : FnScope N_inside ["_law_box_here", "_law_workshop", "_law_state", "_law_block_here", "_law_given", "_law_form", "_law_deep"] (defScope s_law_inside) := ⟨rfl, rfl, rfl, by decide +kernel, rfl, by decide +kernel, by decide +kernel⟩
set_option maxHeartbeats 4000000 in
theorem ok_inside (T : T72 K mg) {Pd Pb : Addr} {d L : Nat} (hL : 13 ≤ L) (DD : Def P w K mg base CX0 L (ga K "_law_deeds") ["_law_box_here", "_law_workshop", "_law_state", "_law_many", "_law_deep"] (spDeeds K Pd Pb d))
    (DB : Def P w K mg base (L2.CX P w) 12 (ma K (ga K "Workshop") "build") ["self"] (spBuild K)) :
    Def P w K mg base (L2.CX P w) (L + 1) (ga K "_law_inside") ["_law_box_here", "_law_workshop", "_law_state", "_law_block_here", "_law_given", "_law_form", "_law_deep"] (spInside K Pd Pb d) := by
  obtain ⟨fdt, Gt, bt⟩ := (ok_take (P := P) (w := w) (base := base) T).ex
  have kpt := (ok_take (P := P) (w := w) (base := base) T).kp
  obtain ⟨fdk, Gk, bk⟩ := (ok_keep (P := P) (w := w) (base := base) T).ex
  obtain ⟨fdu, Gu, bu⟩ := (ok_due (P := P) (w := w) (base := base) T).ex
  have kpu := (ok_due (P := P) (w := w) (base := base) T).kp
  obtain ⟨fdr, Gr, br⟩ := (ok_drop (P := P) (w := w) (base := base) T).ex
  obtain ⟨fdp, Gp, bp⟩ := (ok_put (P := P) (w := w) (base := base) T).ex
  obtain ⟨⟨fdb, Gb, bb⟩, _⟩ := DB
  obtain ⟨⟨fdd, Gd, bd⟩, kpd⟩ := DD
  refine Def.mkX T.d_law_inside sc_inside (fun vs H Q E h => ?_) (fun _ _ _ _ _ _ us hl => match us, hl with | [_, _, _, _, _, _, _], _ => rfl) (fun cdv A outer st H vs Q E hr h => ?_)
  · obtain ⟨_, _, _, _, _, _, _, _, _, _, rfl, _⟩ := h
    rfl
  obtain ⟨b, x, s, form, rows, past, fl, told, es, e, rfl, hf0, hf8, S, hb, hd, hke, hQ⟩ := h
  have nd := sc_inside.nd
  have hu := hu_of hr
  have hr1 := hr.mono (j := 1) (by omega)
  have hr3 := hr.mono (j := 3) (by omega)
  have hr12 := hr.mono (j := 12) (by omega)
  refine ⟨_, (pss_cons (ps_par (i := 7) (j := 8) (by rfl) nd rfl rfl (by decide) rfl rfl (pa_cons (pe_cmpR op_eq (pe_call Gt hr1 (by rfl) T.g_law_take kpt bt .nil pass0 (pa_cons (pv 0) (pa_cons pe_int pa_nil))) pe_int (nomark _)) (pa_cons (pe_ix ix_list (pe_dget hu (pv 2) pe_str (fun _ _ => rfl)) (pe_call Gt hr1 (by rfl) T.g_law_take kpt bt .nil pass0 (pa_cons (pv 0) (pa_cons (pe_callB call_len_seq (by rfl) T.f_len PySem.boot_len (pa_cons (pe_dget hu (pv 2) pe_str (fun _ _ => rfl)) pa_nil)) pa_nil))) (fun _ _ => rfl)) pa_nil)) (by rfl))
 (C8.pss_cut (ps_if (PW.pt (pw_and (pt_cmpR op_eq (pe_op op_mod (pv 5) pe_int) pe_int (nomark _)) (pw_and1 (pt_val (pv 7)))))
 (pss_one (ps_expr (pe_meth0 (pv 4) T.cl_Trial T.me_Trial_keep Gk hr1 bk .nil pass0)))
 pss_nil)
 (C8.pss_cut (ps_if (pt_cmpR op_eq (pe_call Gt hr1 (by rfl) T.g_law_take kpt bt .nil pass0 (pa_cons (pv 0) (pa_cons pe_int pa_nil))) pe_int (nomark _))
 (pss_cons (ps_expr (pe_meth0 (pe_ix ix_list (pv 8) pe_int (fun _ _ => rfl)) T.cl_Trial T.me_Trial_keep Gk hr1 bk .nil pass0))
 (pss_one (ps_asg pe_bl (pg_sub (pv 8) pe_int set_list))))
 pss_nil)
 (C8.pss_cut (ps_if (PW.pt (pw_or (pt_cmpR (Ne.op_neSelf hu T.ne_Trial) (pv 4) (pv 3) (nomark _)) (pw_or1 (pt_not (pt_val (pe_call Gd hr (by rfl) T.g_law_deeds kpd bd .nil pass0 (pa_cons (pv 0) (pa_cons (pv 1) (pa_cons (pv 2) (pa_cons (pe_call Gt hr1 (by rfl) T.g_law_take kpt bt .nil pass0 (pa_cons (pv 0) (pa_cons pe_int pa_nil))) (pa_cons (pe_op op_add (pv 6) pe_int) pa_nil)))))))))))
 (pss_one (ps_dput hu (pv 2) pe_str pe_bl rfl))
 pss_nil)
 (C8.pss_cut (ps_if (PW.pt (pw_and (pt_cmpR op_eq (pe_op op_mod (pv 5) pe_int) pe_int (nomark _)) (pw_and1 (pt_not (pt_val (pv 7))))))
 (pss_one (ps_expr (pe_meth0 (pv 4) T.cl_Trial T.me_Trial_keep Gk hr1 bk .nil pass0)))
 pss_nil)
 (pss_cons (ps_dput hu (pv 2) pe_str (pe_ix ix_list (pe_lst (pa_cons pe_int (pa_cons (pe_tup (pa_cons pe_str (pa_cons pe_str pa_nil))) (pa_cons (pe_tup (pa_cons pe_str (pa_cons pe_str (pa_cons pe_int pa_nil)))) (pa_cons (pe_call Gu hr1 (by rfl) T.g_law_build_due kpu bu .nil pass0 (pa_cons (pv 2) pa_nil)) pa_nil))))) (pe_op op_fdiv (pv 5) pe_int) (fun _ _ => rfl)) rfl)
 (pss_cons (ps_if (pt_cmpR op_eq (pe_op op_fdiv (pv 5) pe_int) pe_int (nomark _))
 (pss_one (ps_expr (Ms.pe_methS (pv 1) T.cl_Workshop T.me_Workshop_drop Gr hr3 br (fun σ => passAt (takes_of rfl rfl rfl rfl) σ) (pa_cons pe_str pa_nil))))
 pss_nil)
 (pss_cons (ps_if (pt_cmpR op_eq (pe_op op_fdiv (pv 5) pe_int) pe_int (nomark _))
 (pss_one (ps_expr (Ms.pe_methS (pv 1) T.cl_Workshop T.me_Workshop_put Gp hr3 bp (fun σ => passAt (takes_of rfl rfl rfl rfl) σ) (pa_cons pe_str (pa_cons pe_str pa_nil)))))
 pss_nil)
 (pss_cons (ps_if (pt_cmpR op_eq (pe_op op_fdiv (pv 5) pe_int) pe_int (nomark _))
 (pss_one (ps_expr (Ms.pe_methS0 (pv 1) T.cl_Workshop T.me_Workshop_build Gb hr12 bb (fun σ => passAt (takes_of rfl rfl rfl rfl) σ))))
 pss_nil)
 (pss_one (ps_ret pe_int))))))))))), ?_⟩
  walk_at "rd"
  refine ⟨b, 2, rfl, by decide, by decide, S.S.box, fun dr c z n h0 h1 => ?_⟩
  have A0 : InA K b x s fl Pd Pb form H past es e H rows past told es e 0 := ⟨.refl _ _, .refl _, rfl, rfl, rfl, rfl, rfl, rfl, fun _ => hke, S, Nat.le_refl _⟩
  have A1 := A0.take (c := c) (z := z) (n := n)
  generalize (upd H b (.lst [.int c, .int z, .int n])) = H1 at A1 ⊢
  walk_at "rd"
  obtain ⟨rr, pp, o, hs1, hrr, hpp, ho⟩ := id A1.s.S.st
  refine Rd.dgetE hs1 rfl ?_
  walk_at "rd"
  have ll : ((opO (es ++ [e])).map V.ref).length = es.length + 1 := by simp [opO]
  rw [ll]
  refine ⟨b, _, rfl, by omega, by omega, A1.s.S.box, fun dj c z n g0 g1 => ?_⟩
  have A2 := A1.take (c := c) (z := z) (n := n)
  have hbo : b ≠ o := fun q => by
    obtain ⟨_, _, _, e⟩ := A1.s.S.box
    rw [q, ho] at e
    cases es <;> cases e
  have ho2 : (upd H1 b (.lst [.int c, .int z, .int n])) o = some (.lst ((opO (es ++ [e])).map V.ref)) := by rw [upd_ne (Ne.symm hbo)]; exact ho
  generalize (upd H1 b (.lst [.int c, .int z, .int n])) = H2 at A2 ho2 ⊢
  obtain ⟨j, ej⟩ : ∃ j : Nat, dj = (j : Int) := ⟨dj.toNat, (Int.toNat_of_nonneg g0).symm⟩
  subst ej
  have hj : j < (es ++ [e]).length := by rw [List.length_append]; simp; omega
  obtain ⟨eo, heo⟩ : ∃ eo, (es ++ [e])[j]? = some eo := ⟨_, List.getElem?_eq_getElem hj⟩
  refine Rd.ixl ho2 (v := .ref eo.o) (atI_nat (by rw [List.getElem?_map, List.getElem?_map, heo]; rfl)) ?_
  walk_at "rd"
  rw [dInt]
  generalize decide (dr = 0) = early
  -- its own keep, early
  refine Rd.cut (MidI K b x s fl Pd Pb form H past es e [some (.ref b), some (.ref x), some (.ref s), some (.ref e.t), some (.ref e.t), some (.int form), some (.int (3 - ((d + 1 : Nat) : Int))), some (.bl early), some (.ref eo.o)] (fun e' => early = true → form % 2 = 1 → e'.kept = true) 0) ?_ ?_
  · walk_at "rd"
    rw [dInt]
    refine ite2 (fun hc => ?_) (fun hc => ?_)
    · have hc := of_decide_eq_true hc
      walk_at "rd"
      refine ite2 (fun he => ?_) (fun he => ?_)
      · walk_at "rd"
        refine Rd.insE A2.tr rfl ?_
        walk_at "rd"
        exact ⟨_, x, _, _, _, _, _, rfl, A2.tr, rfl, rows, past, told, es, _, A2.own hc rfl, fun _ _ => rfl⟩
      · walk_at "rd"
        exact ⟨rfl, rows, past, told, es, e, A2, fun z => absurd z he⟩
    · have hc : ¬ form % 2 = 1 := fun z => hc (decide_eq_true z)
      walk_at "rd"
      exact ⟨rfl, rows, past, told, es, e, A2, fun _ z => absurd z hc⟩
  rintro σ' H3 ⟨rfl, rows3, past3, told3, es3, e3, A3, hk3⟩
  clear A2 A1 A0 ho2 hs1 ho hrr hpp
  -- the keep of one of the open blocks
  refine Rd.cut (MidI K b x s fl Pd Pb form H past es e [some (.ref b), some (.ref x), some (.ref s), some (.ref e.t), some (.ref e.t), some (.int form), some (.int (3 - ((d + 1 : Nat) : Int))), some (.bl early), some (.ref eo.o)] (fun e' => early = true → form % 2 = 1 → e'.kept = true) 0) ?_ ?_
  · walk_at "rd"
    refine ⟨b, 4, rfl, by decide, by decide, A3.s.S.box, fun d4 c z n f0 f1 => ?_⟩
    have A4 := A3.take (c := c) (z := z) (n := n)
    generalize (upd H3 b (.lst [.int c, .int z, .int n])) = H4 at A4 ⊢
    walk_at "rd"
    rw [dInt]
    refine ite2 (fun hc => ?_) (fun hc => ?_)
    · obtain ⟨ej, hej, eoj⟩ := A4.at_ heo
      have hli : H4 eo.o = some (.lst [.ref ej.t, .bl ej.flag]) := eoj ▸ A4.s.O.li ej (List.mem_of_getElem? hej)
      have htr : H4 ej.t = some (.ins (ga K "Trial") ej.dt (trF x (keptV ej.kept) (.ref ej.k0) (.ref ej.p0) ej.f0)) := A4.s.O.tr ej (List.mem_of_getElem? hej)
      have S5 := (A4.s.setK hej).setF (j := j) (e := { ej with kept := true }) (by rw [List.getElem?_set_self (List.getElem?_eq_some_iff.mp hej).1])
      rw [List.set_set] at S5
      have k5 : KeepN (MM b x s (es3 ++ [e3])) H4 (upd (upd H4 ej.t (.ins (ga K "Trial") ej.dt (trF x (.bl true) (.ref ej.k0) (.ref ej.p0) ej.f0))) ej.o (.lst [.ref ej.t, .bl true])) :=
        ((KeepN.refl _ _).put (List.mem_append.mpr (.inr (List.mem_append.mpr (.inr (List.mem_map_of_mem (f := fun e => e.t) (List.mem_of_getElem? hej))))))).put (List.mem_append.mpr (.inr (List.mem_append.mpr (.inl (List.mem_map_of_mem (f := fun e => e.o) (List.mem_of_getElem? hej))))))
      obtain ⟨es5, e5, A5, hk5⟩ := A4.up (g1 := 0) k5 (ups_set hej) S5 (Nat.le_refl _)
      have not_ : eo.o ≠ ej.t := fun z => by rw [z, htr] at hli; cases hli
      walk_at "rd"
      refine Rd.insE htr rfl ?_
      walk_at "rd"
      refine ⟨_, x, _, _, _, _, _, rfl, htr, ?_⟩
      walk_at "rd"
      refine Rd.setl (xs := [.ref ej.t, .bl ej.flag]) (by rw [upd_ne not_]; exact hli) rfl ?_
      rw [eoj] at A5
      exact ⟨rfl, _, _, _, es5, e5, A5, fun z1 z2 => hk5 (hk3 z1 z2)⟩
    · walk_at "rd"
      exact ⟨rfl, _, _, _, _, _, A4, hk3⟩
  rintro σ' H5 ⟨rfl, rows5, past5, told5, es5, e5, A5, hk5⟩
  clear A3
  -- the deeds within
  refine Rd.cut (MidI K b x s fl Pd Pb form H past es e [some (.ref b), some (.ref x), some (.ref s), some (.ref e.t), some (.ref e.t), some (.int form), some (.int (3 - ((d + 1 : Nat) : Int))), some (.bl early), some (.ref eo.o)] (fun e' => early = true → form % 2 = 1 → e'.kept = true) (5 * G d)) ?_ ?_
  · walk_at "rd"
    refine ⟨_, _, _, rfl, rfl, A5.tr, ?_⟩
    walk_at "rd"
    refine ⟨b, 6, rfl, by decide, by decide, A5.s.S.box, fun d6 c z n f0 f1 => ?_⟩
    have A6 := A5.take (c := c) (z := z) (n := n)
    generalize (upd H5 b (.lst [.int c, .int z, .int n])) = H6 at A6 ⊢
    walk_at "rd"
    obtain ⟨nn, en⟩ : ∃ nn : Nat, d6 = (nn : Int) := ⟨d6.toNat, (Int.toNat_of_nonneg f0).symm⟩
    subst en
    have hnn : nn * G d ≤ 5 * G d := Nat.mul_le_mul_right _ (by omega)
    have hl6 := A6.l
    have hle : es5.length = es.length := (Paired.length A6.u).symm
    refine ⟨b, x, s, nn, rows5, past5, fl, told5, es5 ++ [e5], ?_, by omega, A6.s, by omega, by rw [List.length_append, hle]; simp; omega, fun H7 rows7 past7 told7 es7 A7 => ?_⟩
    · have e1 : (3 : Int) - ((d + 1 : Nat) : Int) + 1 = 3 - (d : Int) := by omega
      rw [← e1]
      rfl
    · obtain ⟨es8, e8, A8, hk8⟩ := A6.up A7.k A7.u A7.s A7.l
      walk_at "rd"
      exact ⟨rfl, _, _, _, es8, e8, { A8 with l := by have := A8.l; omega }, fun z1 z2 => hk8 (hk5 z1 z2)⟩
  rintro σ' H7 ⟨rfl, rows7, past7, told7, es7, e7, A7, hk7⟩
  clear A5
  -- its own keep, late
  refine Rd.cut (MidI K b x s fl Pd Pb form H past es e [some (.ref b), some (.ref x), some (.ref s), some (.ref e.t), some (.ref e.t), some (.int form), some (.int (3 - ((d + 1 : Nat) : Int))), some (.bl early), some (.ref eo.o)] (fun e' => form % 2 = 1 → e'.kept = true) (5 * G d)) ?_ ?_
  · walk_at "rd"
    rw [dInt]
    refine ite2 (fun hc => ?_) (fun hc => ?_)
    · have hc := of_decide_eq_true hc
      walk_at "rd"
      cases early with
      | false =>
        walk_at "rd"
        refine Rd.insE A7.tr rfl ?_
        walk_at "rd"
        exact ⟨_, x, _, _, _, _, _, rfl, A7.tr, rfl, _, _, _, es7, _, A7.own hc A7.st, fun _ => rfl⟩
      | true =>
        walk_at "rd"
        exact ⟨rfl, _, _, _, _, _, A7, hk7 rfl⟩
    · have hc : ¬ form % 2 = 1 := fun z => hc (decide_eq_true z)
      walk_at "rd"
      exact ⟨rfl, _, _, _, _, _, A7, fun z => absurd z hc⟩
  rintro σ' H8 ⟨rfl, rows8, past8, told8, es8, e8, A8, hk8⟩
  clear A7
  walk_at "rd"
  intro p1 np1
  have A9 := A8.ext (.new (o := .tup [.str "unknown", .str "zzzzzz"]) np1)
  have hp1 : (upd H8 p1 (.tup [.str "unknown", .str "zzzzzz"])) p1 = some (.tup [.str "unknown", .str "zzzzzz"]) := upd_same
  generalize (upd H8 p1 (.tup [.str "unknown", .str "zzzzzz"])) = H9 at A9 hp1 ⊢
  walk_at "rd"
  intro p2 np2
  have e9 : Ext H9 (upd H9 p2 (.tup [.str "part", .str "name", .int 0])) := .new np2
  have A10 := A9.ext e9
  have hp1 := e9 _ _ hp1
  have hp2 : (upd H9 p2 (.tup [.str "part", .str "name", .int 0])) p2 = some (.tup [.str "part", .str "name", .int 0]) := upd_same
  generalize (upd H9 p2 (.tup [.str "part", .str "name", .int 0])) = H10 at A10 hp1 hp2 ⊢
  clear e9 A9 A8
  walk_at "rd"
  refine ⟨s, rows8, past8, fl, told8, _, rfl, A10.s.S.st, A10.s.S.ok, fun H11 p3 e11 hp3 => ?_⟩
  have A11 := A10.ext e11
  have hp1 := e11 _ _ hp1
  have hp2 := e11 _ _ hp2
  clear A10 e11
  walk_at "rd"
  intro q nq
  have e12 : Ext H11 (upd H11 q (.lst [.int 7, .ref p1, .ref p2, .ref p3])) := .new nq
  have A12 := A11.ext e12
  have hp1 := e12 _ _ hp1
  have hp2 := e12 _ _ hp2
  have hp3 := e12 _ _ hp3
  have hq : (upd H11 q (.lst [.int 7, .ref p1, .ref p2, .ref p3])) q = some (.lst [.int 7, .ref p1, .ref p2, .ref p3]) := upd_same
  generalize (upd H11 q (.lst [.int 7, .ref p1, .ref p2, .ref p3])) = H12 at A12 hp1 hp2 hp3 hq ⊢
  clear A11 e12
  obtain ⟨rr, pp, o, hs12, hrr, hpp, ho⟩ := id A12.s.S.st
  have hf2 : form / 2 = 0 ∨ form / 2 = 1 ∨ form / 2 = 2 ∨ form / 2 = 3 := by omega
  have fin : ∀ v : V, (upd H12 s (.dK (putK (stF rr pp fl told8 o) (.inr "told") v))) = upd H12 s (.dK (stF rr pp fl v o)) := fun v => rfl
  have up1 : ∀ {a : Addr} {xs : List V} {v : V}, H12 a = some (.tup xs) → (upd H12 s (.dK (stF rr pp fl v o))) a = some (.tup xs) := fun {a xs v} h => by
    rw [upd_ne (fun z => by rw [z, hs12] at h; cases h)]
    exact h
  have post : ∀ v : V, InA K b x s fl Pd Pb form H past es e (upd H12 s (.dK (stF rr pp fl v o))) rows8 past8 v es8 e8 (5 * G d) := fun v => by
    rw [← fin v]
    exact A12.tell hs12 v
  have hQ2 : ∀ (H' : Hp) (v : V), InA K b x s fl Pd Pb form H past es e H' rows8 past8 v es8 e8 (5 * G d) → (form ≤ 1 → v = .int 7 → Q (.int 7) H') ∧ (∀ cls dd, Ends_ K H' form v cls dd → E cls dd H') := fun H' v a =>
    hQ H' rows8 past8 v es8 e8 a.k a.u a.so a.st a.sd a.sk a.sp a.sf (fun z => a.fg (by omega)) (fun z => hk8 (by omega)) a.s a.l
  rcases hf2 with hf | hf | hf | hf
  all_goals
    walk_at "rd"
    rw [hf]
    refine Rd.ixl hq rfl ?_
    walk_at "rd"
    refine dputE' hs12 (by simp) rfl ?_
    walk_at "rd"
    rw [dInt, hf]
    walk_at "rd"
  · rw [show decide ((0 : Int) = 1) = false from rfl]
    walk_at "rd"
    rw [dInt, hf, show decide ((0 : Int) = 2) = false from rfl]
    walk_at "rd"
    rw [dInt, hf, show decide ((0 : Int) = 3) = false from rfl]
    walk_at "rd"
    exact (hQ2 _ _ (post (.int 7))).1 (by omega) rfl
  · rw [show decide ((1 : Int) = 1) = true from rfl]
    walk_at "rd"
    obtain ⟨dw, k, p, kp, hx, _⟩ := id (post (.ref p1)).s.S.ws
    refine Rd.insE hx rfl ?_
    walk_at "rd"
    refine ⟨x, "zzzzzz", rows8, past8, fl, rfl, (post (.ref p1)).s.S.ws, (post (.ref p1)).s.S.ok, by have := (post (.ref p1)).l; omega, fun hno dd H14 e14 hd14 => ?_, fun hin => absurd hin ((post (.ref p1)).s.S.ok.no (by decide))⟩
    exact (hQ2 _ _ ((post (.ref p1)).ext e14)).2 _ _ (.mk _ dd p1 [.str "unknown", .str "zzzzzz"] (by decide +kernel) (by omega) (.unknown _ _ hd14 rfl) rfl (e14 _ _ (up1 hp1)))
  · rw [show decide ((2 : Int) = 1) = false from rfl]
    walk_at "rd"
    rw [dInt, hf, show decide ((2 : Int) = 2) = true from rfl]
    walk_at "rd"
    obtain ⟨dw, k, p, kp, hx, _⟩ := id (post (.ref p2)).s.S.ws
    refine Rd.insE hx rfl ?_
    walk_at "rd"
    refine ⟨x, "A", "x", rows8, past8, fl, rfl, (post (.ref p2)).s.S.ws, (post (.ref p2)).s.S.ok, by have := (post (.ref p2)).l; omega, by decide, fun _ dd H14 e14 hd14 => ?_, fun hin => absurd hin (by decide)⟩
    exact (hQ2 _ _ ((post (.ref p2)).ext e14)).2 _ _ (.mk _ dd p2 [.str "part", .str "name", .int 0] (by decide +kernel) (by omega) (.part _ _ _ hd14 rfl rfl) rfl (e14 _ _ (up1 hp2)))
  · rw [show decide ((3 : Int) = 1) = false from rfl]
    walk_at "rd"
    rw [dInt, hf, show decide ((3 : Int) = 2) = false from rfl]
    walk_at "rd"
    rw [dInt, hf, show decide ((3 : Int) = 3) = true from rfl]
    walk_at "rd"
    obtain ⟨dw, k, p, kp, hx, _⟩ := id (post (.ref p3)).s.S.ws
    refine Rd.insE hx rfl ?_
    walk_at "rd"
    refine ⟨x, rows8, past8, fl, rfl, (post (.ref p3)).s.S.ws, (post (.ref p3)).s.S.ok, fun cls dd H14 e14 hd14 => ?_⟩
    exact (hQ2 _ _ ((post (.ref p3)).ext e14)).2 _ _ (.mk _ dd p3 _ due_ok (by omega) hd14 rfl (e14 _ _ (up1 hp3)))
end

end W72
-- D19a
set_option Elab.async false
set_option linter.all false
set_option maxRecDepth 100000
set_option maxHeartbeats 400000
namespace W72
open PySem PySem.Spec PyProof.Rows L2 Ft
local macro_rules | `(tactic| walk_at "rd") => `(tactic| (repeat (first
  | with_reducible refine Rd.seq ?_ | with_reducible refine Rd.asg ?_ | with_reducible refine Rd.var rfl ?_ | with_reducible refine Rd.con ?_ | with_reducible refine Rd.op ?_ | with_reducible refine Rd.gname ?_ | with_reducible refine Rd.gsub ?_
  | with_reducible refine Rd.ri0 ?_ | with_reducible refine Rd.mulL (by decide +kernel) ?_ | with_reducible refine Rd.mulR (by decide +kernel) ?_ | with_reducible refine Rd.modK (by decide +kernel) ?_ | with_reducible refine Rd.divK (by decide +kernel) ?_
  | with_reducible refine Rd.test ?_ | with_reducible refine Rd.bk ?_ | with_reducible refine Rd.cons ?_ | with_reducible refine Rd.nil ?_ | with_reducible refine Rd.ret ?_ | with_reducible refine Rd.retN ?_ | with_reducible refine Rd.ifs ?_
  | with_reducible refine Rd.nxt ?_ | with_reducible refine Rd.ixl (by first | assumption | exact upd_same) rfl ?_ | with_reducible refine Rd.setl (by first | assumption | exact upd_same) rfl ?_
  | with_reducible refine Rd.cb ?_ | with_reducible refine Rd.andT ?_ | with_reducible refine Rd.orT ?_ | with_reducible refine Rd.notT ?_ | with_reducible refine Rd.ifexp ?_ | with_reducible refine Rd.req rfl ?_ | with_reducible refine Rd.rne rfl ?_
  | with_reducible refine Rd.tup ?_ | with_reducible refine Rd.lst ?_ | with_reducible refine Rd.dget0 ?_ | with_reducible refine Rd.dput0 ?_ | with_reducible refine Rd.fld0 ?_ | with_reducible refine Rd.sfld0 ?_ | with_reducible refine Rd.sl ?_
  | with_reducible refine Rd.nopart ?_ | with_reducible refine Rd.part0 ?_ | with_reducible refine Rd.intE ?_ | with_reducible refine Rd.un ?_ | with_reducible refine Rd.ru ?_ | with_reducible refine Rd.expr ?_
  | with_reducible refine Rd.gcons ?_ | with_reducible refine Rd.gnil ?_ | with_reducible refine Rd.call ?_ | with_reducible refine lc_inT ?_ | with_reducible refine lc_inL ?_
  | with_reducible refine Rd.lenL (by assumption) ?_ | with_reducible refine Rd.lenT (by assumption) ?_ | with_reducible refine Rd.gtup (by assumption) rfl ?_
  | with_reducible refine Rd.dgetE (by first | assumption | exact upd_same) rfl ?_ | with_reducible refine Rd.dputE (by first | assumption | exact upd_same) (by decide) ?_
  | with_reducible refine Rd.line (by first | decide | simp) ?_ | with_reducible refine Rd.yes ?_ | with_reducible refine Rd.asg2 ?_ | with_reducible refine Rd.tupF ?_ | with_reducible refine Rd.meth0 ?_ | with_reducible refine Rd.prop0 ?_ | with_reducible refine mko ?_ | with_reducible refine Rd.ifNT ?_ | with_reducible refine Rd.ifNF ?_ | with_reducible refine Rd.tbE ?_ | with_reducible refine Rd.andV ?_ | with_reducible refine Rd.chain ?_ | with_reducible refine Rd.methS ?_ | with_reducible refine Rd.bm ?_ | with_reducible refine Rd.callS ?_ | with_reducible refine Rd.xf0 ?_ | with_reducible refine Rd.ifT ?_ | with_reducible refine Rd.ifF ?_ | with_reducible refine Rd.par ?_ | with_reducible refine Rd.parE ?_ | dsimp only [])))
local macro_rules | `(tactic| walk_at "hp") => `(tactic| (first | assumption | exact upd_same | grind [upd]))
/-! ### parts of _law_block -/
/-- not seen by the words of a reading -/
structure Hid (p : Prop) : Prop where
  get : p
/-- nothing is lost -/
def NL (H H' : Hp) : Prop := ∀ a, H' a = none → H a = none
theorem NL.refl (H : Hp) : NL H H := fun _ h => h
theorem NL.trans {H H1 H2 : Hp} (a : NL H H1) (b : NL H1 H2) : NL H H2 := fun c h => a c (b c h)
theorem NL.of {H H' : Hp} (e : Ext H H') : NL H H' := fun a h => by
  cases q : H a with
  | none => rfl
  | some o => rw [e a o q] at h; cases h
theorem NL.put {H H1 : Hp} {p : Addr} {o : HO} (n : NL H H1) : NL H (upd H1 p o) := fun a h => by
  by_cases e : a = p
  · rw [e, upd_same] at h; cases h
  · rw [upd_ne e] at h; exact n a h
theorem NL.keep {H H' : Hp} {M : List Addr} (k : Keep M H H') (m : MOk M H') : NL H H' := fun a h => by
  cases q : H a with
  | none => rfl
  | some o =>
    by_cases ha : a ∈ M
    · obtain ⟨u, e, _⟩ := m a ha
      rw [e] at h; cases h
    · rw [k a o q ha] at h; cases h
section
variable {K : PySem.W.Frag} {H H' H1 : Hp} {b x s Pd Pb t : Addr} {rows rows' rows1 : List Row} {past past' past1 : List (List Row)} {fl fl' : Int} {told told' told1 : V} {es es' es1 : List Opn} {g : Nat} {opens : List Addr}
theorem Sit.undo (S : Sit K H b x s rows past fl told opens) (k : Keep [x, s] H H') (w : WS K H' x (undoR fl rows past).1 (undoR fl rows past).2 fl) (z : ST H' s (undoR fl rows past).1 (undoR fl rows past).2 fl told opens) :
    Sit K H' b x s (undoR fl rows past).1 (undoR fl rows past).2 fl told opens ∧ (undoR fl rows past).2.length ≤ past.length := by
  have h : RowsOk (undoR fl rows past).1 ∧ (∀ r ∈ (undoR fl rows past).2, RowsOk r) ∧ (undoR fl rows past).2.length ≤ past.length := by
    unfold undoR
    split
    · next hc =>
      have hf := S.fl0
      have hne : past ≠ [] := fun z => by rw [z] at hc; simp at hc; omega
      refine ⟨?_, fun r hr => S.pok r (List.dropLast_subset _ hr), by show past.dropLast.length ≤ _; rw [List.length_dropLast]; omega⟩
      show RowsOk (past.getLast?.getD rows)
      rw [List.getLast?_eq_some_getLast hne]
      exact S.pok _ (List.getLast_mem hne)
    · exact ⟨S.ok, S.pok, Nat.le_refl _⟩
  refine ⟨⟨?_, w, z, h.1, h.2.1, S.fl0⟩, h.2.2⟩
  obtain ⟨c1, c2, c3, e⟩ := S.box
  exact ⟨c1, c2, c3, k _ _ e (by
    have h1 := box_ws S.box S.ws
    have h2 := box_st S.box S.st
    simpa using ⟨h1, h2⟩)⟩
/-- an object of its own is changed -/
theorem Sit2.other {o u : HO} (h : Sit2 K H b x s rows past fl told es Pd Pb) (ht : H t = some o) (mu : MuO o) (nt : t ∉ MM b x s es) : Sit2 K (upd H t u) b x s rows past fl told es Pd Pb := by
  have k : Keep [t] H (upd H t u) := (Keep.refl _ _).put List.mem_cons_self
  have m : MOk [t] H := mok1 ⟨o, ht, mu⟩
  have hn : ∀ a ∈ MM b x s es, a ≠ t := fun a ha z => nt (z ▸ ha)
  exact ⟨h.S.keepN k.n m (upd_ne (hn b (by simp))) (upd_ne (hn x (by simp))) (upd_ne (hn s (by simp))), h.O.keepN k.n (fun a ha z => hn a (List.mem_append.mpr (.inr ha)) (List.mem_singleton.mp z)), h.T.keep k m⟩
theorem Aft.other {o u : HO} (A : Aft K b x s fl Pd Pb H past es H1 rows1 past1 told1 es1 g) (ht : H1 t = some o) (mu : MuO o) (n0 : H t = none) (nt : t ∉ MM b x s es) : Aft K b x s fl Pd Pb H past es (upd H1 t u) rows1 past1 told1 es1 g :=
  ⟨A.k.new n0, A.u, A.s.other ht mu (by rw [MM, A.u.m]; exact nt), A.l⟩
end
/-- ahead of the with -/
structure Pre (K : PySem.W.Frag) (H : Hp) (b x s : Addr) (rows : List Row) (past : List (List Row)) (fl : Int) (told : V) (es : List Opn) (Pd Pb o t dt : Addr) (kv tx pt : V) (f0 : Int) (sv rr pp : Addr) : Prop where
  box : Box H b
  ws : WS K H x rows past fl
  st : ST H s rows past past.length told (opO es ++ [o])
  O : Ops K H x es
  T : TX H Pd Pb
  li : H o = some (.lst [.ref t, .bl false])
  tr : H t = some (.ins (ga K "Trial") dt (trF x kv tx pt f0))
  sv : H sv = some (.tup [.ref rr, .ref pp, .int fl])
  rl : RowsL H rr rows
  pl : PastL H pp past
section
variable {K : PySem.W.Frag} {H H' H1 : Hp} {b x s Pd Pb o t dt sv rr pp : Addr} {rows : List Row} {past : List (List Row)} {fl f0 : Int} {told kv tx pt : V} {es : List Opn}
theorem Pre.made (p : Pre K H b x s rows past fl told es Pd Pb o t dt kv tx pt f0 sv rr pp) (m : LamX.ExtN H H') (T' : TX H' Pd Pb) : Pre K H' b x s rows past fl told es Pd Pb o t dt kv tx pt f0 sv rr pp where
  box := let ⟨c, z, n, e⟩ := p.box; ⟨c, z, n, m _ _ e (fun _ q => by cases q)⟩
  ws := p.ws.keepN (M := []) (.mk m) .nil (ExtN.at_ m p.ws.mu)
  st := p.st.keepN (M := []) (.mk m) .nil (ExtN.at_ m p.st.mu)
  O := p.O.keepN (M := []) (.mk m) (fun _ _ z => nomatch z)
  T := T'
  li := m _ _ p.li (fun _ q => by cases q)
  tr := m _ _ p.tr (fun _ q => by cases q)
  sv := m _ _ p.sv (fun _ q => by cases q)
  rl := p.rl.keepN (M := []) (.mk m) .nil
  pl := p.pl.keepN (M := []) (.mk m) .nil
/-- the with is entered -/
theorem Pre.enter (p : Pre K H b x s rows past fl told es Pd Pb o t dt kv tx pt f0 sv rr pp) (ok : RowsOk rows) (pok : ∀ r ∈ past, RowsOk r) (no : o ∉ opO es) (nt : t ∉ MM b x s es) {dw k q kp : Addr} {ps : List V} (hx : H x = some (.ins (ga K "Workshop") dw (wsF k q fl kp))) (hq : H q = some (.tup ps))
    (kk : Keep [t, x] H H') (ht' : H' t = some (.ins (ga K "Trial") dt (trF x .non (.ref k) (.ref q) fl))) (hx' : H' x = some (.ins (ga K "Workshop") dw (wsF k q ps.length kp))) :
    Sit2 K H' b x s rows past past.length told (es ++ [⟨o, t, dt, k, q, fl, false, false⟩]) Pd Pb ∧ H' sv = some (.tup [.ref rr, .ref pp, .int fl]) ∧ RowsL H' rr rows ∧ PastL H' pp past ∧ KeptT H' k rows ∧ PastT H' q past := by
  have m : MOk [t, x] H := mok2 ⟨_, p.tr, True.intro⟩ p.ws.mu
  obtain ⟨dw2, k2, q2, kp2, hx2, hk2, ⟨as, hq2, pas⟩, hkp2⟩ := p.ws
  rw [hx] at hx2
  cases hx2
  have hk := hk2.keep kk m
  rw [hq] at hq2
  cases hq2
  have hln : (as.map V.ref).length = past.length := by rw [List.length_map, Paired.length pas]
  have hp : PastT H' q past := PastT.keep ⟨as, hq, pas⟩ kk m
  have hn : ∀ a ∈ MM b x s es, a ≠ t := fun a ha z => nt (z ▸ ha)
  have nxs := ws_st p.ws p.st
  have nbx := box_ws p.box p.ws
  have nlo : o ≠ t := fun z => by have := p.li; rw [z, p.tr] at this; cases this
  have nox : o ≠ x := fun z => by have := p.li; rw [z, hx] at this; cases this
  have hli : H' o = some (.lst [.ref t, .bl false]) := kk _ _ p.li (by simpa using ⟨nlo, nox⟩)
  refine ⟨⟨⟨?_, ?_, ?_, ok, pok, Int.natCast_nonneg _⟩, ?_, p.T.keep kk m⟩, kk.tup m p.sv, p.rl.keep kk m, p.pl.keep kk m, hk, hp⟩
  · obtain ⟨c, z, n, e⟩ := p.box
    exact ⟨c, z, n, kk _ _ e (by simpa using ⟨hn b (by simp), nbx⟩)⟩
  · rw [hln] at hx'
    exact ⟨dw, k, q, kp, hx', hk, hp, kk.d0 m hkp2⟩
  · have e : opO (es ++ [⟨o, t, dt, k, q, fl, false, false⟩]) = opO es ++ [o] := by
      show (es ++ [_]).map _ = _
      rw [List.map_append]
      rfl
    rw [e]
    obtain ⟨u, hu, _⟩ := p.st.mu
    exact p.st.keep kk m (by rw [hu]; exact kk _ _ hu (by simpa using ⟨hn s (by simp), Ne.symm nxs⟩))
  · have O' : Ops K H' x es := p.O.keepN kk.n (fun a ha z => by
      rcases List.mem_cons.mp z with z | z
      · exact hn a (List.mem_append.mpr (.inr ha)) z
      · rw [List.mem_singleton.mp z] at ha
        obtain ⟨u, hu, _⟩ := p.O.mu x ha
        rcases List.mem_append.mp ha with ha | ha
        · obtain ⟨e, he, q⟩ := List.mem_map.mp ha
          have hl : H e.o = _ := p.O.li e he
          rw [q, hx] at hl; cases hl
        · obtain ⟨e, he, q⟩ := List.mem_map.mp ha
          have hl : H e.t = _ := p.O.tr e he
          exact tr_ws hl hx q)
    refine ⟨fun e he => ?_, fun e he => ?_, ?_, ?_⟩
    · rcases List.mem_append.mp he with he | he
      · exact O'.li e he
      · rw [List.mem_singleton.mp he]; exact hli
    · rcases List.mem_append.mp he with he | he
      · exact O'.tr e he
      · rw [List.mem_singleton.mp he]; exact ht'
    · show ((es ++ [_]).map _).Nodup
      rw [List.map_append]
      refine List.nodup_append.mpr ⟨O'.no, by simp, fun a ha c hc z => no ?_⟩
      rw [List.map_cons, List.map_nil, List.mem_singleton] at hc
      have hc : c = o := hc
      rw [← hc, ← z]
      exact ha
    · show ((es ++ [_]).map _).Nodup
      rw [List.map_append]
      refine List.nodup_append.mpr ⟨O'.nt, by simp, fun a ha c hc z => nt ?_⟩
      rw [List.map_cons, List.map_nil, List.mem_singleton] at hc
      have hc : c = t := hc
      rw [← hc, ← z]
      exact List.mem_append.mpr (.inr (List.mem_append.mpr (.inr ha)))
end
/-- behind the with: rowsW, pastW stand in the workshop, rows, past in the state -/
structure Post (K : PySem.W.Frag) (H : Hp) (b x s : Addr) (rowsW : List Row) (pastW : List (List Row)) (rows : List Row) (past : List (List Row)) (fl fl' : Int) (told : V) (es : List Opn) (Pd Pb o t : Addr) (flag : Bool) (sv rr pp : Addr) (rowsS : List Row) (pastS : List (List Row)) : Prop where
  box : Box H b
  ws : WS K H x rowsW pastW fl
  st : ST H s rows past fl' told (opO es ++ [o])
  O : Ops K H x es
  T : TX H Pd Pb
  li : H o = some (.lst [.ref t, .bl flag])
  tr : ∃ dt fs, H t = some (.ins (ga K "Trial") dt fs)
  sv : H sv = some (.tup [.ref rr, .ref pp, .int fl])
  rl : RowsL H rr rowsS
  pl : PastL H pp pastS
section
variable {K : PySem.W.Frag} {H H' H1 : Hp} {b x s Pd Pb o t dt sv rr pp : Addr} {rowsW rows rowsS : List Row} {pastW past pastS : List (List Row)} {fl fl' : Int} {told : V} {es : List Opn} {flag : Bool}
theorem Post.ext (p : Post K H b x s rowsW pastW rows past fl fl' told es Pd Pb o t flag sv rr pp rowsS pastS) (e : Ext H H') : Post K H' b x s rowsW pastW rows past fl fl' told es Pd Pb o t flag sv rr pp rowsS pastS where
  box := let ⟨c, z, n, q⟩ := p.box; ⟨c, z, n, e _ _ q⟩
  ws := p.ws.ext e
  st := p.st.ext e
  O := p.O.keepN (M := []) (.of e) (fun _ _ z => nomatch z)
  T := p.T.keep (M := []) (.of e) .nil
  li := e _ _ p.li
  tr := let ⟨d, f, h⟩ := p.tr; ⟨d, f, e _ _ h⟩
  sv := e _ _ p.sv
  rl := p.rl.ext e
  pl := p.pl.ext e
/-- the with is left -/
theorem Post.leave {e : Opn} (S : Sit2 K H b x s rows past fl' told (es ++ [e]) Pd Pb) (hsv : H sv = some (.tup [.ref rr, .ref pp, .int fl])) (rl : RowsL H rr rowsS) (pl : PastL H pp pastS) (hk : KeptT H e.k0 rowsS) (hp : PastT H e.p0 pastS)
    {dw k q kp : Addr} (back : Bool) (hx : H x = some (.ins (ga K "Workshop") dw (wsF k q fl' kp))) (kk : Keep [x] H H') (hx' : H' x = some (.ins (ga K "Workshop") dw (if back then wsF e.k0 e.p0 fl kp else wsF k q fl kp))) :
    Post K H' b x s (if back then rowsS else rows) (if back then pastS else past) rows past fl fl' told es Pd Pb e.o e.t e.flag sv rr pp rowsS pastS := by
  have m : MOk [x] H := mok1 S.S.ws.mu
  have na := S.apart
  have nin : ∀ a ∈ opM (es ++ [e]), a ≠ x := fun a ha z => na a ha (by rw [z]; simp)
  have O2 : Ops K H' x (es ++ [e]) := S.O.keepN kk.n (fun a ha z => nin a ha (List.mem_singleton.mp z))
  obtain ⟨dw2, k2, q2, kp2, hx2, hk2, hq2, hkp2⟩ := S.S.ws
  rw [hx] at hx2
  cases hx2
  refine ⟨?_, ?_, ?_, ?_, S.T.keep kk m, O2.li e (by simp), ⟨_, _, O2.tr e (by simp)⟩, kk.tup m hsv, rl.keep kk m, pl.keep kk m⟩
  · obtain ⟨c, z, n, h⟩ := S.S.box
    exact ⟨c, z, n, kk _ _ h (by simpa using box_ws S.S.box S.S.ws)⟩
  · cases back with
    | true => exact ⟨dw, e.k0, e.p0, kp, hx', hk.keep kk m, hp.keep kk m, kk.d0 m hkp2⟩
    | false => exact ⟨dw, k, q, kp, hx', hk2.keep kk m, hq2.keep kk m, kk.d0 m hkp2⟩
  · have eo : opO (es ++ [e]) = opO es ++ [e.o] := by
      show (es ++ [e]).map _ = _
      rw [List.map_append]
      rfl
    rw [← eo]
    obtain ⟨u, hu, _⟩ := S.S.st.mu
    exact S.S.st.keep kk m (by rw [hu]; exact kk _ _ hu (by simpa using Ne.symm (ws_st S.S.ws S.S.st)))
  · have n1 : ((es ++ [e]).map (fun e => e.o)).Nodup := O2.no
    have n2 : ((es ++ [e]).map (fun e => e.t)).Nodup := O2.nt
    rw [List.map_append] at n1 n2
    exact ⟨fun a ha => O2.li a (List.mem_append.mpr (.inl ha)), fun a ha => O2.tr a (List.mem_append.mpr (.inl ha)), (List.nodup_append.mp n1).1, (List.nodup_append.mp n2).1⟩
end

end W72
-- D19
set_option Elab.async false
set_option linter.all false
set_option maxRecDepth 100000
set_option maxHeartbeats 400000
namespace W72
open PySem PySem.Spec PyProof.Rows L2 Ft
local macro_rules | `(tactic| walk_at "rd") => `(tactic| (repeat (first
  | with_reducible refine Rd.seq ?_ | with_reducible refine Rd.asg ?_ | with_reducible refine Rd.var rfl ?_ | with_reducible refine Rd.con ?_ | with_reducible refine Rd.op ?_ | with_reducible refine Rd.gname ?_ | with_reducible refine Rd.gsub ?_
  | with_reducible refine Rd.ri0 ?_ | with_reducible refine Rd.mulL (by decide +kernel) ?_ | with_reducible refine Rd.mulR (by decide +kernel) ?_ | with_reducible refine Rd.modK (by decide +kernel) ?_ | with_reducible refine Rd.divK (by decide +kernel) ?_
  | with_reducible refine Rd.test ?_ | with_reducible refine Rd.bk ?_ | with_reducible refine Rd.cons ?_ | with_reducible refine Rd.nil ?_ | with_reducible refine Rd.ret ?_ | with_reducible refine Rd.retN ?_ | with_reducible refine Rd.ifs ?_
  | with_reducible refine Rd.nxt ?_ | with_reducible refine Rd.ixl (by with_reducible assumption) rfl ?_ | with_reducible refine Rd.ixl upd_same rfl ?_ | with_reducible refine Rd.setl (by with_reducible assumption) rfl ?_ | with_reducible refine Rd.setl upd_same rfl ?_
  | with_reducible refine Rd.cb ?_ | with_reducible refine Rd.andT ?_ | with_reducible refine Rd.orT ?_ | with_reducible refine Rd.notT ?_ | with_reducible refine Rd.ifexp ?_ | with_reducible refine Rd.req rfl ?_ | with_reducible refine Rd.rne rfl ?_
  | with_reducible refine Rd.tup ?_ | with_reducible refine Rd.lst ?_ | with_reducible refine Rd.dget0 ?_ | with_reducible refine Rd.dput0 ?_ | with_reducible refine Rd.fld0 ?_ | with_reducible refine Rd.sfld0 ?_ | with_reducible refine Rd.sl ?_
  | with_reducible refine Rd.nopart ?_ | with_reducible refine Rd.part0 ?_ | with_reducible refine Rd.intE ?_ | with_reducible refine Rd.un ?_ | with_reducible refine Rd.ru ?_ | with_reducible refine Rd.expr ?_
  | with_reducible refine Rd.gcons ?_ | with_reducible refine Rd.gnil ?_ | with_reducible refine Rd.call ?_ | with_reducible refine lc_inT ?_ | with_reducible refine lc_inL ?_
  | with_reducible refine Rd.lenL (by with_reducible assumption) ?_ | with_reducible refine Rd.lenT (by with_reducible assumption) ?_ | with_reducible refine Rd.gtup (by with_reducible assumption) rfl ?_
  | with_reducible refine Rd.dgetE (by with_reducible assumption) rfl ?_ | with_reducible refine Rd.dgetE upd_same rfl ?_ | with_reducible refine Rd.dputE (by with_reducible assumption) (by decide) ?_ | with_reducible refine Rd.dputE upd_same (by decide) ?_
  | with_reducible refine Rd.line (by first | decide | simp) ?_ | with_reducible refine Rd.yes ?_ | with_reducible refine Rd.asg2 ?_ | with_reducible refine Rd.tupF ?_ | with_reducible refine Rd.meth0 ?_ | with_reducible refine Rd.prop0 ?_ | with_reducible refine mko ?_ | with_reducible refine Rd.ifNT ?_ | with_reducible refine Rd.ifNF ?_ | with_reducible refine Rd.tbE ?_ | with_reducible refine Rd.andV ?_ | with_reducible refine Rd.chain ?_ | with_reducible refine Rd.methS ?_ | with_reducible refine Rd.bm ?_ | with_reducible refine Rd.callS ?_ | with_reducible refine Rd.xf0 ?_ | with_reducible refine Rd.ifT ?_ | with_reducible refine Rd.ifF ?_ | with_reducible refine Rd.par ?_ | with_reducible refine Rd.parE ?_ | dsimp only [])))
local macro_rules | `(tactic| walk_at "hp") => `(tactic| (first | assumption | exact upd_same | grind [upd]))
/-! ### _law_block -/
section
variable {X : Cx}
/-- a name that is a cell -/
theorem pvc (i : Nat) {x : Str} {pos : Pos} (hN : X.N[i]? = some x := by rfl) (hv : Vis X.env.scope x := by exact Or.inr (Or.inl rfl)) (hd : (x == ("__debug__" : Str)) = false := by decide)
    (hcd : (x == ("__classdict__" : Str)) = false := by decide) : PE X (.Name x pos) (tVar i) := pe_var hN hv hd hcd
end
theorem pe_ex {X : Cx} {e : Expr} {α : Type} {t : α → TE} (h : ∀ a, PE X e (t a)) : PE X e (fun σ H Q => ∃ a, t a σ H Q) := ⟨fun pins s σ H Q I ⟨a, q⟩ => (h a).run pins s σ H Q I q⟩
theorem passAt0 {X : Cx} {σ : L2.St} {E : XK} : PassesAt CX0 X σ E := fun _ _ _ _ _ _ z => z.elim
section
variable {P : Program} {w : World} {K : PySem.W.Frag} {mg : Str → Option Value} {base : Heap}
/-- a def whose code object is known -/
theorem Def.mk0C {x : Str} {st : Stmt} {N ps : List Str} {k : Nat} {sp : Sp} (D : ∃ fd, Fun K x x st (ga K x) fd) (S : FnScope N ps (defScope st)) (len : ∀ vs H Q E, sp vs H Q E → vs.length = ps.length)
    (hb : ∀ (kV doc pm : Value) (an : Option Addr) (cdv ct : Value) (us : List Value), us.length = ps.length → bindArgs (PySem.W.fnOf x x (defArgs st) (defBody st) (defScope st) .none kV doc pm an cdv ct) ⟨us, []⟩ = pure (ps.zip us))
    (hbody : ∀ (A : Around) (outer : List Env) (s : Shared) (H : Hp) (vs : List V) (Q : VK) (E : XK), Room k (A.deeper (envOfC x (defScope st) s.heap.objs.size (ga K x) (.ref (He.codeOf K (x, none))))) → sp vs H Q E →
      ∃ t, PSs (cxOf CX0 P w K mg base N x (defScope st) (ga K x) (.ref (He.codeOf K (x, none))) A outer s H E).nox (defBody st) t ∧ t { nx := fun _ H' => Q .non H', rt := Q } (L2.start N vs) H) : Def P w K mg base CX0 (k + 1) (ga K x) ps sp := by
  obtain ⟨fd, F⟩ := D
  have F2 := F
  obtain ⟨oc, od, kV, doc, pm, an, cdv, ct, osl, rfl, lk, hcd⟩ := F.ex
  obtain ⟨c, rfl⟩ := He.codeIn_ref hcd
  have ec : He.codeOf K (x, none) = c := He.codeOf_eq lk rfl
  subst ec
  refine ⟨⟨_, fn_of lk hcd S len fun A outer s H vs Q E hr hsp => ?_, F2.binds hb⟩, F2.kp⟩
  obtain ⟨t, h, q⟩ := hbody A outer s H vs Q E hr hsp
  exact ⟨t, h.nox, q⟩
end
section
variable {P : Program} {w : World} {K : PySem.W.Frag} {mg : Str → Option Value} {base : Heap}
abbrev N_block : List Str := ["_law_box_here", "_law_workshop", "_law_state", "_law_deep", "_law_saved", "_law_told", "_law_form", "_law_block_here", "_law_mine"]
theorem sc_block : FnScope N_block ["_law_box_here", "_law_workshop", "_law_state", "_law_deep"] (defScope s_law_block) := ⟨rfl, rfl, rfl, by decide +kernel, rfl, by decide +kernel, by decide +kernel⟩
theorem told_ref {K : PySem.W.Frag} {H : Hp} {dd : Addr} {cls : Value} {vs : List V} (h : Told K H dd cls vs) : ∃ c, cls = .ref c := by
  cases h <;> exact ⟨_, rfl⟩
theorem Told.keep {K : PySem.W.Frag} {H H' : Hp} {dd x C dx : Addr} {fs : List (Str × V)} {cls : Value} {vs : List V} (h : Told K H dd cls vs) (hx : H x = some (.ins C dx fs)) (k : Keep [x] H H') : Told K H' dd cls vs := by
  have go : ∀ {gs : List (Str × V)}, H dd = some (.xd gs) → H' dd = some (.xd gs) := fun {gs} e => k _ _ e (fun z => by
    rw [List.mem_singleton.mp z, hx] at e
    cases e)
  cases h with
  | part w i fs e h1 h2 => exact .part w i fs (go e) h1 h2
  | program w p z fs e h1 h2 h3 => exact .program w p z fs (go e) h1 h2 h3
  | text l fs e h1 => exact .text l fs (go e) h1
  | unknown n fs e h1 => exact .unknown n fs (go e) h1
abbrev cB (K : PySem.W.Frag) : Addr := He.codeOf K ("_law_block", none)
def argLam : Stmt → Expr
  | .Assign _ (.Call _ [e] _ _) _ => e
  | _ => .Name "" ⟨0, 0, 0, 0⟩
def lamScope : Expr → Scope
  | .Lambda _ _ sc _ => sc
  | _ => defScope s_law_block
def lamBody : Expr → Expr
  | .Lambda _ b _ _ => b
  | e => e
def arg2 : Expr → Expr
  | .Call _ [_, e] _ _ => e
  | e => e
abbrev lamO : Expr := argLam ((defBody s_law_block).getD 6 (.Pass ⟨0, 0, 0, 0⟩))
abbrev scO : Scope := lamScope lamO
abbrev bodyO : Expr := lamBody lamO
abbrev lamI : Expr := arg2 bodyO
abbrev scI : Scope := lamScope lamI
abbrev bodyI : Expr := lamBody lamI
abbrev XB (P : Program) (w : World) (K : PySem.W.Frag) (mg : Str → Option Value) (base : Heap) (A : Around) (outer : List Env) (st : Shared) (H : Hp) (E : XK) : Cx :=
  (cxOf CX0 P w K mg base N_block "_law_block" (defScope s_law_block) (ga K "_law_block") (.ref (cB K)) A outer st H E).nox
theorem PE.imp {X : Cx} {e : Expr} {t t' : TE} (h : PE X e t) (i : ∀ σ H Q, t' σ H Q → t σ H Q) : PE X e t' := ⟨fun pins s σ H Q I q => h.run pins s σ H Q I (i _ _ _ q)⟩
/-- a code object made in the run, and its table -/
def SrcB (base : Heap) (mg : Str → Option Value) (c P : Addr) (H : Hp) : Prop := ∃ (c0 P0 : Addr) (q : Str), LamX.TabB base mg c0 P0 ∧ H c = some (Lx.CodeP c q P)
def tInner (K : PySem.W.Frag) (Pd Pb : Addr) (d : Nat) (E : XK) : TE := tCallS (spInside K Pd Pb d) (fun _ => E) (tCons (tVar 0) (tCons (tVar 1) (tCons (tVar 2) (tCons (tVar 7) (tCons (tVar 9) (tCons (tVar 6) (tCons (tVar 3) tNil)))))))
def tOuter (base : Heap) (mg : Str → Option Value) (K : PySem.W.Frag) (Pd Pb : Addr) (d : Nat) (c : Addr) (E : XK) : TE := fun σ H Q => ∃ P1 : Addr, tVar 7 σ H fun v H2 => SrcB base mg c P1 H2 ∧ Lx.tMade P1 qi H2 fun _ H3 => spLWithin K (fun E us H' Q' => tInner K Pd Pb d E (σ ++ us.map some) H' Q') [v] H3 Q E
theorem hq_b : ((("_law_block" : Str) ++ ".<locals>.") ++ "<lambda>" : Str) = qb := by decide +kernel
theorem hq_i : (((("_law_block" : Str) ++ ".<locals>." ++ "<lambda>") ++ ".<locals>.") ++ "<lambda>" : Str) = qi := by decide +kernel
set_option maxHeartbeats 1000000 in
theorem pe_outer (T : T72 K mg) {Pd Pb : Addr} {d L : Nat}
    (DI : Def P w K mg base (L2.CX P w) (L + 1) (ga K "_law_inside") ["_law_box_here", "_law_workshop", "_law_state", "_law_block_here", "_law_given", "_law_form", "_law_deep"] (spInside K Pd Pb d))
    (A : Around) (outer : List Env) (st : Shared) (H : Hp) (E : XK) (A1 : Around) (outer1 : List Env) (s1 : Shared) (H1 : Hp) (E1 : XK) (f1 c1 : Addr) (hr1 : Room (L + 3) (A1.deeper (LamX.lamEnv (XB P w K mg base A outer st H E) scO s1.heap.objs.size f1 c1))) :
    PE (Lx.lamCx (XB P w K mg base A outer st H E) A1 outer1 s1 H1 E1 scO [] f1 c1) bodyO (tOuter base mg K Pd Pb d c1 E1) := by
  obtain ⟨⟨fdi, Gi, bi⟩, kpi⟩ := DI
  obtain ⟨fdw, Fw⟩ := T.d_within
  have kpw := Fw.kp
  have bw := Fw.binds (ps := ["block", "call"]) (fun _ _ _ _ _ _ us hl => match us, hl with | [_, _], _ => rfl)
  obtain ⟨ocw, odw, kVw, docw, pmw, anw, cdvw, ctw, oslw, efw, lkw, hcw⟩ := Fw.ex
  subst efw
  have v0 : Vis scI "_law_box_here" := .inr (.inr (by decide +kernel))
  have v1 : Vis scI "_law_workshop" := .inr (.inr (by decide +kernel))
  have v2 : Vis scI "_law_state" := .inr (.inr (by decide +kernel))
  have v7 : Vis scI "_law_block_here" := .inr (.inr (by decide +kernel))
  have v9 : Vis scI "_law_given" := .inl (by decide +kernel)
  have v6 : Vis scI "_law_form" := .inr (.inr (by decide +kernel))
  have v3 : Vis scI "_law_deep" := .inr (.inr (by decide +kernel))
  have u7 : Vis scO "_law_block_here" := .inr (.inr (by decide +kernel))
  have lp : Lx.lamPB scO scI (N_block ++ []) ["_law_given"] = true := by decide +kernel
  refine pe_ex fun P1 => ?_
  refine PE.imp (Lx.pe_lamcall1 (X := Lx.lamCx (XB P w K mg base A outer st H E) A1 outer1 s1 H1 E1 scO [] f1 c1) (c := c1) (P := P1) (k := L + 1) (q := qi) (ps := ["_law_given"]) (scope := scI) (x := "within") (t := fun _ E => tInner K Pd Pb d E) (E := fun _ => E1)
    (by rfl) T.g_within kpw lkw hcw bw sc_within rfl (Or.inl rfl) (gv_within T qi _ _ (L + 1) (by omega)) rfl rfl hq_i hr1 (Lx.lamP_by lp) rfl (fun σ => passAt (takes_of rfl rfl rfl rfl) σ)
    (fun _ _ _ _ _ us hl => match us, hl with | [_], _ => rfl)
    (fun A2 outer2 s2 H2 E2 f2 c2 hr2 => pe_callS (E := fun _ => E2) Gi hr2 (by rfl) T.g_law_inside kpi bi (fun σ => passAt (takes_of rfl rfl rfl rfl) σ) (pa_cons (pe_var (i := 0) rfl v0) (pa_cons (pe_var (i := 1) rfl v1) (pa_cons (pe_var (i := 2) rfl v2) (pa_cons (pe_var (i := 7) rfl v7) (pa_cons (pe_var (i := 9) rfl v9) (pa_cons (pe_var (i := 6) rfl v6) (pa_cons (pe_var (i := 3) rfl v3) pa_nil))))))))
    (pe_var (i := 7) rfl u7)) fun σ H Q h => ?_
  obtain ⟨v, hv, ⟨c0, P0, q, hb, hc⟩, h⟩ := h
  exact ⟨v, hv, .run c0 P0 hb q hc, h⟩
set_option maxHeartbeats 4000000 in
theorem ok_block (T : T72 K mg) {Pd Pb : Addr} {d L : Nat} (hL : 13 ≤ L) (TB : LamX.TabB base mg (cB K) Pb)
    (DI : Def P w K mg base (L2.CX P w) (L + 1) (ga K "_law_inside") ["_law_box_here", "_law_workshop", "_law_state", "_law_block_here", "_law_given", "_law_form", "_law_deep"] (spInside K Pd Pb d)) :
    Def P w K mg base CX0 (L + 6) (ga K "_law_block") ["_law_box_here", "_law_workshop", "_law_state", "_law_deep"] (spBlock K Pd Pb d) := by
  obtain ⟨fdt, Gt, bt⟩ := (ok_take (P := P) (w := w) (base := base) T).ex
  have kpt := (ok_take (P := P) (w := w) (base := base) T).kp
  obtain ⟨fdr, Gr, br⟩ := (ok_trial (P := P) (w := w) (base := base) T).ex
  obtain ⟨fdk, Gk, bk⟩ := (ok_keep (P := P) (w := w) (base := base) T).ex
  obtain ⟨fdp, Gp, bp⟩ := (ok_lput (P := P) (w := w) (base := base) T).ex
  have kpp := (ok_lput (P := P) (w := w) (base := base) T).kp
  obtain ⟨fdu, Gu, bu⟩ := (ok_lundo (P := P) (w := w) (base := base) T).ex
  have kpu := (ok_lundo (P := P) (w := w) (base := base) T).kp
  obtain ⟨fdc, Fc⟩ := T.d_law_caught
  have kpc := Fc.kp
  have bc := Fc.binds (ps := ["_law_call"]) (fun _ _ _ _ _ _ us hl => match us, hl with | [_], _ => rfl)
  obtain ⟨occ, odc, kVc, docc, pmc, anc, cdvc, ctc, oslc, efc, lkc, hcc⟩ := Fc.ex
  subst efc
  have lp : Lx.lamPB (defScope s_law_block) scO N_block [] = true := by decide +kernel
  refine Def.mk0C T.d_law_block sc_block (fun vs H Q E h => ?_) (fun _ _ _ _ _ _ us hl => match us, hl with | [_, _, _, _], _ => rfl) (fun A outer st H vs Q E hr h => ?_)
  · obtain ⟨_, _, _, _, _, _, _, _, rfl, _⟩ := h
    rfl
  obtain ⟨b, x, s, rows, past, fl, told, es, rfl, S, hb, hd, hQ⟩ := h
  have nd := sc_block.nd
  have hu := hu_of hr
  have hr1 := hr.mono (j := 1) (by omega)
  have hr2 := hr.mono (j := 2) (by omega)
  have hr3 := hr.mono (j := 3) (by omega)
  have hr4 := hr.mono (j := 4) (by omega)
  refine ⟨_, (pss_cons (ps_asg (pe_tup (pa_cons (pe_call Gt hr1 (by rfl) T.g_law_take kpt bt .nil pass0 (pa_cons (pvc 0) (pa_cons pe_int pa_nil))) (pa_cons (pe_meth0 (pvc 1) T.cl_Workshop T.me_Workshop_trial Gr hr3 br .nil pass0) (pa_cons pe_non pa_nil)))) (pg_tup (by rfl) (pgs_cons (pg_name (i := 6) nd rfl (Or.inr rfl)) (pgs_cons (pg_name (i := 7) nd rfl (Or.inr rfl)) (pgs_cons (pg_name (i := 5) nd rfl (Or.inl rfl)) pgs_nil)))))
 (C8.pss_cut (ps_if (pt_cmpR op_eq (pe_call Gt hr1 (by rfl) T.g_law_take kpt bt .nil pass0 (pa_cons (pvc 0) (pa_cons pe_int pa_nil))) pe_int (nomark _))
 (pss_one (ps_expr (pe_meth0 (pvc 7) T.cl_Trial T.me_Trial_keep Gk hr1 bk .nil pass0)))
 pss_nil)
 (C8.pss_cut (ps_if (PW.pt (pw_or (pt_not (pt_val (pe_call Gp hr4 (by rfl) T.g_law_put kpp bp .nil pass0 (pa_cons (pvc 0) (pa_cons (pvc 1) (pa_cons (pvc 2) pa_nil)))))) (pw_or1 (PW.pt (pw_and (pt_cmpR op_eq (pe_call Gt hr1 (by rfl) T.g_law_take kpt bt .nil pass0 (pa_cons (pvc 0) (pa_cons pe_int pa_nil))) pe_int (nomark _)) (pw_and1 (pt_not (pt_val (pe_call Gu hr2 (by rfl) T.g_law_undo kpu bu .nil pass0 (pa_cons (pvc 1) (pa_cons (pvc 2) pa_nil)))))))))))
 (pss_one (ps_ret pe_bl))
 pss_nil)
 (pss_cons (ps_set (i := 4) nd rfl (Or.inl rfl) (pe_tup (pa_cons (pe_dget hu (pvc 2) pe_str (fun _ _ => rfl)) (pa_cons (pe_dget hu (pvc 2) pe_str (fun _ _ => rfl)) (pa_cons (pe_dget hu (pvc 2) pe_str (fun _ _ => rfl)) pa_nil)))))
 (pss_cons (ps_dput hu (pvc 2) pe_str (pe_callB call_len_seq (by rfl) T.f_len PySem.boot_len (pa_cons (pe_dget hu (pvc 2) pe_str (fun _ _ => rfl)) pa_nil)) rfl)
 (pss_cons (ps_dput hu (pvc 2) pe_str (pe_op op_cat (pe_dget hu (pvc 2) pe_str (fun _ _ => rfl)) (pe_lst (pa_cons (pe_lst (pa_cons (pvc 7) (pa_cons pe_bl pa_nil))) pa_nil))) rfl)
 (C8.pss_cut (ps_set (i := 5) nd rfl (Or.inl rfl)
   (Lx.pe_lamcall0 (X := XB P w K mg base A outer st H E) (c := cB K) (P := Pb) (k := L + 3) (q := qb) (scope := scO) (E := fun _ => E0) (t := tOuter base mg K Pd Pb d) (by rfl) T.g_law_caught kpc lkc hcc bc sc_caught rfl (Or.inl rfl) (gv_caught T qb _ _ (L + 3)) rfl rfl hq_b hr (Lx.lamP_by lp) rfl (fun _ => passAt0)
     (fun _ _ _ _ _ us hl => match us, hl with | [], _ => rfl) (pe_outer T DI A outer st H E)))
 (pss_cons (ps_asg (pe_tup (pa_cons (pe_ix ix_list (pe_dget hu (pvc 2) pe_str (fun _ _ => rfl)) (pe_un un_neg pe_int) (fun _ _ => rfl)) (pa_cons (pe_slice sl_list (pe_dget hu (pvc 2) pe_str (fun _ _ => rfl)) po_none (po_some (pe_un un_neg pe_int))) pa_nil))) (pg_tup (by rfl) (pgs_cons (pg_name (i := 8) nd rfl (Or.inl rfl)) (pgs_cons (pg_sub (pvc 2) pe_str (set_dict hu)) pgs_nil))))
 (C8.pss_cut (ps_if (PW.pt (pw_or (pt_cmpR op_gt (pvc 6) pe_int (nomark _)) (pw_or1 (PW.pt (pw_and (pt_cmpR op_eq (pvc 6) pe_int (nomark _)) (pw_and1 (pt_not (pt_val (pe_ix ix_list (pv 8) pe_int (fun _ _ => rfl))))))))))
 (pss_one (ps_asg (pe_tup (pa_cons (pe_ix ix_tup (pv 4) pe_int (fun _ _ => rfl)) (pa_cons (pe_ix ix_tup (pv 4) pe_int (fun _ _ => rfl)) pa_nil))) (pg_tup (by rfl) (pgs_cons (pg_sub (pvc 2) pe_str (set_dict hu)) (pgs_cons (pg_sub (pvc 2) pe_str (set_dict hu)) pgs_nil)))))
 pss_nil)
 (pss_cons (ps_dput hu (pvc 2) pe_str (pe_ix ix_tup (pv 4) pe_int (fun _ _ => rfl)) rfl)
 (pss_one (ps_ret (pe_and (pe_callB (C8.call_isC T.ins_Trial) (by rfl) T.f_isinstance (by decide +kernel) (pa_cons (pvc 7) (pa_cons (pe_glob (v := .ref (ga K "Trial")) (by rfl) T.g_Trial rfl) pa_nil))) (pe_one (pe_cmpR (op_eqD hr.units) (pv 5) (pe_dget hu (pvc 2) pe_str (fun _ _ => rfl)) (nomark _)))))))))))))))), ?_⟩
  have tin : ∀ {a : Addr}, H a = none → a ∉ MM b x s es := fun {a} h z => by
    obtain ⟨o, e, _⟩ := S.mok a z
    rw [h] at e; cases e
  walk_at "rd"
  refine ⟨b, 8, rfl, by decide, by decide, S.S.box, fun form c z n hf0 hf8 => ?_⟩
  have A0 : Aft K b x s fl Pd Pb H past es H rows past told es 0 := .refl S
  have A1 := A0.take (c := c) (z := z) (n := n)
  have N1 : NL H (upd H b (.lst [.int c, .int z, .int n])) := (NL.refl H).put
  generalize (upd H b (.lst [.int c, .int z, .int n])) = H1 at A1 N1 ⊢
  walk_at "rd"
  obtain ⟨dw, k, p, kp, hx1, _⟩ := id A1.s.S.ws
  refine Rd.insE hx1 rfl ?_
  walk_at "rd"
  refine ⟨x, rfl, fun H2 t dt e2 ex2 nt ht2 => ?_⟩
  have n0t : H t = none := N1 _ nt
  have A2 := A1.ext ex2
  have N2 := N1.trans (.of ex2)
  walk_at "rd"
  intro p1 np1
  refine Rd.gtup upd_same rfl ?_
  walk_at "rd"
  have ex3 : Ext H2 (upd H2 p1 (.tup [.int form, .ref t, .non])) := .new np1
  have A3 := A2.ext ex3
  have N3 := N2.trans (.of ex3)
  have ht3 := ex3 _ _ ht2
  generalize (upd H2 p1 (.tup [.int form, .ref t, .non])) = H3 at A3 N3 ht3 ⊢
  clear ex3 A2 A1 A0 ex2 hx1 N1 N2 ht2 np1 nt
  refine Rd.cut (fun σ' H' => σ' = [some (.ref b), some (.ref x), some (.ref s), some (.int (3 - ((d + 1 : Nat) : Int))), none, some .non, some (.int form), some (.ref t), none] ∧ ∃ (kv tx pt : V) (f0 : Int), Aft K b x s fl Pd Pb H past es H' rows past told es 0 ∧ H' t = some (.ins (ga K "Trial") dt (trF x kv tx pt f0)) ∧ NL H H') ?_ ?_
  · walk_at "rd"
    refine ⟨b, 4, rfl, by decide, by decide, A3.s.S.box, fun d4 c z n f0 f1 => ?_⟩
    have A4 := A3.take (c := c) (z := z) (n := n)
    have N4 : NL H (upd H3 b (.lst [.int c, .int z, .int n])) := N3.put
    have nbt : t ≠ b := fun q => by
      obtain ⟨_, _, _, e⟩ := A3.s.S.box
      rw [q, e] at ht3; cases ht3
    have ht4 := (upd_ne (H := H3) (o := .lst [.int c, .int z, .int n]) nbt).trans ht3
    generalize (upd H3 b (.lst [.int c, .int z, .int n])) = H4 at A4 N4 ht4 ⊢
    walk_at "rd"
    refine ite2 (fun hc => ?_) (fun hc => ?_)
    · walk_at "rd"
      refine Rd.insE ht4 rfl ?_
      walk_at "rd"
      exact ⟨t, x, dt, _, _, _, _, rfl, ht4, rfl, _, _, _, _, A4.other ht4 True.intro n0t (tin n0t), upd_same, N4.put⟩
    · walk_at "rd"
      exact ⟨rfl, _, _, _, _, A4, ht4, N4⟩
  rintro σ' H5 ⟨rfl, kv, tx, pt, f0, A5, ht5, N5⟩
  clear A3 N3 ht3
  refine Rd.cut (fun σ' H' => σ' = [some (.ref b), some (.ref x), some (.ref s), some (.int (3 - ((d + 1 : Nat) : Int))), none, some .non, some (.int form), some (.ref t), none] ∧ ∃ (rows' : List Row) (past' : List (List Row)), Aft K b x s fl Pd Pb H past es H' rows' past' told es 1 ∧ H' t = some (.ins (ga K "Trial") dt (trF x kv tx pt f0)) ∧ NL H H') ?_ ?_
  · walk_at "rd"
    have hb5 := A5.l
    have hG : 1 ≤ G (d + 1) := G_pos _
    refine ⟨b, x, s, rows, past, fl, told, opO es, rfl, A5.s.S, by omega, fun H6 rows6 past6 k6 S6 l6 => ?_⟩
    have tnin : t ∉ [b, x, s] := fun z => tin n0t (List.mem_append.mpr (.inl z))
    have ht6 := k6 _ _ ht5 tnin
    have N6 : NL H H6 := N5.trans (.keep k6 S6.mok)
    have A6 : Aft K b x s fl Pd Pb H past es H6 rows6 past6 told es 1 := (A5.trans (Aft.leaf A5.s k6 S6 l6)).mono (by omega)
    clear A5 k6 S6 l6 N5 ht5
    walk_at "rd"
    refine ⟨b, 4, rfl, by decide, by decide, A6.s.S.box, fun d4 c z n g0 g1 => ?_⟩
    have A7 := A6.take (c := c) (z := z) (n := n)
    have N7 : NL H (upd H6 b (.lst [.int c, .int z, .int n])) := N6.put
    have nbt : t ≠ b := fun q => tin n0t (by rw [q]; simp)
    have ht7 := (upd_ne (H := H6) (o := .lst [.int c, .int z, .int n]) nbt).trans ht6
    generalize (upd H6 b (.lst [.int c, .int z, .int n])) = H7 at A7 N7 ht7 ⊢
    walk_at "rd"
    refine ite2 (fun hc => ?_) (fun hc => ?_)
    · walk_at "rd"
      refine ⟨x, s, rows6, past6, fl, told, opO es, rfl, A7.s.S.ws, A7.s.S.st, A7.s.S.fl0, fun H8 k8 w8 s8 => ?_⟩
      obtain ⟨S8, l8⟩ := A7.s.S.undo k8 w8 s8
      walk_at "rd"
      exact ⟨rfl, _, _, (A7.trans (Aft.leaf (g := 0) A7.s (k8.mono (by simp)) S8 l8)).mono (by omega), k8 _ _ ht7 (fun z => tnin (List.mem_cons_of_mem _ z)), N7.trans (.keep (k8.mono (M' := [b, x, s]) (by simp)) S8.mok)⟩
    · walk_at "rd"
      exact ⟨rfl, _, _, A7, ht7, N7⟩
  rintro σ' H6 ⟨rfl, rows6, past6, A6, ht6, N6⟩
  clear A5 ht5 N5
  obtain ⟨rr, pp, o, hs6, hrr6, hpp6, ho6⟩ := id A6.s.S.st
  walk_at "rd"
  intro sv nsv
  have e7 : Ext H6 (upd H6 sv (.tup [.ref rr, .ref pp, .int fl])) := .new nsv
  have A7 := A6.ext e7
  have N7 := N6.trans (.of e7)
  have ht7 := e7 _ _ ht6
  have hs7 : Hid _ := ⟨e7 _ _ hs6⟩
  have rl7 := hrr6.ext e7
  have pl7 := hpp6.ext e7
  have ho7 := e7 _ _ ho6
  have hsv7 : (upd H6 sv (.tup [.ref rr, .ref pp, .int fl])) sv = some (.tup [.ref rr, .ref pp, .int fl]) := upd_same
  generalize (upd H6 sv (.tup [.ref rr, .ref pp, .int fl])) = H7 at A7 N7 ht7 hs7 rl7 pl7 ho7 hsv7 ⊢
  clear e7 A6 N6 ht6 hs6 hrr6 hpp6 ho6 nsv
  obtain ⟨as7, hpp7, pas7⟩ := id pl7
  have ll : (as7.map V.ref).length = past6.length := by rw [List.length_map, Paired.length pas7]
  walk_at "rd"
  refine Rd.dgetE hs7.get rfl ?_
  walk_at "rd"
  rw [ll]
  refine dputE' (kvs' := stF rr pp past6.length told o) hs7.get (by simp) rfl ?_
  have m7 : MOk [s] H7 := mok1 A7.s.S.st.mu
  have k8 : Keep [s] H7 (upd H7 s (.dK (stF rr pp past6.length told o))) := (Keep.refl _ _).put List.mem_cons_self
  have N8 : NL H (upd H7 s (.dK (stF rr pp past6.length told o))) := N7.put
  have ho8 := k8.refs m7 ho7
  have hs8 : Hid ((upd H7 s (.dK (stF rr pp past6.length told o))) s = some (.dK (stF rr pp past6.length told o))) := ⟨upd_same⟩
  generalize (upd H7 s (.dK (stF rr pp past6.length told o))) = H8 at k8 N8 ho8 hs8 ⊢
  walk_at "rd"
  refine Rd.dgetE hs8.get rfl ?_
  walk_at "rd"
  intro on non
  have n0o : H on = none := N8 _ non
  walk_at "rd"
  intro p2 np2
  have e9 : Ext H8 (upd H8 on (.lst [.ref t, .bl false])) := .new non
  have e10 : Ext H8 (upd (upd H8 on (.lst [.ref t, .bl false])) p2 (.lst [.ref on])) := e9.newL np2
  have hon : (upd (upd H8 on (.lst [.ref t, .bl false])) p2 (.lst [.ref on])) on = some (.lst [.ref t, .bl false]) := (Ext.new np2) _ _ upd_same
  have hp2 : (upd (upd H8 on (.lst [.ref t, .bl false])) p2 (.lst [.ref on])) p2 = some (.lst [.ref on]) := upd_same
  generalize (upd (upd H8 on (.lst [.ref t, .bl false])) p2 (.lst [.ref on])) = H10 at e10 hon hp2 ⊢
  clear np2 e9
  refine ⟨o, p2, _, _, rfl, rfl, e10 _ _ ho8, hp2, ?_, fun p3 np3 => ?_⟩
  · rw [List.length_map, List.length_map]
    show es.length + 1 ≤ sizeLine
    exact Nat.le_of_lt (small1000 (by omega))
  have e11 : Ext H8 (upd H10 p3 (.lst ((opO es).map V.ref ++ [.ref on]))) := e10.newL np3
  have hp3 : (upd H10 p3 (.lst ((opO es).map V.ref ++ [.ref on]))) p3 = some (.lst ((opO es ++ [on]).map V.ref)) := by rw [List.map_append]; exact upd_same
  have hon := (Ext.new (o := .lst ((opO es).map V.ref ++ [.ref on])) np3) _ _ hon
  generalize (upd H10 p3 (.lst ((opO es).map V.ref ++ [.ref on]))) = H11 at e11 hp3 hon ⊢
  clear e10 np3 hp2
  have hs11 : Hid _ := ⟨e11 _ _ hs8.get⟩
  walk_at "rd"
  refine dputE' (kvs' := stF rr pp past6.length told p3) hs11.get (by simp) rfl ?_
  have k12 : Keep [s] H7 (upd H11 s (.dK (stF rr pp past6.length told p3))) := (k8.trans (.of e11)).put List.mem_cons_self
  have nons : on ≠ s := fun z => by rw [z, hs8.get] at non; cases non
  have np3s : p3 ≠ s := fun z => by
    rw [z, hs11.get] at hp3; cases hp3
  have hon := (upd_ne (H := H11) (o := .dK (stF rr pp past6.length told p3)) nons).trans hon
  have hp3 := (upd_ne (H := H11) (o := .dK (stF rr pp past6.length told p3)) np3s).trans hp3
  have hs12 : (upd H11 s (.dK (stF rr pp past6.length told p3))) s = some (.dK (stF rr pp past6.length told p3)) := upd_same
  generalize (upd H11 s (.dK (stF rr pp past6.length told p3))) = H12 at k12 hon hp3 hs12 ⊢
  clear e11 hs11 hs8 ho8 N8 k8 hpp7 pas7
  have nts : t ≠ s := fun z => tin n0t (by rw [z]; simp)
  have PR : Pre K H12 b x s rows6 past6 fl told es Pd Pb on t dt kv tx pt f0 sv rr pp := by
    refine ⟨?_, A7.s.S.ws.keep k12 m7 ?_, ⟨rr, pp, p3, hs12, rl7.keep k12 m7, pl7.keep k12 m7, hp3⟩, A7.s.O.keepN k12.n (fun a ha z => A7.s.apart a ha (by rw [List.mem_singleton.mp z]; simp)), A7.s.T.keep k12 m7, hon, k12 _ _ ht7 (by simpa using nts), k12.tup m7 hsv7, rl7.keep k12 m7, pl7.keep k12 m7⟩
    · obtain ⟨c1, c2, c3, e⟩ := A7.s.S.box
      exact ⟨c1, c2, c3, k12 _ _ e (by simpa using box_st A7.s.S.box A7.s.S.st)⟩
    · obtain ⟨u, hu, _⟩ := A7.s.S.ws.mu
      rw [hu]
      exact k12 _ _ hu (by simpa using ws_st A7.s.S.ws A7.s.S.st)
  have KF : KeepN (MM b x s es) H H12 := A7.k.trans (k12.n.mono (by simp))
  have ok6 := A7.s.S.ok
  have pok6 := A7.s.S.pok
  have fl6 := A7.s.S.fl0
  have hl6 := A7.l
  have noO : on ∉ opO es := fun z => tin n0o (List.mem_append.mpr (.inr (List.mem_append.mpr (.inl z))))
  have nox : on ∉ [b, x, s] := fun z => tin n0o (List.mem_append.mpr (.inl z))
  clear A7 N7 ht7 hs7 ho7 rl7 pl7 hsv7 k12 hon hp3 hs12 m7
  generalize H12 = H1 at PR KF ⊢
  refine Rd.cut (fun σ' H' => ∃ (v : V) (rows7 : List Row) (past7 : List (List Row)) (told7 : V) (es7 : List Opn) (flag : Bool) (rowsW : List Row) (pastW : List (List Row)),
    σ' = [some (.ref b), some (.ref x), some (.ref s), some (.int (3 - ((d + 1 : Nat) : Int))), some (.ref sv), some v, some (.int form), some (.ref t), none] ∧ KeepN (MM b x s es) H H' ∧ Ups es es7 ∧
    Post K H' b x s rowsW pastW rows7 past7 fl past6.length told7 es7 Pd Pb on t flag sv rr pp rows6 past6 ∧ ((1 < form ∨ form = 0 ∧ flag = false) → rowsW = rows6 ∧ pastW = past6) ∧ (¬ (1 < form ∨ form = 0 ∧ flag = false) → rowsW = rows7 ∧ pastW = past7) ∧
    RowsOk rowsW ∧ (∀ r ∈ pastW, RowsOk r) ∧ pastW.length ≤ past.length + G (d + 1) ∧
    (v = .int 7 ∧ told7 = .int 7 ∨ ∃ (p1 p2 : Addr) (vs : List V), v = .ref p2 ∧ told7 = .ref p1 ∧ H' p1 = some (.tup vs) ∧ H' p2 = some (.tup vs) ∧ vs.all Qx.okV = true)) ?_ ?_
  · refine Rd.asg ?_
    refine ⟨.base TB, TI H1 Pd Pb, PR.T.b, fun H2 c1 P1 md hD hT => ?_⟩
    obtain ⟨T2, i2⟩ := PR.T.made_b md hD hT
    have PR2 := PR.made md.ext T2
    have KF2 := KF.trans (.mk md.ext)
    refine ⟨rfl, fun E1 Q1 hE1 hQ1 => ?_⟩
    refine ⟨P1, .ref t, rfl, ⟨_, _, _, TB, md.code⟩, fun _ => True, i2.2.2, fun H3 c2 P2 md2 _ hT3 => ?_⟩
    have T3 := T2.made_i i2 md2 hT3
    have PR3 := PR2.made md2.ext T3
    have KF3 := KF2.trans (.mk md2.ext)
    clear PR2 KF2 hT3 T2 i2 hT hD
    obtain ⟨dw, k, q, kp, hx3, hk3, ⟨as3, hq3, pas3⟩, hkp3⟩ := id PR3.ws
    refine ⟨t, x, dt, dw, k, q, kp, kv, tx, pt, f0, fl, _, rfl, PR3.tr, hx3, hq3, fun H4 k4 ht4 hx4 E2 Q2 hE2 hQ2 => ?_⟩
    obtain ⟨S4, hsv4, rl4, pl4, hk4, hq4⟩ := PR3.enter ok6 pok6 noO (tin n0t) hx3 hq3 k4 ht4 hx4
    have KF4 : KeepN (MM b x s es) H H4 := KF3.transN (F := [t]) (k4.n.mono (by simp)) (by simpa using n0t)
    have m4 := S4.mok
    show tInner K Pd Pb d E2 _ H4 Q2
    refine Rd.callS ?_
    walk_at "rd"
    refine ⟨b, x, s, form, rows6, past6, past6.length, told, es, ⟨on, t, dt, k, q, fl, false, false⟩, rfl, hf0, hf8, S4, ?_, hd, rfl, fun H5 rows7 past7 told7 es7 e7 k5 u5 so st5 sd sk sp sf fg0 fg1 S5 l5 => ?_⟩
    · have : G (d + 1) = 1 + 5 * G d := rfl
      omega
    have KF5 : KeepN (MM b x s es) H H5 := KF4.transN (F := [on, t]) (k5.mono (fun a ha => by
      simp only [MM, opM, opO, opT, List.map_append, List.map_cons, List.map_nil, List.mem_append, List.mem_cons, List.not_mem_nil, or_false] at ha ⊢
      rcases ha with h | (h | h) | (h | h)
      · exact .inl (.inl h)
      · exact .inl (.inr (.inl h))
      · exact .inr (.inl h)
      · exact .inl (.inr (.inr h))
      · exact .inr (.inr h))) (by
      intro y hy
      rcases List.mem_cons.mp hy with z | hy
      · rw [z]; exact n0o
      · rw [List.mem_singleton.mp hy]; exact n0t)
    have hsv5 := k5.tup m4 hsv4
    have rl5 := rl4.keepN k5 m4
    have pl5 := pl4.keepN k5 m4
    have hk5 : KeptT H5 e7.k0 rows6 := by rw [sk]; exact hk4.keepN k5 m4
    have hq5 : PastT H5 e7.p0 past6 := by rw [sp]; exact hq4.keepN k5 m4
    obtain ⟨dw5, k5', q5', kp5, hx5, _⟩ := id S5.S.ws
    have ht5 : H5 t = some (.ins (ga K "Trial") e7.dt (trF x (keptV e7.kept) (.ref e7.k0) (.ref e7.p0) fl)) := by
      have h : H5 e7.t = some (.ins (ga K "Trial") e7.dt (trF x (keptV e7.kept) (.ref e7.k0) (.ref e7.p0) e7.f0)) := S5.O.tr e7 (by simp)
      rw [st5, sf] at h
      exact h
    have l7 : past7.length ≤ past.length + G (d + 1) := by
      have : G (d + 1) = 1 + 5 * G d := rfl
      omega
    have l6 : past6.length ≤ past.length + G (d + 1) := by
      have : 1 ≤ G (d + 1) := G_pos _
      omega
    refine ⟨fun hf7 ht7 => ?_, fun cls dd hE => ?_⟩
    · refine hQ2 _ _ ⟨e7.dt, dw5, k5', q5', kp5, e7.k0, e7.p0, e7.kept, fl, past6.length, ht5, hx5, fun H6 k6 hx6 => hQ1 _ _ ?_⟩
      have PO := Post.leave (back := !e7.kept) (fl := fl) S5 hsv5 rl5 pl5 hk5 hq5 hx5 k6 (by
        rw [hx6]
        cases e7.kept <;> rfl)
      rw [so, st5] at PO
      refine Rd.gname ?_
      refine ⟨.int 7, rows7, past7, told7, es7, e7.flag, _, _, rfl, KF5.trans (k6.n.mono (by simp)), u5, PO, fun hc => ?_, fun hc => ?_, ?_, ?_, ?_, .inl ⟨rfl, ht7⟩⟩
      · have hk : e7.kept = false := by
          rcases hc with hc | ⟨h1, h2⟩
          · omega
          · rw [fg0 h1, h2]
        rw [hk]
        exact ⟨rfl, rfl⟩
      · have hk : e7.kept = true := by
          have hc1 : form = 0 ∨ form = 1 := by omega
          rcases hc1 with h1 | h1
          · rw [fg0 h1]
            cases hh : e7.flag with
            | true => rfl
            | false => exact absurd (.inr ⟨h1, hh⟩) hc
          · exact fg1 h1
        rw [hk]
        exact ⟨rfl, rfl⟩
      · cases e7.kept
        · exact ok6
        · exact S5.S.ok
      · cases e7.kept
        · exact pok6
        · exact S5.S.pok
      · cases e7.kept
        · exact l6
        · exact l7
    · cases hE with
      | mk dd' p vs okv hf ht e hp =>
        obtain ⟨cc, rfl⟩ := told_ref ht
        refine hE2 _ _ _ ⟨cc, e7.dt, dw5, k5', q5', kp5, e7.k0, e7.p0, e7.kept, fl, past6.length, rfl, ht5, hx5, fun H6 k6 hx6 => hE1 _ _ _ ?_⟩
        have PO := Post.leave (back := true) (fl := fl) S5 hsv5 rl5 pl5 hk5 hq5 hx5 k6 hx6
        rw [so, st5] at PO
        refine ⟨dd', vs, rfl, ht.keep hx5 k6, fun p' np' => ?_⟩
        refine Rd.gname ?_
        have e8 : Ext H6 (upd H6 p' (.tup vs)) := .new np'
        refine ⟨.ref p', rows7, past7, told7, es7, e7.flag, rows6, past6, rfl, (KF5.trans (k6.n.mono (by simp))).trans (.of e8), u5, PO.ext e8, fun _ => ⟨rfl, rfl⟩, fun hc => absurd (.inl hf) hc, ok6, pok6, l6, .inr ⟨p, p', vs, rfl, e, e8 _ _ (k6.tup (mok1 S5.S.ws.mu) hp), upd_same, okv⟩⟩
  clear PR KF
  rintro σ' H7 ⟨v, rows7, past7, told7, es7, flag, rowsW, pastW, rfl, KF7, u7, PO, c1, c2, okW, pokW, lW, hv⟩
  obtain ⟨r7, p7, o7, hs7, hrr7, hpp7, ho7⟩ := id PO.st
  replace hs7 : Hid _ := ⟨hs7⟩
  have m7 : MOk [s] H7 := mok1 PO.st.mu
  rw [List.map_append] at ho7
  have ho7 : H7 o7 = some (.lst ((opO es7).map V.ref ++ [.ref on])) := ho7
  walk_at "rd"

  refine Rd.dgetE hs7.get rfl ?_
  walk_at "rd"
  refine Rd.ixl ho7 (atI_last _ _) ?_
  walk_at "rd"
  refine Rd.dgetE hs7.get rfl ?_
  walk_at "rd"
  refine ⟨o7, _, rfl, .of ho7, fun q nq => ?_⟩
  rw [cut_last]
  walk_at "rd"
  intro p1 np1
  have e8 : Ext H7 (upd (upd H7 q (.lst ((opO es7).map V.ref))) p1 (.tup [.ref on, .ref q])) := (Ext.new nq).newL np1
  refine Rd.gtup (xs := [.ref on, .ref q]) upd_same rfl ?_
  walk_at "rd"
  refine setdE (K := K) (kvs' := stF r7 p7 past6.length told7 q) (e8 _ _ hs7.get) (by simp) rfl ?_
  have k8 : Keep [s] H7 (upd (upd (upd H7 q (.lst ((opO es7).map V.ref))) p1 (.tup [.ref on, .ref q])) s (.dK (stF r7 p7 past6.length told7 q))) := (Keep.of e8).put List.mem_cons_self
  have hqs : q ≠ s := fun z => by rw [z, hs7.get] at nq; cases nq
  have hq8 : (upd (upd (upd H7 q (.lst ((opO es7).map V.ref))) p1 (.tup [.ref on, .ref q])) s (.dK (stF r7 p7 past6.length told7 q))) q = some (.lst ((opO es7).map V.ref)) := by
    rw [upd_ne hqs]
    exact (Ext.new np1) _ _ upd_same
  have hs8 : Hid ((upd (upd (upd H7 q (.lst ((opO es7).map V.ref))) p1 (.tup [.ref on, .ref q])) s (.dK (stF r7 p7 past6.length told7 q))) s = some (.dK (stF r7 p7 past6.length told7 q))) := ⟨upd_same⟩
  generalize (upd (upd (upd H7 q (.lst ((opO es7).map V.ref))) p1 (.tup [.ref on, .ref q])) s (.dK (stF r7 p7 past6.length told7 q))) = H8 at k8 hq8 hs8 ⊢
  clear e8 np1
  have nqt : ∀ {a : Addr} {o : HO}, H7 a = some o → a ≠ q := fun {a o} h z => by rw [z, nq] at h; cases h
  have nons : on ≠ s := fun z => by have := PO.li; rw [z, hs7.get] at this; cases this
  have nts : t ≠ s := fun z => by obtain ⟨_, _, h⟩ := PO.tr; rw [z, hs7.get] at h; cases h
  walk_at "rd"
  refine Rd.cut (fun σ' H' => σ' = [some (.ref b), some (.ref x), some (.ref s), some (.int (3 - ((d + 1 : Nat) : Int))), some (.ref sv), some v, some (.int form), some (.ref t), some (.ref on)] ∧ ∃ ra pa : Addr, Keep [s] H7 H' ∧ H' s = some (.dK (stF ra pa past6.length told7 q)) ∧ H' q = some (.lst ((opO es7).map V.ref)) ∧ RowsL H7 ra rowsW ∧ PastL H7 pa pastW) ?_ ?_
  · have back : (1 < form ∨ form = 0 ∧ flag = false) → ((tAsg (tTup (tCons (tOp (rIxT K) (tVar 4) (tC (.int 0))) (tCons (tOp (rIxT K) (tVar 4) (tC (.int 1))) tNil))) (gTup K 2 (gCons (gSub (tVar 2) (tC (.str "rows")) rSetD) (gCons (gSub (tVar 2) (tC (.str "past")) rSetD) gNil)))) : TS)
        { nx := fun σ' H' => σ' = [some (.ref b), some (.ref x), some (.ref s), some (.int (3 - ((d + 1 : Nat) : Int))), some (.ref sv), some v, some (.int form), some (.ref t), some (.ref on)] ∧ ∃ ra pa : Addr, Keep [s] H7 H' ∧ H' s = some (.dK (stF ra pa past6.length told7 q)) ∧ H' q = some (.lst ((opO es7).map V.ref)) ∧ RowsL H7 ra rowsW ∧ PastL H7 pa pastW, rt := Q }
        [some (.ref b), some (.ref x), some (.ref s), some (.int (3 - ((d + 1 : Nat) : Int))), some (.ref sv), some v, some (.int form), some (.ref t), some (.ref on)] H8 := fun hc => by
      have hsv8 := k8.tup m7 PO.sv
      walk_at "rd"
      refine Rd.ixt hsv8 (v := .ref rr) rfl ?_
      walk_at "rd"
      refine Rd.ixt hsv8 (v := .ref pp) rfl ?_
      walk_at "rd"
      intro p2 np2
      have e9 : Ext H8 (upd H8 p2 (.tup [.ref rr, .ref pp])) := .new np2
      refine Rd.gtup (xs := [.ref rr, .ref pp]) upd_same rfl ?_
      walk_at "rd"
      refine setdE (K := K) (kvs' := stF rr p7 past6.length told7 q) (e9 _ _ hs8.get) (by simp) rfl ?_
      walk_at "rd"
      refine setdE (K := K) (kvs' := stF rr pp past6.length told7 q) upd_same (by simp) rfl ?_
      rw [upd_upd]
      walk_at "rd"
      refine ⟨rfl, rr, pp, (k8.trans (.of e9)).put List.mem_cons_self, upd_same, by rw [upd_ne hqs]; exact e9 _ _ hq8, ?_, ?_⟩
      · rw [(c1 hc).1]; exact PO.rl
      · rw [(c1 hc).2]; exact PO.pl
    have stay : ¬ (1 < form ∨ form = 0 ∧ flag = false) → (∃ ra pa : Addr, Keep [s] H7 H8 ∧ H8 s = some (.dK (stF ra pa past6.length told7 q)) ∧ H8 q = some (.lst ((opO es7).map V.ref)) ∧ RowsL H7 ra rowsW ∧ PastL H7 pa pastW) := fun hc => by
      refine ⟨r7, p7, k8, hs8.get, hq8, ?_, ?_⟩
      · rw [(c2 hc).1]; exact hrr7
      · rw [(c2 hc).2]; exact hpp7
    walk_at "rd"
    refine ite2 (fun hc => ?_) (fun hc => ?_)
    · have hc : 1 < form := of_decide_eq_true hc
      exact Rd.ifT (back (.inl hc))
    · have hc : ¬ 1 < form := fun z => hc (decide_eq_true z)
      walk_at "rd"
      rw [dInt]
      refine ite2 (fun h0 => ?_) (fun h0 => ?_)
      · have h0 : form = 0 := of_decide_eq_true h0
        have hli8 : H8 on = some (.lst [.ref t, .bl flag]) := k8 _ _ PO.li (by simpa using nons)
        walk_at "rd"
        cases flag with
        | false =>
          exact Rd.ifNF (back (.inr ⟨h0, rfl⟩))
        | true =>
          walk_at "rd"
          exact ⟨rfl, stay (fun z => by
            rcases z with z | ⟨_, z⟩
            · exact hc z
            · cases z)⟩
      · have h0 : ¬ form = 0 := fun z => h0 (decide_eq_true z)
        walk_at "rd"
        exact ⟨rfl, stay (fun z => by
            rcases z with z | ⟨z, _⟩
            · exact hc z
            · exact h0 z)⟩
  rintro σ' H9 ⟨rfl, ra, pa, k9, hs9, hq9, hra, hpa⟩
  clear hq8 hs8 k8
  replace hs9 : Hid _ := ⟨hs9⟩
  have hsv9 := k9.tup m7 PO.sv
  walk_at "rd"
  refine Rd.ixt hsv9 (v := .int fl) rfl ?_
  walk_at "rd"
  refine dputE' (kvs' := stF ra pa fl told7 q) hs9.get (by simp) rfl ?_
  have k10 : Keep [s] H7 (upd H9 s (.dK (stF ra pa fl told7 q))) := k9.put List.mem_cons_self
  have hq10 := (upd_ne (H := H9) (o := .dK (stF ra pa fl told7 q)) hqs).trans hq9
  have hs10 : Hid ((upd H9 s (.dK (stF ra pa fl told7 q))) s = some (.dK (stF ra pa fl told7 q))) := ⟨upd_same⟩
  generalize (upd H9 s (.dK (stF ra pa fl told7 q))) = H10 at k10 hq10 hs10 ⊢
  clear k9 hs9 hq9 hsv9
  walk_at "rd"
  obtain ⟨dt7, fs7, htr7⟩ := PO.tr
  refine ⟨t, dt7, fs7, rfl, k10 _ _ htr7 (by simpa using nts), ?_⟩
  walk_at "rd"
  refine Rd.dgetE hs10.get rfl ?_
  have hfin : Q (.bl true) H10 := by
    refine hQ H10 rowsW pastW told7 es7 ⟨KF7.trans (k10.n.mono (by simp)), u7, ⟨⟨?_, PO.ws.keep k10 m7 ?_, ⟨ra, pa, q, hs10.get, hra.keep k10 m7, hpa.keep k10 m7, hq10⟩, okW, pokW, fl6⟩, PO.O.keepN k10.n (fun a ha z => ?_), PO.T.keep k10 m7⟩, lW⟩
    · obtain ⟨c1, c2, c3, e⟩ := PO.box
      exact ⟨c1, c2, c3, k10 _ _ e (by simpa using box_st PO.box PO.st)⟩
    · obtain ⟨u, hu, _⟩ := PO.ws.mu
      rw [hu]
      exact k10 _ _ hu (by simpa using ws_st PO.ws PO.st)
    · rw [List.mem_singleton.mp z] at ha
      rcases List.mem_append.mp ha with ha | ha
      · obtain ⟨e, he, qq⟩ := List.mem_map.mp ha
        have hl : H7 e.o = _ := PO.O.li e he
        rw [qq, hs7.get] at hl; cases hl
      · obtain ⟨e, he, qq⟩ := List.mem_map.mp ha
        have hl : H7 e.t = _ := PO.O.tr e he
        rw [qq, hs7.get] at hl; cases hl
  rcases hv with ⟨rfl, rfl⟩ | ⟨p1, p2, vs, rfl, rfl, h1, h2, okv⟩
  · exact Qx.eqF rfl hfin
  · exact Qx.eqT (.of (k10.tup m7 h2)) (.of (k10.tup m7 h1)) okv hfin
end

end W72
-- D20
set_option Elab.async false
set_option linter.all false
set_option maxRecDepth 100000
set_option maxHeartbeats 400000
namespace W72
open PySem PySem.Spec PyProof.Rows L2 Ft
local macro_rules | `(tactic| walk_at "rd") => `(tactic| (repeat (first
  | with_reducible refine Rd.seq ?_ | with_reducible refine Rd.asg ?_ | with_reducible refine Rd.var rfl ?_ | with_reducible refine Rd.con ?_ | with_reducible refine Rd.op ?_ | with_reducible refine Rd.gname ?_ | with_reducible refine Rd.gsub ?_
  | with_reducible refine Rd.ri0 ?_ | with_reducible refine Rd.mulL (by decide +kernel) ?_ | with_reducible refine Rd.mulR (by decide +kernel) ?_ | with_reducible refine Rd.modK (by decide +kernel) ?_ | with_reducible refine Rd.divK (by decide +kernel) ?_
  | with_reducible refine Rd.test ?_ | with_reducible refine Rd.bk ?_ | with_reducible refine Rd.cons ?_ | with_reducible refine Rd.nil ?_ | with_reducible refine Rd.ret ?_ | with_reducible refine Rd.retN ?_ | with_reducible refine Rd.ifs ?_
  | with_reducible refine Rd.nxt ?_ | with_reducible refine Rd.ixl (by with_reducible assumption) rfl ?_ | with_reducible refine Rd.ixl upd_same rfl ?_ | with_reducible refine Rd.setl (by with_reducible assumption) rfl ?_ | with_reducible refine Rd.setl upd_same rfl ?_
  | with_reducible refine Rd.cb ?_ | with_reducible refine Rd.andT ?_ | with_reducible refine Rd.orT ?_ | with_reducible refine Rd.notT ?_ | with_reducible refine Rd.ifexp ?_ | with_reducible refine Rd.req rfl ?_ | with_reducible refine Rd.rne rfl ?_
  | with_reducible refine Rd.tup ?_ | with_reducible refine Rd.lst ?_ | with_reducible refine Rd.dget0 ?_ | with_reducible refine Rd.dput0 ?_ | with_reducible refine Rd.fld0 ?_ | with_reducible refine Rd.sfld0 ?_ | with_reducible refine Rd.sl ?_
  | with_reducible refine Rd.nopart ?_ | with_reducible refine Rd.part0 ?_ | with_reducible refine Rd.intE ?_ | with_reducible refine Rd.un ?_ | with_reducible refine Rd.ru ?_ | with_reducible refine Rd.expr ?_
  | with_reducible refine Rd.gcons ?_ | with_reducible refine Rd.gnil ?_ | with_reducible refine Rd.call ?_ | with_reducible refine lc_inT ?_ | with_reducible refine lc_inL ?_
  | with_reducible refine Rd.lenL (by with_reducible assumption) ?_ | with_reducible refine Rd.lenT (by with_reducible assumption) ?_ | with_reducible refine Rd.gtup (by with_reducible assumption) rfl ?_
  | with_reducible refine Rd.dgetE (by with_reducible assumption) rfl ?_ | with_reducible refine Rd.dgetE upd_same rfl ?_ | with_reducible refine Rd.dputE (by with_reducible assumption) (by decide) ?_ | with_reducible refine Rd.dputE upd_same (by decide) ?_
  | with_reducible refine Rd.line (by first | decide | simp) ?_ | with_reducible refine Rd.yes ?_ | with_reducible refine Rd.asg2 ?_ | with_reducible refine Rd.tupF ?_ | with_reducible refine Rd.meth0 ?_ | with_reducible refine Rd.prop0 ?_ | with_reducible refine mko ?_ | with_reducible refine Rd.ifNT ?_ | with_reducible refine Rd.ifNF ?_ | with_reducible refine Rd.tbE ?_ | with_reducible refine Rd.andV ?_ | with_reducible refine Rd.chain ?_ | with_reducible refine Rd.methS ?_ | with_reducible refine Rd.bm ?_ | with_reducible refine Rd.callS ?_ | with_reducible refine Rd.xf0 ?_ | with_reducible refine Rd.ifT ?_ | with_reducible refine Rd.ifF ?_ | with_reducible refine Rd.par ?_ | with_reducible refine Rd.parE ?_ | dsimp only [])))
local macro_rules | `(tactic| walk_at "hp") => `(tactic| (first | assumption | exact upd_same | grind [upd]))
/-! ### _law_deeds -/
def spBlockD (K : PySem.W.Frag) (Pd Pb : Addr) : Nat → Sp
  | 0 => fun _ _ _ _ => False
  | d + 1 => spBlock K Pd Pb d
abbrev cD (K : PySem.W.Frag) : Addr := He.codeOf K ("_law_deeds", none)
abbrev N_deeds : List Str := ["_law_box_here", "_law_workshop", "_law_state", "_law_many", "_law_deep", "_law_turn", "_law_form", "_law_is_right"]
abbrev scD : Scope := { kind := .function, names := [("_law_workshop", .free)], isGenerator := false, isCoroutine := false }
def tBuild (K : PySem.W.Frag) (E : XK) : TE := Ms.tMethS (ga K "Workshop") "build" (spBuild K) (fun _ => E) (tVar 1) tNil
theorem hq_d : (((("_law_deeds" : Str) ++ ".<locals>.") ++ "<lambda>" : Str)) = qd := by decide +kernel
section
variable {P : Program} {w : World} {K : PySem.W.Frag} {mg : Str → Option Value} {base : Heap}
abbrev XD (P : Program) (w : World) (K : PySem.W.Frag) (mg : Str → Option Value) (base : Heap) (A : Around) (outer : List Env) (st : Shared) (H : Hp) (E : XK) : Cx :=
  (cxOf CX0 P w K mg base N_deeds "_law_deeds" (defScope s_law_deeds) (ga K "_law_deeds") (.ref (cD K)) A outer st H E).nox
theorem sc_deeds : FnScope N_deeds ["_law_box_here", "_law_workshop", "_law_state", "_law_many", "_law_deep"] (defScope s_law_deeds) := ⟨rfl, rfl, rfl, by decide +kernel, rfl, by decide +kernel, by decide +kernel⟩
set_option maxHeartbeats 4000000 in
theorem ok_deeds (T : T72 K mg) {Pd Pb : Addr} {d L LB : Nat} (hL : 14 ≤ L) (hLB : LB ≤ L) (TB : LamX.TabB base mg (cD K) Pd)
    (DK : Def P w K mg base CX0 LB (ga K "_law_block") ["_law_box_here", "_law_workshop", "_law_state", "_law_deep"] (spBlockD K Pd Pb d))
    (DB : Def P w K mg base (L2.CX P w) 12 (ma K (ga K "Workshop") "build") ["self"] (spBuild K)) :
    Def P w K mg base CX0 (L + 1) (ga K "_law_deeds") ["_law_box_here", "_law_workshop", "_law_state", "_law_many", "_law_deep"] (spDeeds K Pd Pb d) := by
  obtain ⟨fdt, Gt, bt⟩ := (ok_take (P := P) (w := w) (base := base) T).ex
  have kpt := (ok_take (P := P) (w := w) (base := base) T).kp
  obtain ⟨fdp, Gp, bp⟩ := (ok_lput (P := P) (w := w) (base := base) T).ex
  have kpp := (ok_lput (P := P) (w := w) (base := base) T).kp
  obtain ⟨fdu, Gu, bu⟩ := (ok_lundo (P := P) (w := w) (base := base) T).ex
  have kpu := (ok_lundo (P := P) (w := w) (base := base) T).kp
  obtain ⟨fdr, Gr, br⟩ := (ok_ldrop (P := P) (w := w) (base := base) T).ex
  have kpr := (ok_ldrop (P := P) (w := w) (base := base) T).kp
  obtain ⟨fde, Ge, be⟩ := (ok_due (P := P) (w := w) (base := base) T).ex
  have kpe := (ok_due (P := P) (w := w) (base := base) T).kp
  obtain ⟨fds, Gs, bs⟩ := (ok_shown (P := P) (w := w) (base := base) T).ex
  have kps := (ok_shown (P := P) (w := w) (base := base) T).kp
  obtain ⟨fdm, Gm, bm⟩ := (ok_missed (P := P) (w := w) (base := base) T).ex
  have kpm := (ok_missed (P := P) (w := w) (base := base) T).kp
  obtain ⟨⟨fdk, Gk, bk⟩, kpk⟩ := DK
  obtain ⟨⟨fdb, Gb, bb⟩, _⟩ := DB
  obtain ⟨fdc, Fc⟩ := T.d_law_caught
  have kpc := Fc.kp
  have bc := Fc.binds (ps := ["_law_call"]) (fun _ _ _ _ _ _ us hl => match us, hl with | [_], _ => rfl)
  obtain ⟨occ, odc, kVc, docc, pmc, anc, cdvc, ctc, oslc, efc, lkc, hcc⟩ := Fc.ex
  subst efc
  have lp : Lx.lamPB (defScope s_law_deeds) scD N_deeds [] = true := by decide +kernel
  refine Def.mk0C T.d_law_deeds sc_deeds (fun vs H Q E h => ?_) (fun _ _ _ _ _ _ us hl => match us, hl with | [_, _, _, _, _], _ => rfl) (fun A outer st H vs Q E hr h => ?_)
  · obtain ⟨_, _, _, _, _, _, _, _, _, rfl, _⟩ := h
    rfl
  obtain ⟨b, x, s, n, rows, past, fl, told, es, rfl, hn, S, hb, hd, hQ⟩ := h
  have nd := sc_deeds.nd
  have hu := hu_of hr
  have hr1 := hr.mono (j := 1) (by omega)
  have hr2 := hr.mono (j := 2) (by omega)
  have hr4 := hr.mono (j := 4) (by omega)
  have hrk := hr.mono (j := LB) (by omega)
  have hr14 := hr.mono (j := 14) (by omega)
  refine ⟨_, (pss_cons (ps_for PassesOwn.never rfl (pi_range1 (by rfl) T.f_range (pa_cons (pv 3) pa_nil)) (pg_name (i := 5) nd rfl (Or.inl rfl))
 (pss_cons (ps_set (i := 6) nd rfl (Or.inl rfl) (pe_call Gt hr1 (by rfl) T.g_law_take kpt bt .nil pass0 (pa_cons (pv 0) (pa_cons pe_int pa_nil))))
 (C8.pss_cut (ps_if (PW.pt (pw_and (pt_cmpR op_eq (pv 6) pe_int (nomark _)) (pw_and1 (pt_cmpR op_lt (pv 4) pe_int (nomark _)))))
 (pss_one (ps_set (i := 7) nd rfl (Or.inl rfl) (pe_call Gk hrk (by rfl) T.g_law_block kpk bk .nil pass0 (pa_cons (pv 0) (pa_cons (pvc 1) (pa_cons (pv 2) (pa_cons (pv 4) pa_nil)))))))
 (pss_one (ps_if (pt_cmpR op_lt (pv 6) pe_int (nomark _))
 (pss_one (ps_set (i := 7) nd rfl (Or.inl rfl) (pe_call Gu hr2 (by rfl) T.g_law_undo kpu bu .nil pass0 (pa_cons (pvc 1) (pa_cons (pv 2) pa_nil)))))
 (pss_one (ps_if (pt_cmpR op_eq (pv 6) pe_int (nomark _))
 (pss_one (ps_set (i := 7) nd rfl (Or.inl rfl) (pe_call Gr hr4 (by rfl) T.g_law_drop kpr br .nil pass0 (pa_cons (pv 0) (pa_cons (pvc 1) (pa_cons (pv 2) pa_nil))))))
 (pss_one (ps_if (pt_cmpR op_eq (pv 6) pe_int (nomark _))
 (pss_one (ps_set (i := 7) nd rfl (Or.inl rfl) (pe_cmpR (op_eqD hr.units)
   (Lx.pe_lamcall0 (X := XD P w K mg base A outer st H E) (c := cD K) (P := Pd) (k := 12) (q := qd) (scope := scD) (E := fun _ => E0) (t := fun _ E => tBuild K E) (by rfl) T.g_law_caught kpc lkc hcc bc sc_caught rfl (Or.inl rfl) (gv_caught T qd _ _ 12) rfl rfl hq_d hr14 (Lx.lamP_by lp) rfl (fun _ => passAt0)
     (fun _ _ _ _ _ us hl => match us, hl with | [], _ => rfl)
     (fun A1 outer1 s1 H1 E1 f1 c1 hr1 => Ms.pe_methS0 (E := fun _ => E1) (pe_var (i := 1) rfl (Or.inr (Or.inr rfl))) T.cl_Workshop T.me_Workshop_build Gb hr1 bb (fun σ => passAt (takes_of rfl rfl rfl rfl) σ)))
   (pe_call Ge hr1 (by rfl) T.g_law_build_due kpe be .nil pass0 (pa_cons (pv 2) pa_nil)) (nomark _))))
 (pss_one (ps_set (i := 7) nd rfl (Or.inl rfl) (pe_call Gp hr4 (by rfl) T.g_law_put kpp bp .nil pass0 (pa_cons (pv 0) (pa_cons (pvc 1) (pa_cons (pv 2) pa_nil)))))))))))))
 (pss_one (ps_if (PW.pt (pw_or (pt_not (pt_val (pv 7))) (pw_or (pt_val (pe_dget hu (pv 2) pe_str (fun _ _ => rfl))) (pw_or (pt_not (pt_val (pe_call Gs hr4 (by rfl) T.g_law_shown kps bs .nil pass0 (pa_cons (pvc 1) (pa_cons (pv 2) pa_nil))))) (pw_or1 (pt_cmpR op_ne (pe_call Gm hr4 (by rfl) T.g_law_missed kpm bm .nil pass0 (pa_cons (pvc 1) pa_nil)) pe_str (nomark _)))))))
 (pss_one (ps_ret pe_bl))
 pss_nil)))))
 (pss_one (ps_ret pe_bl))), ?_⟩
  walk_at "rd"
  refine ⟨.int n, rfl, n, rfl, by omega, by omega, ?_⟩
  have enn : (n : Int).toNat = n := Int.toNat_natCast n
  refine for_range (lo := 0) (n := (n : Int).toNat) (fun i σ' H' => ∃ v5 v6 v7 : Option V, σ' = [some (.ref b), some (.ref x), some (.ref s), some (.int n), some (.int (3 - (d : Int))), v5, v6, v7] ∧ ∃ rows' past' told' es', Aft K b x s fl Pd Pb H past es H' rows' past' told' es' (i * G d)) ?_ ?_ ?_
  · exact ⟨none, none, none, rfl, rows, past, told, es, (Aft.refl S).mono (Nat.zero_le _)⟩
  rotate_left
  · rintro σ1 H1 ⟨v5, v6, v7, rfl, rows1, past1, told1, es1, A1⟩
    rw [enn] at A1
    walk_at "rd"
    exact hQ _ _ _ _ _ A1
  rintro i σ1 H1 hi ⟨v5, v6, v7, rfl, rows1, past1, told1, es1, A1⟩
  rw [enn] at hi
  have hsum : i * G d + G d ≤ n * G d := by
    have : (i + 1) * G d ≤ n * G d := Nat.mul_le_mul_right _ hi
    rw [Nat.add_mul, Nat.one_mul] at this
    exact this
  have hG1 : 1 ≤ G d := G_pos d
  have hles : es1.length = es.length := (Paired.length A1.u).symm
  refine Rd.gname ?_
  walk_at "rd"
  refine ⟨b, 8, rfl, by decide, by decide, A1.s.S.box, fun form c z n2 hf0 hf8 => ?_⟩
  have A2 := A1.take (c := c) (z := z) (n := n2)
  generalize (upd H1 b (.lst [.int c, .int z, .int n2])) = H2 at A2 ⊢
  clear A1
  have l2 := A2.l
  have lpast : past1.length < 100000 := by omega
  walk_at "rd"
  refine Rd.cut (fun σ' H' => ∃ v5 : Option V, σ' = [some (.ref b), some (.ref x), some (.ref s), some (.int n), some (.int (3 - (d : Int))), v5, some (.int form), some (.bl true)] ∧ ∃ rows' past' told' es', Aft K b x s fl Pd Pb H past es H' rows' past' told' es' (i * G d + G d)) ?_ ?_
  · have deed : ∀ Q5 : VK, (∀ H' rows' past' told' es', Aft K b x s fl Pd Pb H past es H' rows' past' told' es' (i * G d + G d) → Q5 (.bl true) H') → spDeed K [.ref b, .ref x, .ref s] H2 Q5 E0 := fun Q5 h5 =>
      ⟨b, x, s, rows1, past1, fl, told1, opO es1, rfl, A2.s.S, lpast, fun H' rows' past' k' S' l' => h5 H' rows' past' told1 es1 ((A2.trans (Aft.leaf A2.s k' S' l')).mono (by omega))⟩
    have undo : ∀ Q5 : VK, (∀ H' rows' past' told' es', Aft K b x s fl Pd Pb H past es H' rows' past' told' es' (i * G d + G d) → Q5 (.bl true) H') → spLUndo K [.ref x, .ref s] H2 Q5 E0 := fun Q5 h5 =>
      ⟨x, s, rows1, past1, fl, told1, opO es1, rfl, A2.s.S.ws, A2.s.S.st, A2.s.S.fl0, fun H' k' w' s' => by
        obtain ⟨S8, l8⟩ := A2.s.S.undo k' w' s'
        exact h5 H' _ _ told1 es1 ((A2.trans (Aft.leaf (g := 0) A2.s (k'.mono (by simp)) S8 l8)).mono (by omega))⟩
    by_cases hblk : form = 0 ∧ d ≠ 0
    · obtain ⟨h0, hd0⟩ := hblk
      obtain ⟨d', rfl⟩ : ∃ d', d = d' + 1 := ⟨d - 1, by omega⟩
      walk_at "rd"
      rw [dInt, decide_eq_true h0]
      walk_at "rd"
      rw [decide_eq_true (show (3 : Int) - ((d' + 1 : Nat) : Int) < 3 by omega)]
      walk_at "rd"
      refine ⟨b, x, s, rows1, past1, fl, told1, es1, rfl, A2.s, by omega, by omega, fun H' rows' past' told' es' A => ?_⟩
      walk_at "rd"
      exact ⟨_, rfl, _, _, _, _, A2.trans A⟩
    · have hsel : ∀ (t u : TS) (D : Ends), u D [some (.ref b), some (.ref x), some (.ref s), some (.int n), some (.int (3 - (d : Int))), some (.int (0 + (i : Int))), some (.int form), v7] H2 →
          (tIfS (tAnd (tTest (tOp rEq (tVar 6) (tC (.int 0)))) (tTest (tOp (rI0 fun i j => V.bl (decide (i < j))) (tVar 4) (tC (.int 3))))) t u) D [some (.ref b), some (.ref x), some (.ref s), some (.int n), some (.int (3 - (d : Int))), some (.int (0 + (i : Int))), some (.int form), v7] H2 := by
        intro t u D hu2
        walk_at "rd"
        rw [dInt]
        refine ite2 (fun hc => ?_) (fun hc => ?_)
        · have h0 : form = 0 := of_decide_eq_true hc
          have hd0 : d = 0 := by
            by_cases z : d = 0
            · exact z
            · exact absurd ⟨h0, z⟩ hblk
          walk_at "rd"
          rw [decide_eq_false (show ¬ ((3 : Int) - (d : Int) < 3) by omega)]
          exact Rd.ifF hu2
        · exact Rd.ifF hu2
      refine hsel _ _ _ ?_
      walk_at "rd"
      refine ite2 (fun hc => ?_) (fun hc => ?_)
      · walk_at "rd"
        refine undo _ fun H' rows' past' told' es' A => ?_
        walk_at "rd"
        exact ⟨_, rfl, _, _, _, _, A⟩
      walk_at "rd"
      rw [dInt]
      refine ite2 (fun hc => ?_) (fun hc => ?_)
      · walk_at "rd"
        refine deed _ fun H' rows' past' told' es' A => ?_
        walk_at "rd"
        exact ⟨_, rfl, _, _, _, _, A⟩
      walk_at "rd"
      rw [dInt]
      refine ite2 (fun hc => ?_) (fun hc => ?_)
      · walk_at "rd"
        refine ⟨.base TB, fun _ => True, A2.s.T.d, fun H3 c1 P1 md _ hT => ?_⟩
        have A3 := A2.made md.ext (A2.s.T.made_d md hT)
        refine ⟨rfl, fun E1 Q1 hE1 hQ1 => ?_⟩
        show tBuild K E1 _ H3 Q1
        unfold tBuild
        walk_at "rd"
        obtain ⟨dw, k, p, kp, hx3, _⟩ := id A3.s.S.ws
        refine Rd.insE hx3 rfl ?_
        walk_at "rd"
        refine ⟨x, rows1, past1, fl, rfl, A3.s.S.ws, A3.s.S.ok, fun cls dd H4 e4 ht => hE1 _ _ _ ⟨dd, _, rfl, ht, fun p4 np4 => ?_⟩⟩
        have e5 : Ext H4 (upd H4 p4 (.tup (dueT rows1))) := .new np4
        have A5 := (A3.ext e4).ext e5
        have hp4 : (upd H4 p4 (.tup (dueT rows1))) p4 = some (.tup (dueT rows1)) := upd_same
        generalize (upd H4 p4 (.tup (dueT rows1))) = H5 at A5 hp4 ⊢
        walk_at "rd"
        refine ⟨s, rows1, past1, fl, told1, opO es1, rfl, A5.s.S.st, A5.s.S.ok, fun H6 p6 e6 hp6 => ?_⟩
        refine Qx.eqT (.of (e6 _ _ hp4)) (.of hp6) due_ok ?_
        walk_at "rd"
        exact ⟨_, rfl, _, _, _, _, (A5.ext e6).mono (by omega)⟩
      · walk_at "rd"
        refine deed _ fun H' rows' past' told' es' A => ?_
        walk_at "rd"
        exact ⟨_, rfl, _, _, _, _, A⟩
  rintro σ1 H3 ⟨v5', rfl, rows3, past3, told3, es3, A3⟩
  obtain ⟨rr, pp, o, hs3, hrr3, hpp3, ho3⟩ := id A3.s.S.st
  walk_at "rd"
  refine ⟨x, s, rows3, past3, past3, fl, fl, told3, opO es3, rfl, A3.s.S.ws, A3.s.S.st, A3.s.S.ok, fun H4 e4 => ?_⟩
  have A4 := A3.ext e4
  walk_at "rd"
  refine ⟨x, rows3, past3, fl, rfl, A4.s.S.ws, A4.s.S.ok, fun H5 e5 => ?_⟩
  have A5 := A4.ext e5
  walk_at "rd"
  rw [show (!decide (V.str "zzz" = V.str "zzz")) = false from by simp]
  walk_at "rd"
  refine ⟨_, _, _, rfl, rows3, past3, told3, es3, ?_⟩
  rw [Nat.add_mul, Nat.one_mul]
  exact A5
end

end W72
-- D21
set_option Elab.async false
set_option linter.all false
set_option maxRecDepth 100000
set_option maxHeartbeats 400000
namespace W72
open PySem PySem.Spec PyProof.Rows L2 Ft
local macro_rules | `(tactic| walk_at "rd") => `(tactic| (repeat (first
  | with_reducible refine Rd.seq ?_ | with_reducible refine Rd.asg ?_ | with_reducible refine Rd.var rfl ?_ | with_reducible refine Rd.con ?_ | with_reducible refine Rd.op ?_ | with_reducible refine Rd.gname ?_ | with_reducible refine Rd.gsub ?_
  | with_reducible refine Rd.ri0 ?_ | with_reducible refine Rd.mulL (by decide +kernel) ?_ | with_reducible refine Rd.mulR (by decide +kernel) ?_ | with_reducible refine Rd.modK (by decide +kernel) ?_ | with_reducible refine Rd.divK (by decide +kernel) ?_
  | with_reducible refine Rd.test ?_ | with_reducible refine Rd.bk ?_ | with_reducible refine Rd.cons ?_ | with_reducible refine Rd.nil ?_ | with_reducible refine Rd.ret ?_ | with_reducible refine Rd.retN ?_ | with_reducible refine Rd.ifs ?_
  | with_reducible refine Rd.nxt ?_ | with_reducible refine Rd.ixl (by with_reducible assumption) rfl ?_ | with_reducible refine Rd.ixl upd_same rfl ?_ | with_reducible refine Rd.setl (by with_reducible assumption) rfl ?_ | with_reducible refine Rd.setl upd_same rfl ?_
  | with_reducible refine Rd.cb ?_ | with_reducible refine Rd.andT ?_ | with_reducible refine Rd.orT ?_ | with_reducible refine Rd.notT ?_ | with_reducible refine Rd.ifexp ?_ | with_reducible refine Rd.req rfl ?_ | with_reducible refine Rd.rne rfl ?_
  | with_reducible refine Rd.tup ?_ | with_reducible refine Rd.lst ?_ | with_reducible refine Rd.dget0 ?_ | with_reducible refine Rd.dput0 ?_ | with_reducible refine Rd.fld0 ?_ | with_reducible refine Rd.sfld0 ?_ | with_reducible refine Rd.sl ?_
  | with_reducible refine Rd.nopart ?_ | with_reducible refine Rd.part0 ?_ | with_reducible refine Rd.intE ?_ | with_reducible refine Rd.un ?_ | with_reducible refine Rd.ru ?_ | with_reducible refine Rd.expr ?_
  | with_reducible refine Rd.gcons ?_ | with_reducible refine Rd.gnil ?_ | with_reducible refine Rd.call ?_ | with_reducible refine lc_inT ?_ | with_reducible refine lc_inL ?_
  | with_reducible refine Rd.lenL (by with_reducible assumption) ?_ | with_reducible refine Rd.lenT (by with_reducible assumption) ?_ | with_reducible refine Rd.gtup (by with_reducible assumption) rfl ?_
  | with_reducible refine Rd.dgetE (by with_reducible assumption) rfl ?_ | with_reducible refine Rd.dgetE upd_same rfl ?_ | with_reducible refine Rd.dputE (by with_reducible assumption) (by decide) ?_ | with_reducible refine Rd.dputE upd_same (by decide) ?_
  | with_reducible refine Rd.line (by first | decide | simp) ?_ | with_reducible refine Rd.yes ?_ | with_reducible refine Rd.asg2 ?_ | with_reducible refine Rd.tupF ?_ | with_reducible refine Rd.meth0 ?_ | with_reducible refine Rd.prop0 ?_ | with_reducible refine mko ?_ | with_reducible refine Rd.ifNT ?_ | with_reducible refine Rd.ifNF ?_ | with_reducible refine Rd.tbE ?_ | with_reducible refine Rd.andV ?_ | with_reducible refine Rd.chain ?_ | with_reducible refine Rd.methS ?_ | with_reducible refine Rd.bm ?_ | with_reducible refine Rd.callS ?_ | with_reducible refine Rd.xf0 ?_ | with_reducible refine Rd.ifT ?_ | with_reducible refine Rd.ifF ?_ | with_reducible refine Rd.par ?_ | with_reducible refine Rd.parE ?_ | dsimp only [])))
local macro_rules | `(tactic| walk_at "hp") => `(tactic| (first | assumption | exact upd_same | grind [upd]))
/-! ### the deeds, at every depth -/
def lv (d : Nat) : Nat := 15 + 7 * d
section
variable {P : Program} {w : World} {K : PySem.W.Frag} {mg : Str → Option Value} {base : Heap}
theorem block_no (T : T72 K mg) : Def P w K mg base CX0 1 (ga K "_law_block") ["_law_box_here", "_law_workshop", "_law_state", "_law_deep"] (fun _ _ _ _ => False) := by
  obtain ⟨fd, F⟩ := T.d_law_block
  exact ⟨⟨fd, ⟨fun _ _ _ _ h => h.elim, fun _ _ _ _ _ _ _ _ _ _ _ _ _ h => h.elim⟩, F.binds (fun _ _ _ _ _ _ us hl => match us, hl with | [_, _, _, _], _ => rfl)⟩, F.kp⟩
theorem deeds_all (T : T72 K mg) {Pd Pb : Addr} (Td : LamX.TabB base mg (cD K) Pd) (Tb : LamX.TabB base mg (cB K) Pb) (DB : Def P w K mg base (L2.CX P w) 12 (ma K (ga K "Workshop") "build") ["self"] (spBuild K)) :
    ∀ d, Def P w K mg base CX0 (lv d) (ga K "_law_deeds") ["_law_box_here", "_law_workshop", "_law_state", "_law_many", "_law_deep"] (spDeeds K Pd Pb d)
  | 0 => ok_deeds (Pb := Pb) (d := 0) (L := 14) (LB := 1) T (by omega) (by omega) Td (block_no T) DB
  | d + 1 => by
    have h := ok_inside (L := lv d) T (by unfold lv; omega) (deeds_all T Td Tb DB d) DB
    have h2 := ok_block T (by unfold lv; omega) Tb h
    exact ok_deeds (Pb := Pb) (d := d + 1) (L := lv d + 6) (LB := lv d + 6) T (by unfold lv; omega) (by omega) Td h2 DB
end

end W72
-- D22
set_option Elab.async false
set_option linter.all false
set_option maxRecDepth 100000
set_option maxHeartbeats 400000
namespace W72
open PySem PySem.Spec PyProof.Rows L2 Ft
local macro_rules | `(tactic| walk_at "rd") => `(tactic| (repeat (first
  | with_reducible refine Rd.seq ?_ | with_reducible refine Rd.asg ?_ | with_reducible refine Rd.var rfl ?_ | with_reducible refine Rd.con ?_ | with_reducible refine Rd.op ?_ | with_reducible refine Rd.gname ?_ | with_reducible refine Rd.gsub ?_
  | with_reducible refine Rd.ri0 ?_ | with_reducible refine Rd.mulL (by decide +kernel) ?_ | with_reducible refine Rd.mulR (by decide +kernel) ?_ | with_reducible refine Rd.modK (by decide +kernel) ?_ | with_reducible refine Rd.divK (by decide +kernel) ?_
  | with_reducible refine Rd.test ?_ | with_reducible refine Rd.bk ?_ | with_reducible refine Rd.cons ?_ | with_reducible refine Rd.nil ?_ | with_reducible refine Rd.ret ?_ | with_reducible refine Rd.retN ?_ | with_reducible refine Rd.ifs ?_
  | with_reducible refine Rd.nxt ?_ | with_reducible refine Rd.ixl (by with_reducible assumption) rfl ?_ | with_reducible refine Rd.ixl upd_same rfl ?_ | with_reducible refine Rd.setl (by with_reducible assumption) rfl ?_ | with_reducible refine Rd.setl upd_same rfl ?_
  | with_reducible refine Rd.cb ?_ | with_reducible refine Rd.andT ?_ | with_reducible refine Rd.orT ?_ | with_reducible refine Rd.notT ?_ | with_reducible refine Rd.ifexp ?_ | with_reducible refine Rd.req rfl ?_ | with_reducible refine Rd.rne rfl ?_
  | with_reducible refine Rd.tup ?_ | with_reducible refine Rd.lst ?_ | with_reducible refine Rd.dget0 ?_ | with_reducible refine Rd.dput0 ?_ | with_reducible refine Rd.fld0 ?_ | with_reducible refine Rd.sfld0 ?_ | with_reducible refine Rd.sl ?_
  | with_reducible refine Rd.nopart ?_ | with_reducible refine Rd.part0 ?_ | with_reducible refine Rd.intE ?_ | with_reducible refine Rd.un ?_ | with_reducible refine Rd.ru ?_ | with_reducible refine Rd.expr ?_
  | with_reducible refine Rd.gcons ?_ | with_reducible refine Rd.gnil ?_ | with_reducible refine Rd.call ?_ | with_reducible refine lc_inT ?_ | with_reducible refine lc_inL ?_
  | with_reducible refine Rd.lenL (by with_reducible assumption) ?_ | with_reducible refine Rd.lenT (by with_reducible assumption) ?_ | with_reducible refine Rd.gtup (by with_reducible assumption) rfl ?_
  | with_reducible refine Rd.dgetE (by with_reducible assumption) rfl ?_ | with_reducible refine Rd.dgetE upd_same rfl ?_ | with_reducible refine Rd.dputE (by with_reducible assumption) (by decide) ?_ | with_reducible refine Rd.dputE upd_same (by decide) ?_
  | with_reducible refine Rd.line (by first | decide | simp) ?_ | with_reducible refine Rd.yes ?_ | with_reducible refine Rd.asg2 ?_ | with_reducible refine Rd.tupF ?_ | with_reducible refine Rd.meth0 ?_ | with_reducible refine Rd.prop0 ?_ | with_reducible refine mko ?_ | with_reducible refine Rd.ifNT ?_ | with_reducible refine Rd.ifNF ?_ | with_reducible refine Rd.tbE ?_ | with_reducible refine Rd.andV ?_ | with_reducible refine Rd.chain ?_ | with_reducible refine Rd.methS ?_ | with_reducible refine Rd.bm ?_ | with_reducible refine Rd.callS ?_ | with_reducible refine Rd.xf0 ?_ | with_reducible refine Rd.ifT ?_ | with_reducible refine Rd.ifF ?_ | with_reducible refine Rd.par ?_ | with_reducible refine Rd.parE ?_ | dsimp only [])))
local macro_rules | `(tactic| walk_at "hp") => `(tactic| (first | assumption | exact upd_same | grind [upd]))
/-! ### the reader -/
theorem rdM1 {σ : L2.St} {H : Hp} {Q : VK} {r : V → List V → Hp → VK → Prop} {to te : TE} (q : to σ H fun x H1 => (∃ a, x = .str a) ∧ te σ H1 fun y H2 => r x [y] H2 Q) : tM1 r to te σ H Q := q
theorem rdNV {σ : L2.St} {H : Hp} {Q : VK} {te : TE} (q : te σ H fun x H1 => ∃ c, x = .bl c ∧ Q (.bl (!c)) H1) : tNotV te σ H Q := q
theorem rdFA {K : PySem.W.Frag} {σ : L2.St} {H : Hp} {D : Ends} {ta tv : TE} {rd : V → V → Hp → VK → Prop} {f : Str} (q : ta σ H fun x H1 => ∃ a C dx fs v, x = .ref a ∧ H1 a = some (.ins C dx fs) ∧ Cls K C ∧ NoAttr K C f ∧ fs.lookup f = some v ∧
  tv σ H1 fun y H2 => rd v y H2 fun z H3 => ∃ dx' fs', H3 a = some (.ins C dx' fs') ∧ fs'.length < 1000 ∧ D.nx σ (upd H3 a (.ins C dx' (putF f z fs')))) : sFldAug K ta tv rd f D σ H := q
theorem while_no {c : TT} {tb : TS} {D : Ends} {σ : L2.St} {H : Hp} (h : c σ H fun b H1 => if b = true then ∃ N : L2.St → Hp → Prop, (∀ σ' H', N σ' H' → ∃ m', m' < 0 ∧ (σ' = σ ∧ H' = H)) ∧ tb { D with nx := N, ct := N, bk := D.nx } σ H1 else D.nx σ H1)
    (mono : ∀ Q Q' : Bool → Hp → Prop, (∀ b H1, Q b H1 → Q' b H1) → c σ H Q → c σ H Q') : tWhile c tb D σ H := by
  refine ⟨fun m σ' H' => σ' = σ ∧ H' = H, ⟨0, rfl, rfl⟩, ?_⟩
  rintro m σ' H' ⟨rfl, rfl⟩
  refine mono _ _ (fun b H1 q => ?_) h
  cases b with
  | false => exact q
  | true =>
    obtain ⟨N, hN, q⟩ := q
    exact ⟨N, fun σ' H' n => by obtain ⟨m', h, _⟩ := hN σ' H' n; omega, q⟩
abbrev rdF (l : Addr) (n : Int) : List (Str × V) := [("lines", .ref l), ("at", .int n)]
structure Rdr (K : PySem.W.Frag) (H : Hp) (r dr l : Addr) (n : Int) (ls : List Str) : Prop where
  r : H r = some (.ins (ga K "Reader") dr (rdF l n))
  l : H l = some (.lst (ls.map V.str))
  len : ls.length ≤ 100
theorem Rdr.ext {K : PySem.W.Frag} {H H' : Hp} {r dr l : Addr} {n : Int} {ls : List Str} (h : Rdr K H r dr l n ls) (e : Ext H H') : Rdr K H' r dr l n ls := ⟨e _ _ h.r, e _ _ h.l, h.len⟩
/-- the line at hand does not begin with a word -/
def NoBeg (n : Int) (ls : List Str) (word : Str) : Prop := n = ls.length ∨ ∃ (j : Nat) (s w0 : Str) (wr : List Str), n = j ∧ ls[j]? = some s ∧ s.length ≤ 1000 ∧ Txt.split s " " = w0 :: wr ∧ w0 ≠ word
def spRInit (K : PySem.W.Frag) : Sp := fun vs H Q _ => ∃ (r dr : Addr) (t : Str), vs = [.ref r, .str t] ∧ H r = some (.ins (ga K "Reader") dr []) ∧ t.length ≤ 1000 ∧ (Txt.split t "\n").length ≤ 100 ∧ ∀ H' l, Keep [r] H H' → Rdr K H' r dr l 0 (Txt.split t "\n") → Q .non H'
def spOver (K : PySem.W.Frag) : Sp := fun vs H Q _ => ∃ (r dr l : Addr) (n : Int) (ls : List Str), vs = [.ref r] ∧ Rdr K H r dr l n ls ∧ Q (.bl (decide (n = ls.length))) H
def spBegins (K : PySem.W.Frag) : Sp := fun vs H Q _ => ∃ (r dr l : Addr) (n : Int) (ls : List Str) (word : Str), vs = [.ref r, .str word] ∧ Rdr K H r dr l n ls ∧ NoBeg n ls word ∧ ∀ H', Ext H H' → Q (.bl false) H'
def spLine (K : PySem.W.Frag) : Sp := fun vs H Q _ => ∃ (r dr l : Addr) (j : Nat) (s : Str) (ls : List Str), vs = [.ref r] ∧ Rdr K H r dr l j ls ∧ ls[j]? = some s ∧ Q (.str s) (upd H r (.ins (ga K "Reader") dr (rdF l ((j : Int) + 1))))
def spNeed (K : PySem.W.Frag) : Sp := fun vs H Q E => ∃ (r dr l : Addr) (n : Int) (ls : List Str) (v : V), vs = [.ref r, v] ∧ Rdr K H r dr l n ls ∧ (v = .non → Err K "InvalidText" [("line", .int (n - 1))] H E) ∧ (v ≠ .non → Q v H)
section
variable {P : Program} {w : World} {K : PySem.W.Frag} {mg : Str → Option Value} {base : Heap}
theorem sc_RInit : FnScope ["self", "text"] ["self", "text"] (defScope s_Reader_init) := ⟨rfl, rfl, rfl, by decide +kernel, rfl, by decide +kernel, by decide +kernel⟩
theorem ok_RInit (T : T72 K mg) : Def P w K mg base CX0 1 (ma K (ga K "Reader") "__init__") ["self", "text"] (spRInit K) := by
  refine Def.mk0 T.d_Reader_init sc_RInit (fun vs H Q E h => ?_) (fun _ _ _ _ _ _ us hl => match us, hl with | [_, _], _ => rfl) (fun cdv A outer s H vs Q E hr h => ?_)
  · obtain ⟨_, _, _, rfl, _⟩ := h
    rfl
  obtain ⟨r, dr, t, rfl, hr0, ht, hl, hQ⟩ := h
  refine ⟨_, pss_cons (ps_fld (pv 0) (pe_split (pv 1) pe_str) rfl) (pss_one (ps_fld (pv 0) pe_int rfl)), ?_⟩
  walk_at "rd"
  refine rdM1 ?_
  walk_at "rd"
  refine ⟨⟨_, rfl⟩, ?_⟩
  walk_at "rd"
  refine ⟨t, "\n", rfl, rfl, by decide, by have : t.length + 2 ≤ 1002 := by omega
                                           exact Nat.le_trans this (by decide), fun l nl => ?_⟩
  have nlr : l ≠ r := fun z => by rw [z, hr0] at nl; cases nl
  walk_at "rd"
  refine Rd.sfldE (fs' := [("lines", .ref l)]) (by rw [upd_ne (Ne.symm nlr)]; exact hr0) T.cl_Reader T.na_Reader_lines (by simp) rfl ?_
  walk_at "rd"
  refine Rd.sfldE (fs' := rdF l 0) upd_same T.cl_Reader T.na_Reader_at (by simp) rfl ?_
  rw [upd_upd]
  refine hQ _ l (((Keep.of (.new nl)).put List.mem_cons_self)) ⟨upd_same, ?_, hl⟩
  rw [upd_ne nlr, upd_same]
theorem sc_Over : FnScope ["self"] ["self"] (defScope s_Reader_is_over) := ⟨rfl, rfl, rfl, by decide +kernel, rfl, by decide +kernel, by decide +kernel⟩
theorem ok_Over (T : T72 K mg) : Def P w K mg base CX0 1 (ma K (ga K "Reader") "is_over") ["self"] (spOver K) := by
  refine Def.mk0 T.d_Reader_is_over sc_Over (fun vs H Q E h => ?_) (fun _ _ _ _ _ _ us hl => match us, hl with | [_], _ => rfl) (fun cdv A outer s H vs Q E hr h => ?_)
  · obtain ⟨_, _, _, _, _, rfl, _⟩ := h
    rfl
  obtain ⟨r, dr, l, n, ls, rfl, R, hQ⟩ := h
  refine ⟨_, pss_one (ps_ret (pe_cmpR op_eq (pe_fld (pv 0) rfl) (pe_callB call_len_seq (by rfl) T.f_len PySem.boot_len (pa_cons (pe_fld (pv 0) rfl) pa_nil)) (nomark _))), ?_⟩
  have hl := R.l
  walk_at "rd"
  refine Rd.fldE' R.r T.cl_Reader T.na_Reader_at rfl ?_
  walk_at "rd"
  refine Rd.fldE' R.r T.cl_Reader T.na_Reader_lines rfl ?_
  walk_at "rd"
  rw [List.length_map, dInt]
  exact hQ
theorem sc_Begins : FnScope ["self", "word"] ["self", "word"] (defScope s_Reader_begins) := ⟨rfl, rfl, rfl, by decide +kernel, rfl, by decide +kernel, by decide +kernel⟩
theorem ok_Begins (T : T72 K mg) : Def P w K mg base CX0 2 (ma K (ga K "Reader") "begins") ["self", "word"] (spBegins K) := by
  obtain ⟨fdo, Go, bo⟩ := (ok_Over (P := P) (w := w) (base := base) T).ex
  refine Def.mk0 T.d_Reader_begins sc_Begins (fun vs H Q E h => ?_) (fun _ _ _ _ _ _ us hl => match us, hl with | [_, _], _ => rfl) (fun cdv A outer s H vs Q E hr h => ?_)
  · obtain ⟨_, _, _, _, _, _, rfl, _⟩ := h
    rfl
  obtain ⟨r, dr, l, n, ls, word, rfl, R, nb, hQ⟩ := h
  refine ⟨_, pss_one (ps_ret (pe_and (pe_not (pe_meth0 (pv 0) T.cl_Reader T.me_Reader_is_over Go hr bo .nil pass0)) (pe_one (pe_cmpR op_eq (pe_ix (ix_list : IxR _ (rIxL K)) (pe_split (pe_ix (ix_list : IxR _ (rIxL K)) (pe_fld (pv 0) rfl) (pe_fld (pv 0) rfl) (fun _ _ => rfl)) pe_str) pe_int (fun _ _ => rfl)) (pv 1) (nomark _))))), ?_⟩
  walk_at "rd"
  refine rdNV ?_
  walk_at "rd"
  refine Rd.insE R.r rfl ?_
  walk_at "rd"
  refine ⟨r, dr, l, n, ls, rfl, R, _, rfl, ?_⟩
  refine ⟨_, rfl, ?_⟩
  have hl := R.l
  rcases nb with h0 | ⟨j, s0, w0, wr, rfl, hj, hs, hw, hne⟩
  · rw [decide_eq_true h0]
    walk_at "rd"
    exact hQ _ (Ext.refl _)
  · have hlt : j < ls.length := (List.getElem?_eq_some_iff.mp hj).1
    rw [decide_eq_false (by omega)]
    walk_at "rd"
    refine rdM1 ?_
    walk_at "rd"
    refine Rd.fldE' R.r T.cl_Reader T.na_Reader_lines rfl ?_
    walk_at "rd"
    refine Rd.fldE' R.r T.cl_Reader T.na_Reader_at rfl ?_
    refine Rd.ixl hl (v := .str s0) (atI_nat (by rw [List.getElem?_map, hj]; rfl)) ?_
    refine ⟨⟨_, rfl⟩, ?_⟩
    walk_at "rd"
    refine ⟨s0, " ", rfl, rfl, by decide, by have : s0.length + 2 ≤ 1002 := by omega
                                             exact Nat.le_trans this (by decide), fun p np => ?_⟩
    rw [hw]
    walk_at "rd"
    refine Rd.ixl upd_same (v := .str w0) (by exact atI_nat (j := 0) rfl) ?_
    walk_at "rd"
    rw [decide_eq_false (show ¬ V.str w0 = V.str word from fun z => hne (V.str.inj z))]
    exact hQ _ (.new np)
theorem sc_Line : FnScope ["self"] ["self"] (defScope s_Reader_read_line) := ⟨rfl, rfl, rfl, by decide +kernel, rfl, by decide +kernel, by decide +kernel⟩
theorem ok_Line (T : T72 K mg) : Def P w K mg base CX0 2 (ma K (ga K "Reader") "read_line") ["self"] (spLine K) := by
  obtain ⟨fdo, Go, bo⟩ := (ok_Over (P := P) (w := w) (base := base) T).ex
  refine Def.mk0 T.d_Reader_read_line sc_Line (fun vs H Q E h => ?_) (fun _ _ _ _ _ _ us hl => match us, hl with | [_], _ => rfl) (fun cdv A outer s H vs Q E hr h => ?_)
  · obtain ⟨_, _, _, _, _, _, rfl, _⟩ := h
    rfl
  obtain ⟨r, dr, l, j, s0, ls, rfl, R, hj, hQ⟩ := h
  have hlt : j < ls.length := (List.getElem?_eq_some_iff.mp hj).1
  refine ⟨_, pss_cons (ps_if (pt_val (pe_meth0 (pv 0) T.cl_Reader T.me_Reader_is_over Go hr bo .nil pass0)) Bp.pss_nev pss_nil)
    (pss_cons (ps_fldaug (pv 0) pe_int in_add) (pss_one (ps_ret (pe_ix (ix_list : IxR _ (rIxL K)) (pe_fld (pv 0) rfl) (pe_op op_sub (pe_fld (pv 0) rfl) pe_int) (fun _ _ => rfl))))), ?_⟩
  walk_at "rd"
  refine Rd.insE R.r rfl ?_
  walk_at "rd"
  refine ⟨r, dr, l, j, ls, rfl, R, _, rfl, ?_⟩
  rw [decide_eq_false (by omega)]
  walk_at "rd"
  refine rdFA ?_
  walk_at "rd"
  refine ⟨r, _, dr, _, .int j, rfl, R.r, T.cl_Reader, T.na_Reader_at, rfl, ?_⟩
  walk_at "rd"
  refine ⟨_, _, rfl, rfl, dr, rdF l j, R.r, by simp, ?_⟩
  have hr2 : (upd H r (.ins (ga K "Reader") dr (rdF l ((j : Int) + 1)))) r = some (.ins (ga K "Reader") dr (rdF l ((j : Int) + 1))) := upd_same
  have nlr : l ≠ r := fun z => by have := R.l; rw [z, R.r] at this; cases this
  have hl2 := (upd_ne (H := H) (o := .ins (ga K "Reader") dr (rdF l ((j : Int) + 1))) nlr).trans R.l
  show (tRet _) _ _ (upd H r (.ins (ga K "Reader") dr (rdF l ((j : Int) + 1))))
  walk_at "rd"
  refine Rd.fldE' hr2 T.cl_Reader T.na_Reader_lines rfl ?_
  walk_at "rd"
  refine Rd.fldE' hr2 T.cl_Reader T.na_Reader_at rfl ?_
  walk_at "rd"
  rw [show (j : Int) + 1 - 1 = (j : Int) by omega]
  refine Rd.ixl hl2 (v := .str s0) (atI_nat (by rw [List.getElem?_map, hj]; rfl)) ?_
  exact hQ
theorem sc_Need : FnScope ["self", "found"] ["self", "found"] (defScope s_Reader_need) := ⟨rfl, rfl, rfl, by decide +kernel, rfl, by decide +kernel, by decide +kernel⟩
theorem ok_Need (T : T72 K mg) : Def P w K mg base (L2.CX P w) 3 (ma K (ga K "Reader") "need") ["self", "found"] (spNeed K) := by
  obtain ⟨fde, Ge, be⟩ := (ok_ITx (P := P) (w := w) (base := base) T).ex
  obtain ⟨oe, _, iC, tI⟩ := T.oex_InvalidText
  refine Def.mkX T.d_Reader_need sc_Need (fun vs H Q E h => ?_) (fun _ _ _ _ _ _ us hl => match us, hl with | [_, _], _ => rfl) (fun cdv A outer s H vs Q E hr h => ?_)
  · obtain ⟨_, _, _, _, _, _, rfl, _⟩ := h
    rfl
  obtain ⟨r, dr, l, n, ls, v, rfl, R, hno, hyes⟩ := h
  refine ⟨_, pss_cons (ps_if (pt_cmpR op_isN (pv 1) pe_non (nomark _)) (pss_one (ps_raise rfl (takes_of rfl rfl rfl rfl) (pmk_oex oe iC tI Ge hr be .nil pass0 (by rfl) T.g_InvalidText (pa_cons (pe_op op_sub (pe_fld (pv 0) rfl) pe_int) pa_nil)))) pss_nil)
    (pss_one (ps_ret (pv 1))), ?_⟩
  walk_at "rd"
  refine ⟨rfl, ?_⟩
  walk_at "rd"
  refine ite2 (fun hc => ?_) (fun hc => ?_)
  · have hc := of_decide_eq_true hc
    walk_at "rd"
    refine Rd.fldE' R.r T.cl_Reader T.na_Reader_at rfl ?_
    walk_at "rd"
    exact err_in rfl (by simp) fun d nd => hno hc d _ (.new nd) upd_same
  · walk_at "rd"
    exact hyes (fun z => hc (decide_eq_true z))
end

end W72
-- D23
set_option Elab.async false
set_option linter.all false
set_option maxRecDepth 100000
set_option maxHeartbeats 400000
namespace W72
open PySem PySem.Spec PyProof.Rows L2 Ft
local macro_rules | `(tactic| walk_at "rd") => `(tactic| (repeat (first
  | with_reducible refine Rd.seq ?_ | with_reducible refine Rd.asg ?_ | with_reducible refine Rd.var rfl ?_ | with_reducible refine Rd.con ?_ | with_reducible refine Rd.op ?_ | with_reducible refine Rd.gname ?_ | with_reducible refine Rd.gsub ?_
  | with_reducible refine Rd.ri0 ?_ | with_reducible refine Rd.mulL (by decide +kernel) ?_ | with_reducible refine Rd.mulR (by decide +kernel) ?_ | with_reducible refine Rd.modK (by decide +kernel) ?_ | with_reducible refine Rd.divK (by decide +kernel) ?_
  | with_reducible refine Rd.test ?_ | with_reducible refine Rd.bk ?_ | with_reducible refine Rd.cons ?_ | with_reducible refine Rd.nil ?_ | with_reducible refine Rd.ret ?_ | with_reducible refine Rd.retN ?_ | with_reducible refine Rd.ifs ?_
  | with_reducible refine Rd.nxt ?_ | with_reducible refine Rd.ixl (by with_reducible assumption) rfl ?_ | with_reducible refine Rd.ixl upd_same rfl ?_ | with_reducible refine Rd.setl (by with_reducible assumption) rfl ?_ | with_reducible refine Rd.setl upd_same rfl ?_
  | with_reducible refine Rd.cb ?_ | with_reducible refine Rd.andT ?_ | with_reducible refine Rd.orT ?_ | with_reducible refine Rd.notT ?_ | with_reducible refine Rd.ifexp ?_ | with_reducible refine Rd.req rfl ?_ | with_reducible refine Rd.rne rfl ?_
  | with_reducible refine Rd.tup ?_ | with_reducible refine Rd.lst ?_ | with_reducible refine Rd.dget0 ?_ | with_reducible refine Rd.dput0 ?_ | with_reducible refine Rd.fld0 ?_ | with_reducible refine Rd.sfld0 ?_ | with_reducible refine Rd.sl ?_
  | with_reducible refine Rd.nopart ?_ | with_reducible refine Rd.part0 ?_ | with_reducible refine Rd.intE ?_ | with_reducible refine Rd.un ?_ | with_reducible refine Rd.ru ?_ | with_reducible refine Rd.expr ?_
  | with_reducible refine Rd.gcons ?_ | with_reducible refine Rd.gnil ?_ | with_reducible refine Rd.call ?_ | with_reducible refine lc_inT ?_ | with_reducible refine lc_inL ?_
  | with_reducible refine Rd.lenL (by with_reducible assumption) ?_ | with_reducible refine Rd.lenT (by with_reducible assumption) ?_ | with_reducible refine Rd.gtup (by with_reducible assumption) rfl ?_
  | with_reducible refine Rd.dgetE (by with_reducible assumption) rfl ?_ | with_reducible refine Rd.dgetE upd_same rfl ?_ | with_reducible refine Rd.dputE (by with_reducible assumption) (by decide) ?_ | with_reducible refine Rd.dputE upd_same (by decide) ?_
  | with_reducible refine Rd.line (by first | decide | simp) ?_ | with_reducible refine Rd.yes ?_ | with_reducible refine Rd.asg2 ?_ | with_reducible refine Rd.tupF ?_ | with_reducible refine Rd.meth0 ?_ | with_reducible refine Rd.prop0 ?_ | with_reducible refine mko ?_ | with_reducible refine Rd.ifNT ?_ | with_reducible refine Rd.ifNF ?_ | with_reducible refine Rd.tbE ?_ | with_reducible refine Rd.andV ?_ | with_reducible refine Rd.chain ?_ | with_reducible refine Rd.methS ?_ | with_reducible refine Rd.bm ?_ | with_reducible refine Rd.callS ?_ | with_reducible refine Rd.xf0 ?_ | with_reducible refine Rd.ifT ?_ | with_reducible refine Rd.ifF ?_ | with_reducible refine Rd.par ?_ | with_reducible refine Rd.parE ?_ | dsimp only [])))
local macro_rules | `(tactic| walk_at "hp") => `(tactic| (first | assumption | exact upd_same | grind [upd]))
/-! ### the reader's rows, header, procedures; check_header; Part.read -/
def spRows (K : PySem.W.Frag) : Sp := fun vs H Q _ => ∃ (r dr l : Addr) (n : Int) (ls : List Str) (word : Str) (m : Int), vs = [.ref r, .str word, .int m] ∧ Rdr K H r dr l n ls ∧ NoBeg n ls word ∧ ∀ H' p, Ext H H' → FT H' p [] → Q (.ref p) H'
def spHeader (K : PySem.W.Frag) : Sp := fun vs H Q _ => ∃ (r dr l : Addr) (n : Int) (ls : List Str), vs = [.ref r] ∧ Rdr K H r dr l n ls ∧ NoBeg n ls "kind" ∧ NoBeg n ls "well" ∧ NoBeg n ls "dish" ∧
  ∀ H' h k w d, Ext H H' → H' h = some (.tup [.ref k, .ref w, .ref d]) → FT H' k [] → Q (.ref h) H'
def spHeadOf : Sp := fun vs H Q _ => ∃ (p : Addr) (w0 : Str) (r : List V), vs = [.ref p] ∧ H p = some (.lst (.str w0 :: r)) ∧ w0 ≠ "procedure" ∧ Q .non H
def spProcs (K : PySem.W.Frag) : Sp := fun vs H Q E => ∃ (r dr l : Addr) (ls : List Str), vs = [.ref r] ∧
  ((∃ n : Int, Rdr K H r dr l n ls ∧ n = ls.length ∧ ∀ H' p, Ext H H' → Q (.ref p) H') ∨ (∃ j : Nat, Rdr K H r dr l j ls ∧ ls[j]? = some "" ∧ ∀ d H', Keep [r] H H' → H' d = some (.xd [("line", .int j)]) → E (.ref (ga K "InvalidText")) (some d) H'))
abbrev noKinds : List (Str × V) := [("place", .int 0), ("procedure", .int (-1)), ("word", .str "kinds")]
def spCheck (K : PySem.W.Frag) : Sp := fun vs H _ E => ∃ (k : Addr) (wv dv : V), vs = [.ref k, wv, dv] ∧ FT H k [] ∧ Err K "InvalidProgram" noKinds H E
def spPInit (K : PySem.W.Frag) : Sp := fun vs H _ E => ∃ (o hd k w d : Addr) (nm us pr : V), vs = [.ref o, nm, .ref hd, us, pr] ∧ H hd = some (.tup [.ref k, .ref w, .ref d]) ∧ FT H k [] ∧ Err K "InvalidProgram" noKinds H E
section
variable {P : Program} {w : World} {K : PySem.W.Frag} {mg : Str → Option Value} {base : Heap}
abbrev N_rows : List Str := ["self", "word", "many", "found", "words", "names", "number"]
theorem sc_rows : FnScope N_rows ["self", "word", "many"] (defScope s_Reader_read_rows) := ⟨rfl, rfl, rfl, by decide +kernel, rfl, by decide +kernel, by decide +kernel⟩
theorem ok_rows (T : T72 K mg) : Def P w K mg base CX0 3 (ma K (ga K "Reader") "read_rows") ["self", "word", "many"] (spRows K) := by
  obtain ⟨fdb, Gb, bb⟩ := (ok_Begins (P := P) (w := w) (base := base) T).ex
  refine Def.mk0 T.d_Reader_read_rows sc_rows (fun vs H Q E h => ?_) (fun _ _ _ _ _ _ us hl => match us, hl with | [_, _, _], _ => rfl) (fun cdv A outer s H vs Q E hr h => ?_)
  · obtain ⟨_, _, _, _, _, _, _, rfl, _⟩ := h
    rfl
  obtain ⟨r, dr, l, n, ls, word, m, rfl, R, nb, hQ⟩ := h
  have nd := sc_rows.nd
  refine ⟨_, pss_cons (ps_set (i := 3) nd rfl (Or.inl rfl) (pe_lst pa_nil))
    (pss_cons (ps_while PassesOwn.never (pt_val (pe_meth (pv 0) T.cl_Reader T.me_Reader_begins Gb hr bb .nil pass0 (pa_cons (pv 1) pa_nil))) Bp.pss_nev)
    (pss_one (ps_ret (pe_callTy call_tupleF (by rfl) T.f_tuple (by decide +kernel) (pa_cons (pv 3) pa_nil))))), ?_⟩
  walk_at "rd"
  intro p np
  have e1 : Ext H (upd H p (.lst [])) := .new np
  have hp : (upd H p (.lst [])) p = some (.lst []) := upd_same
  generalize (upd H p (.lst [])) = H1 at e1 hp ⊢
  walk_at "rd"
  refine ⟨fun m' σ' H' => σ' = [some (.ref r), some (.str word), some (.int m), some (.ref p), none, none, none] ∧ H' = H1, ⟨0, rfl, rfl⟩, ?_⟩
  rintro m' σ' H' ⟨rfl, rfl⟩
  walk_at "rd"
  refine Rd.insE (R.ext e1).r rfl ?_
  walk_at "rd"
  refine ⟨r, dr, l, n, ls, word, rfl, R.ext e1, nb, fun H2 e2 => ?_⟩
  walk_at "rd"
  refine ⟨p, _, rfl, .of (e2 _ _ hp), fun q o nq ho => ?_⟩
  exact hQ _ q ((e1.trans e2).newL nq) ⟨o, upd_same, ho⟩
theorem sc_header : FnScope ["self"] ["self"] (defScope s_Reader_read_header) := ⟨rfl, rfl, rfl, by decide +kernel, rfl, by decide +kernel, by decide +kernel⟩
theorem ok_header (T : T72 K mg) : Def P w K mg base CX0 4 (ma K (ga K "Reader") "read_header") ["self"] (spHeader K) := by
  obtain ⟨fdb, Gb, bb⟩ := (ok_rows (P := P) (w := w) (base := base) T).ex
  refine Def.mk0 T.d_Reader_read_header sc_header (fun vs H Q E h => ?_) (fun _ _ _ _ _ _ us hl => match us, hl with | [_], _ => rfl) (fun cdv A outer s H vs Q E hr h => ?_)
  · obtain ⟨_, _, _, _, _, rfl, _⟩ := h
    rfl
  obtain ⟨r, dr, l, n, ls, rfl, R, b1, b2, b3, hQ⟩ := h
  refine ⟨_, pss_one (ps_ret (pe_tup (pa_cons (pe_meth (pv 0) T.cl_Reader T.me_Reader_read_rows Gb hr bb .nil pass0 (pa_cons pe_str (pa_cons pe_int pa_nil))) (pa_cons (pe_meth (pv 0) T.cl_Reader T.me_Reader_read_rows Gb hr bb .nil pass0 (pa_cons pe_str (pa_cons pe_int pa_nil))) (pa_cons (pe_meth (pv 0) T.cl_Reader T.me_Reader_read_rows Gb hr bb .nil pass0 (pa_cons pe_str (pa_cons pe_int pa_nil))) pa_nil))))), ?_⟩
  walk_at "rd"
  refine Rd.insE R.r rfl ?_
  walk_at "rd"
  refine ⟨r, dr, l, n, ls, "kind", 1, rfl, R, b1, fun H1 k e1 hk => ?_⟩
  walk_at "rd"
  refine Rd.insE (R.ext e1).r rfl ?_
  walk_at "rd"
  refine ⟨r, dr, l, n, ls, "well", 2, rfl, R.ext e1, b2, fun H2 w e2 hw => ?_⟩
  walk_at "rd"
  refine Rd.insE ((R.ext e1).ext e2).r rfl ?_
  walk_at "rd"
  refine ⟨r, dr, l, n, ls, "dish", 3, rfl, (R.ext e1).ext e2, b3, fun H3 d e3 hd => ?_⟩
  walk_at "rd"
  intro h nh
  exact hQ _ h k w d (((e1.trans e2).trans e3).newL nh) upd_same (((hk.ext e2).ext e3).ext (Ext.new nh))
abbrev N_headof : List Str := ["words", "at", "params", "results", "word"]
theorem sc_headof : FnScope N_headof ["words"] (defScope s_head_of) := ⟨rfl, rfl, rfl, by decide +kernel, rfl, by decide +kernel, by decide +kernel⟩
theorem ok_headof (T : T72 K mg) : Def P w K mg base CX0 1 (ga K "head_of") ["words"] spHeadOf := by
  refine Def.mk0 T.d_head_of sc_headof (fun vs H Q E h => ?_) (fun _ _ _ _ _ _ us hl => match us, hl with | [_], _ => rfl) (fun cdv A outer s H vs Q E hr h => ?_)
  · obtain ⟨_, _, _, rfl, _⟩ := h
    rfl
  obtain ⟨p, w0, r, rfl, hp, hw, hQ⟩ := h
  refine ⟨_, pss_cons (ps_if (PW.pt (pw_or (pt_cmpR op_ne (pe_ix (ix_list : IxR _ (rIxL K)) (pv 0) pe_int (fun _ _ => rfl)) pe_str (nomark _)) (pw_or Bp.pt_nev (pw_or1 Bp.pt_nev)))) (pss_one (ps_ret pe_non)) pss_nil) Bp.pss_nev, ?_⟩
  walk_at "rd"
  refine Rd.ixl hp (v := .str w0) (by exact atI_nat (j := 0) rfl) ?_
  walk_at "rd"
  rw [decide_eq_false (show ¬ V.str w0 = V.str "procedure" from fun z => hw (V.str.inj z))]
  walk_at "rd"
  exact hQ
abbrev N_procs : List Str := ["self", "found", "name", "params", "results"]
theorem sc_procs : FnScope N_procs ["self"] (defScope s_Reader_read_procedures) := ⟨rfl, rfl, rfl, by decide +kernel, rfl, by decide +kernel, by decide +kernel⟩
theorem ok_procs (T : T72 K mg) : Def P w K mg base (L2.CX P w) 4 (ma K (ga K "Reader") "read_procedures") ["self"] (spProcs K) := by
  obtain ⟨fdo, Go, bo⟩ := (ok_Over (P := P) (w := w) (base := base) T).ex
  obtain ⟨fdl, Gl, bl⟩ := (ok_Line (P := P) (w := w) (base := base) T).ex
  obtain ⟨fdn, Gn, bn⟩ := (ok_Need (P := P) (w := w) (base := base) T).ex
  obtain ⟨fdh, Gh, bh⟩ := (ok_headof (P := P) (w := w) (base := base) T).ex
  have kph := (ok_headof (P := P) (w := w) (base := base) T).kp
  refine Def.mkX T.d_Reader_read_procedures sc_procs (fun vs H Q E h => ?_) (fun _ _ _ _ _ _ us hl => match us, hl with | [_], _ => rfl) (fun cdv A outer s H vs Q E hr h => ?_)
  · obtain ⟨_, _, _, _, rfl, _⟩ := h
    rfl
  have nd := sc_procs.nd
  obtain ⟨r, dr, l, ls, rfl, h⟩ := h
  refine ⟨_, pss_cons (ps_set (i := 1) nd rfl (Or.inl rfl) (pe_lst pa_nil))
    (pss_cons (ps_while (passes_of rfl) (pt_not (pt_val (pe_meth0 (pv 0) T.cl_Reader T.me_Reader_is_over Go (hr.mono (by decide)) bo .nil pass0)))
      (pss_cons (ps_asg (Ms.pe_methS (pv 0) T.cl_Reader T.me_Reader_need Gn hr bn (fun σ => passAt (takes_of rfl rfl rfl rfl) σ) (pa_cons (pe_call Gh (hr.mono (by decide)) (by rfl) T.g_head_of kph bh .nil pass0 (pa_cons (pe_split (pe_meth0 (pv 0) T.cl_Reader T.me_Reader_read_line Gl (hr.mono (by decide)) bl .nil pass0) pe_str) pa_nil)) pa_nil)) Bp.pg_nev) Bp.pss_nev))
    (pss_one (ps_ret (pe_callTy call_tupleF (by rfl) T.f_tuple (by decide +kernel) (pa_cons (pv 1) pa_nil))))), ?_⟩
  walk_at "rd"
  intro p np
  have e1 : Ext H (upd H p (.lst [])) := .new np
  have hp : (upd H p (.lst [])) p = some (.lst []) := upd_same
  generalize (upd H p (.lst [])) = H1 at e1 hp ⊢
  walk_at "rd"
  refine ⟨fun m' σ' H' => σ' = [some (.ref r), some (.ref p), none, none, none] ∧ H' = H1, ⟨0, rfl, rfl⟩, ?_⟩
  rintro m' σ' H' ⟨rfl, rfl⟩
  rcases h with ⟨n, R, hn, hQ⟩ | ⟨j, R, hj, hE⟩
  · walk_at "rd"
    refine Rd.insE (R.ext e1).r rfl ?_
    walk_at "rd"
    refine ⟨r, dr, l, n, ls, rfl, R.ext e1, _, rfl, ?_⟩
    rw [decide_eq_true hn]
    walk_at "rd"
    refine ⟨p, _, rfl, .of hp, fun q o nq ho => ?_⟩
    exact hQ _ q (e1.newL nq)
  · have R1 := R.ext e1
    have hlt : j < ls.length := (List.getElem?_eq_some_iff.mp hj).1
    walk_at "rd"
    refine Rd.insE R1.r rfl ?_
    walk_at "rd"
    refine ⟨r, dr, l, j, ls, rfl, R1, _, rfl, ?_⟩
    rw [decide_eq_false (by omega)]
    walk_at "rd"
    refine ⟨fun _ _ => False, fun _ _ z => z.elim, ?_⟩
    walk_at "rd"
    refine Rd.insE R1.r rfl ?_
    walk_at "rd"
    refine rdM1 ?_
    walk_at "rd"
    refine Rd.insE R1.r rfl ?_
    walk_at "rd"
    refine ⟨r, dr, l, j, "", ls, rfl, R1, hj, ⟨_, rfl⟩, ?_⟩
    walk_at "rd"
    refine ⟨"", " ", rfl, rfl, by decide, by decide, fun q nq => ?_⟩
    have nlr : l ≠ r := fun z => by have := R1.l; rw [z, R1.r] at this; cases this
    have R2 : Rdr K (upd H' r (.ins (ga K "Reader") dr (rdF l ((j : Int) + 1)))) r dr l ((j : Int) + 1) ls := ⟨upd_same, (upd_ne nlr).trans R1.l, R1.len⟩
    have k2 : Keep [r] H (upd H' r (.ins (ga K "Reader") dr (rdF l ((j : Int) + 1)))) := (Keep.of e1).put List.mem_cons_self
    generalize (upd H' r (.ins (ga K "Reader") dr (rdF l ((j : Int) + 1)))) = H2 at R2 k2 nq ⊢
    have e3 : Ext H2 (upd H2 q (.lst ((Txt.split "" " ").map V.str))) := .new nq
    have hs : Txt.split "" " " = [("" : Str)] := by decide +kernel
    rw [hs] at e3 ⊢
    walk_at "rd"
    refine ⟨q, "", [], rfl, upd_same, by decide, ?_⟩
    walk_at "rd"
    refine ⟨r, dr, l, _, ls, .non, rfl, R2.ext e3, fun _ d H5 e5 hd => hE d H5 ((k2.trans (.of e3)).trans (.of e5)) (by rw [hd, show ((j : Int) + 1 - 1) = (j : Int) by omega]), fun z => absurd rfl z⟩
abbrev N_check : List Str := ["kinds", "wells", "dishes", "at", "name", "keep", "kind"]
theorem sc_check : FnScope N_check ["kinds", "wells", "dishes"] (defScope s_check_header) := ⟨rfl, rfl, rfl, by decide +kernel, rfl, by decide +kernel, by decide +kernel⟩
theorem ok_check (T : T72 K mg) : Def P w K mg base (L2.CX P w) 3 (ga K "check_header") ["kinds", "wells", "dishes"] (spCheck K) := by
  obtain ⟨fde, Ge, be⟩ := (ok_IPg (P := P) (w := w) (base := base) T).ex
  obtain ⟨oe, _, iC, tI⟩ := T.oex_InvalidProgram
  refine Def.mkX T.d_check_header sc_check (fun vs H Q E h => ?_) (fun _ _ _ _ _ _ us hl => match us, hl with | [_, _, _], _ => rfl) (fun cdv A outer s H vs Q E hr h => ?_)
  · obtain ⟨_, _, _, rfl, _⟩ := h
    rfl
  obtain ⟨k, wv, dv, rfl, hk, hE⟩ := h
  have nd := sc_check.nd
  refine ⟨_, pss_cons (ps_for (passes_of rfl) rfl (Ft.pi_enumT (by rfl) T.f_enumerate (pa_cons (pv 0) pa_nil)) Bp.pg_nev Bp.pss_nev)
    (pss_cons (ps_if (pt_cmpR op_eq (pe_callB call_len_seq (by rfl) T.f_len PySem.boot_len (pa_cons (pv 0) pa_nil)) pe_int (nomark _))
      (pss_one (ps_raise rfl (takes_of rfl rfl rfl rfl) (pmk_oex oe iC tI Ge hr be .nil pass0 (by rfl) T.g_InvalidProgram (pa_cons pe_str (pa_cons (pe_un un_neg pe_int) (pa_cons pe_int pa_nil)))))) pss_nil) Bp.pss_nev), ?_⟩
  walk_at "rd"
  refine ⟨.ref k, rfl, k, [], rfl, hk.sq, ?_⟩
  refine Bp.enum_noT (K := K) (g := fun _ _ _ _ => False) (tb := fun _ _ _ => False) hk.sq ?_
  walk_at "rd"
  refine Rd.lenS (.inr hk.sq) ?_
  walk_at "rd"
  rw [show decide (V.int (([] : List V).length : Int) = V.int 0) = true from rfl]
  walk_at "rd"
  exact err_in rfl (by simp) fun d nd => hE d _ (.new nd) upd_same
end

end W72
-- D24
set_option Elab.async false
set_option linter.all false
set_option maxRecDepth 100000
set_option maxHeartbeats 400000
namespace W72
open PySem PySem.Spec PyProof.Rows L2 Ft
local macro_rules | `(tactic| walk_at "rd") => `(tactic| (repeat (first
  | with_reducible refine Rd.seq ?_ | with_reducible refine Rd.asg ?_ | with_reducible refine Rd.var rfl ?_ | with_reducible refine Rd.con ?_ | with_reducible refine Rd.op ?_ | with_reducible refine Rd.gname ?_ | with_reducible refine Rd.gsub ?_
  | with_reducible refine Rd.ri0 ?_ | with_reducible refine Rd.mulL (by decide +kernel) ?_ | with_reducible refine Rd.mulR (by decide +kernel) ?_ | with_reducible refine Rd.modK (by decide +kernel) ?_ | with_reducible refine Rd.divK (by decide +kernel) ?_
  | with_reducible refine Rd.test ?_ | with_reducible refine Rd.bk ?_ | with_reducible refine Rd.cons ?_ | with_reducible refine Rd.nil ?_ | with_reducible refine Rd.ret ?_ | with_reducible refine Rd.retN ?_ | with_reducible refine Rd.ifs ?_
  | with_reducible refine Rd.nxt ?_ | with_reducible refine Rd.ixl (by with_reducible assumption) rfl ?_ | with_reducible refine Rd.ixl upd_same rfl ?_ | with_reducible refine Rd.setl (by with_reducible assumption) rfl ?_ | with_reducible refine Rd.setl upd_same rfl ?_
  | with_reducible refine Rd.cb ?_ | with_reducible refine Rd.andT ?_ | with_reducible refine Rd.orT ?_ | with_reducible refine Rd.notT ?_ | with_reducible refine Rd.ifexp ?_ | with_reducible refine Rd.req rfl ?_ | with_reducible refine Rd.rne rfl ?_
  | with_reducible refine Rd.tup ?_ | with_reducible refine Rd.lst ?_ | with_reducible refine Rd.dget0 ?_ | with_reducible refine Rd.dput0 ?_ | with_reducible refine Rd.fld0 ?_ | with_reducible refine Rd.sfld0 ?_ | with_reducible refine Rd.sl ?_
  | with_reducible refine Rd.nopart ?_ | with_reducible refine Rd.part0 ?_ | with_reducible refine Rd.intE ?_ | with_reducible refine Rd.un ?_ | with_reducible refine Rd.ru ?_ | with_reducible refine Rd.expr ?_
  | with_reducible refine Rd.gcons ?_ | with_reducible refine Rd.gnil ?_ | with_reducible refine Rd.call ?_ | with_reducible refine lc_inT ?_ | with_reducible refine lc_inL ?_
  | with_reducible refine Rd.lenL (by with_reducible assumption) ?_ | with_reducible refine Rd.lenT (by with_reducible assumption) ?_ | with_reducible refine Rd.gtup (by with_reducible assumption) rfl ?_
  | with_reducible refine Rd.dgetE (by with_reducible assumption) rfl ?_ | with_reducible refine Rd.dgetE upd_same rfl ?_ | with_reducible refine Rd.dputE (by with_reducible assumption) (by decide) ?_ | with_reducible refine Rd.dputE upd_same (by decide) ?_
  | with_reducible refine Rd.line (by first | decide | simp) ?_ | with_reducible refine Rd.yes ?_ | with_reducible refine Rd.asg2 ?_ | with_reducible refine Rd.tupF ?_ | with_reducible refine Rd.meth0 ?_ | with_reducible refine Rd.prop0 ?_ | with_reducible refine mko ?_ | with_reducible refine Rd.ifNT ?_ | with_reducible refine Rd.ifNF ?_ | with_reducible refine Rd.tbE ?_ | with_reducible refine Rd.andV ?_ | with_reducible refine Rd.chain ?_ | with_reducible refine Rd.methS ?_ | with_reducible refine Rd.bm ?_ | with_reducible refine Rd.callS ?_ | with_reducible refine Rd.xf0 ?_ | with_reducible refine Rd.ifT ?_ | with_reducible refine Rd.ifF ?_ | with_reducible refine Rd.par ?_ | with_reducible refine Rd.parE ?_ | dsimp only [])))
local macro_rules | `(tactic| walk_at "hp") => `(tactic| (first | assumption | exact upd_same | grind [upd]))
/-! ### Part.__init__, Part.read, Workshop.part_of -/
def dueOne (t : Str) : List V := if t = "part a" then [.str "program", .str "kinds", .int (-1), .int 0] else [.str "text", .int (if t = "part a\n" then 1 else 0)]
theorem due_one {r : Row} {rs : List Row} : dueT (r :: rs) = dueOne r.2 := by
  unfold dueT dueOne
  by_cases h : r.2 = "part a"
  · rw [if_pos (.inr (by show some r.2 = _; rw [h])), if_pos h]
  · rw [if_neg (fun z => by
      rcases z with z | z
      · cases z
      · exact h (Option.some.inj z)), if_neg h]
    show [V.str "text", V.int (if some r.2 = some ("part a\n" : Str) then 1 else 0)] = _
    by_cases h2 : r.2 = "part a\n"
    · rw [if_pos h2, if_pos (by rw [h2])]
    · rw [if_neg h2, if_neg (fun z => h2 (Option.some.inj z))]
/-- a text whose first line is no part's -/
def badB (t : Str) : Bool := match Txt.split t "\n" with
  | l0 :: _ => decide (l0.length ≤ 1000) && match Txt.split l0 " " with
    | [y, _] => decide (y ≠ "part")
    | _ => true
  | [] => false
theorem texts3 : ∀ t ∈ texts7, (decide (t = "part a") || (decide (t = "part a\n") || badB t)) = true := by decide +kernel
theorem texts_len : ∀ t ∈ texts7, (decide (t.length ≤ 1000) && decide ((Txt.split t "\n").length ≤ 100)) = true := by decide +kernel
theorem bad_of {t : Str} (h : badB t = true) : ∃ l0 lr, Txt.split t "\n" = l0 :: lr ∧ l0.length ≤ 1000 ∧ ((Txt.split l0 " ").length ≠ 2 ∨ ∃ y z, Txt.split l0 " " = [y, z] ∧ y ≠ "part") := by
  unfold badB at h
  split at h
  · next l0 lr e =>
    obtain ⟨h1, h2⟩ := Bool.and_eq_true_iff.mp h
    refine ⟨l0, lr, e, of_decide_eq_true h1, ?_⟩
    split at h2
    · next y z e2 => exact .inr ⟨y, z, e2, of_decide_eq_true h2⟩
    · next hn =>
      refine .inl fun z => ?_
      match q : Txt.split l0 " ", z with
      | [y, z], _ => exact hn y z q
  · cases h
theorem split_a : Txt.split "part a" "\n" = [("part a" : Str)] := by decide +kernel
theorem split_an : Txt.split "part a\n" "\n" = [("part a" : Str), ""] := by decide +kernel
theorem split_w : Txt.split "part a" " " = [("part" : Str), "a"] := by decide +kernel
theorem split_e : Txt.split "" " " = [("" : Str)] := by decide +kernel
theorem isw_a : isw "a" = true := by decide +kernel
def spRead (K : PySem.W.Frag) : Sp := fun vs H _ E => ∃ t : Str, vs = [.ref (ga K "Part"), .str t] ∧ t ∈ texts7 ∧ ∀ cls d H', Ext H H' → Told K H' d cls (dueOne t) → E cls (some d) H'
theorem Ext.fresh {H H1 H2 : Hp} {r : Addr} (e : Ext H H1) (n : H r = none) (k : Keep [r] H1 H2) : Ext H H2 := fun b o h => k b o (e b o h) (fun z => by rw [List.mem_singleton.mp z, n] at h; cases h)
section
variable {P : Program} {w : World} {K : PySem.W.Frag} {mg : Str → Option Value} {base : Heap}
abbrev N_pinit : List Str := ["self", "name", "header", "uses", "procedures", "known", "own", "kinds", "wells", "dishes", "at", "parts", "found", "use", "x", "kind"]
theorem sc_pinit : FnScope N_pinit ["self", "name", "header", "uses", "procedures"] (defScope s_Part_init) := ⟨rfl, rfl, rfl, by decide +kernel, rfl, by decide +kernel, by decide +kernel⟩
theorem ok_pinit (T : T72 K mg) : Def P w K mg base (L2.CX P w) 4 (ma K (ga K "Part") "__init__") ["self", "name", "header", "uses", "procedures"] (spPInit K) := by
  obtain ⟨fdc, Gc, bc⟩ := (ok_check (P := P) (w := w) (base := base) T).ex
  have kpc := (ok_check (P := P) (w := w) (base := base) T).kp
  refine Def.mkX T.d_Part_init sc_pinit (fun vs H Q E h => ?_) (fun _ _ _ _ _ _ us hl => match us, hl with | [_, _, _, _, _], _ => rfl) (fun cdv A outer s H vs Q E hr h => ?_)
  · obtain ⟨_, _, _, _, _, _, _, _, rfl, _⟩ := h
    rfl
  obtain ⟨o, hd, k, w', d, nm, us, pr, rfl, hh, hk, hE⟩ := h
  have nd := sc_pinit.nd
  refine ⟨_, pss_cons (ps_asg (pv 2) (pg_tup (by rfl) (pgs_cons (pg_name (i := 7) nd rfl (Or.inl rfl)) (pgs_cons (pg_name (i := 8) nd rfl (Or.inl rfl)) (pgs_cons (pg_name (i := 9) nd rfl (Or.inl rfl)) pgs_nil)))))
    (pss_cons (ps_expr (pe_callS Gc hr (by rfl) T.g_check_header kpc bc (fun σ => passAt (takes_of rfl rfl rfl rfl) σ) (pa_cons (pv 7) (pa_cons (pv 8) (pa_cons (pv 9) pa_nil))))) Bp.pss_nev), ?_⟩
  walk_at "rd"
  exact ⟨k, .ref w', .ref d, rfl, hk, hE⟩
abbrev N_read : List Str := ["cls", "text", "reader", "words", "header", "uses"]
theorem sc_read : FnScope N_read ["cls", "text"] (defScope s_Part_read) := ⟨rfl, rfl, rfl, by decide +kernel, rfl, by decide +kernel, by decide +kernel⟩
set_option maxHeartbeats 4000000 in
theorem ok_read (T : T72 K mg) : Def P w K mg base (L2.CX P w) 6 (He5.wf K (ga K "Part") "classmethod" "read") ["cls", "text"] (spRead K) := by
  obtain ⟨fdi, Gi, bi⟩ := (ok_RInit (P := P) (w := w) (base := base) T).ex
  obtain ⟨fdl, Gl, bl⟩ := (ok_Line (P := P) (w := w) (base := base) T).ex
  obtain ⟨fdn, Gn, bn⟩ := (ok_Need (P := P) (w := w) (base := base) T).ex
  obtain ⟨fdw, Gw, bw⟩ := (ok_isw (P := P) (w := w) (base := base) T).ex
  have kpw := (ok_isw (P := P) (w := w) (base := base) T).kp
  obtain ⟨fdh, Gh, bh⟩ := (ok_header (P := P) (w := w) (base := base) T).ex
  obtain ⟨fdb, Gb, bb⟩ := (ok_Begins (P := P) (w := w) (base := base) T).ex
  obtain ⟨fdp, Gp, bp⟩ := (ok_procs (P := P) (w := w) (base := base) T).ex
  obtain ⟨fdq, Gq, bq⟩ := (ok_pinit (P := P) (w := w) (base := base) T).ex
  refine Def.mkX T.d_Part_read sc_read (fun vs H Q E h => ?_) (fun _ _ _ _ _ _ us hl => match us, hl with | [_, _], _ => rfl) (fun cdv A outer s H vs Q E hr h => ?_)
  · obtain ⟨_, rfl, _⟩ := h
    rfl
  obtain ⟨t, rfl, ht, hE⟩ := h
  have nd := sc_read.nd
  refine ⟨_, pss_cons (ps_set (i := 2) nd rfl (Or.inl rfl) (pe_make T.mk_Reader Gi (hr.mono (by decide)) (by rfl) T.g_Reader bi .nil pass0 (pa_cons (pv 1) pa_nil)))
    (pss_cons (ps_set (i := 3) nd rfl (Or.inl rfl) (pe_split (pe_meth0 (pv 2) T.cl_Reader T.me_Reader_read_line Gl (hr.mono (by decide)) bl .nil pass0) pe_str))
    (pss_cons (ps_expr (Ms.pe_methS (pv 2) T.cl_Reader T.me_Reader_need Gn (hr.mono (by decide)) bn (fun σ => passAt (takes_of rfl rfl rfl rfl) σ) (pa_cons (pe_ifExp (PW.pt (pw_and (pt_cmpR op_eq (pe_callB call_len_seq (by rfl) T.f_len PySem.boot_len (pa_cons (pv 3) pa_nil)) pe_int (nomark _)) (pw_and (pt_cmpR op_eq (pe_ix (ix_list : IxR _ (rIxL K)) (pv 3) pe_int (fun _ _ => rfl)) pe_str (nomark _)) (pw_and1 (pt_val (pe_call Gw (hr.mono (by decide)) (by rfl) T.g_is_word kpw bw .nil pass0 (pa_cons (pe_ix (ix_list : IxR _ (rIxL K)) (pv 3) pe_int (fun _ _ => rfl)) pa_nil))))))) (pv 3) pe_non) pa_nil)))
    (pss_cons (ps_par (i := 4) (j := 5) (by rfl) nd rfl rfl (by decide) rfl rfl (pa_cons (pe_meth0 (pv 2) T.cl_Reader T.me_Reader_read_header Gh (hr.mono (by decide)) bh .nil pass0) (pa_cons (pe_lst pa_nil) pa_nil)) (by rfl))
    (pss_cons (ps_while (passes_of rfl) (pt_val (pe_meth (pv 2) T.cl_Reader T.me_Reader_begins Gb (hr.mono (by decide)) bb .nil pass0 (pa_cons pe_str pa_nil))) Bp.pss_nev)
    (pss_one (ps_ret (Bp.pe_makeL (i := 0) T.mk_Part Gq hr rfl (Or.inl rfl) bq (passes_call (takes_of rfl rfl rfl rfl) (fun _ _ _ _ h => h)) (pa_cons (pe_ix (ix_list : IxR _ (rIxL K)) (pv 3) pe_int (fun _ _ => rfl)) (pa_cons (pv 4) (pa_cons (pv 5) (pa_cons (Ms.pe_methS0 (pv 2) T.cl_Reader T.me_Reader_read_procedures Gp (hr.mono (by decide)) bp (fun σ => passAt (takes_of rfl rfl rfl rfl) σ)) pa_nil))))))))))), ?_⟩
  obtain ⟨t1, t2⟩ := Bool.and_eq_true_iff.mp (texts_len t ht)
  have t1 := of_decide_eq_true t1
  have t2 := of_decide_eq_true t2
  walk_at "rd"
  refine ⟨_, rfl, fun r dr nr ndr ne => ?_⟩
  have e0 : Ext H (upd H dr (.own r)) := .new ndr
  refine ⟨r, dr, t, rfl, upd_same, t1, t2, fun H1 l k1 R1 => ⟨rfl, ?_⟩⟩
  have nr0 : H r = none := nr
  have E1 : Ext H H1 := Ext.fresh e0 nr0 (((Keep.refl _ _).put List.mem_cons_self).trans k1)
  clear k1 e0 ne
  walk_at "rd"
  refine rdM1 ?_
  walk_at "rd"
  refine Rd.insE R1.r rfl ?_
  walk_at "rd"
  have cases3 : (∃ l0 lr, Txt.split t "\n" = l0 :: lr ∧ l0.length ≤ 1000 ∧ ((Txt.split l0 " ").length ≠ 2 ∨ ∃ y z, Txt.split l0 " " = [y, z] ∧ y ≠ "part") ∧ dueOne t = [.str "text", .int 0]) ∨
      ∃ lr : List Str, Txt.split t "\n" = ("part a" : Str) :: lr ∧ (∀ word : Str, word ≠ "" → NoBeg 1 (("part a" : Str) :: lr) word) ∧ ((lr = [] ∧ dueOne t = [.str "program", .str "kinds", .int (-1), .int 0]) ∨ (lr = [("" : Str)] ∧ dueOne t = [.str "text", .int 1])) := by
    by_cases ha : t = "part a"
    · subst ha
      exact .inr ⟨[], split_a, fun _ _ => .inl rfl, .inl ⟨rfl, if_pos rfl⟩⟩
    by_cases hb : t = "part a\n"
    · subst hb
      exact .inr ⟨[""], split_an, fun word hw => .inr ⟨1, "", "", [], rfl, rfl, by decide, split_e, fun z => hw z.symm⟩, .inr ⟨rfl, by unfold dueOne; rw [if_neg ha, if_pos rfl]⟩⟩
    have h3 := texts3 t ht
    rw [decide_eq_false ha, decide_eq_false hb, Bool.false_or, Bool.false_or] at h3
    obtain ⟨l0, lr, h1, h2, h4⟩ := bad_of h3
    exact .inl ⟨l0, lr, h1, h2, h4, by unfold dueOne; rw [if_neg ha, if_neg hb]⟩
  have nlr : l ≠ r := fun z => by have := R1.l; rw [z, R1.r] at this; cases this
  have k2 : Keep [r] H1 (upd H1 r (.ins (ga K "Reader") dr (rdF l (((0 : Nat) : Int) + 1)))) := (Keep.refl _ _).put List.mem_cons_self
  rcases cases3 with ⟨l0, lr, hs, hl0, hc, hd⟩ | ⟨lr, hs, nb, hd⟩
  · rw [hs] at R1
    refine ⟨r, dr, l, 0, l0, l0 :: lr, rfl, R1, rfl, ⟨_, rfl⟩, ?_⟩
    have R2 : Rdr K (upd H1 r (.ins (ga K "Reader") dr (rdF l (((0 : Nat) : Int) + 1)))) r dr l 1 (l0 :: lr) := ⟨upd_same, (upd_ne nlr).trans R1.l, R1.len⟩
    have E2 : Ext H (upd H1 r (.ins (ga K "Reader") dr (rdF l (((0 : Nat) : Int) + 1)))) := Ext.fresh E1 nr0 k2
    generalize (upd H1 r (.ins (ga K "Reader") dr (rdF l (((0 : Nat) : Int) + 1)))) = H2 at R2 E2 ⊢
    walk_at "rd"
    refine ⟨l0, " ", rfl, rfl, by decide, by have : l0.length + 2 ≤ 1002 := by omega
                                             exact Nat.le_trans this (by decide), fun p np => ?_⟩
    have e3 : Ext H2 (upd H2 p (.lst ((Txt.split l0 " ").map V.str))) := .new np
    have hp3 : (upd H2 p (.lst ((Txt.split l0 " ").map V.str))) p = some (.lst ((Txt.split l0 " ").map V.str)) := upd_same
    have R3 := R2.ext e3
    have E3 := E2.trans e3
    generalize (upd H2 p (.lst ((Txt.split l0 " ").map V.str))) = H3 at R3 E3 hp3 ⊢
    have fin : spNeed K [.ref r, .non] H3 (fun _ _ => True) E := ⟨r, dr, l, 1, _, .non, rfl, R3, fun _ d H5 e5 hd5 => hE _ d H5 (E3.trans e5) (by rw [hd]; exact .text _ _ hd5 rfl), fun z => absurd rfl z⟩
    have fin2 : ∀ Q5 : VK, spNeed K [.ref r, .non] H3 Q5 E := fun Q5 => ⟨r, dr, l, 1, _, .non, rfl, R3, fun _ d H5 e5 hd5 => hE _ d H5 (E3.trans e5) (by rw [hd]; exact .text _ _ hd5 rfl), fun z => absurd rfl z⟩
    clear fin
    walk_at "rd"
    refine Rd.insE R3.r rfl ?_
    walk_at "rd"
    rw [List.length_map, dInt]
    rcases hc with hc | ⟨y, z, hy, hne⟩
    · rw [decide_eq_false (by omega)]
      walk_at "rd"
      exact fin2 _
    · rw [hy] at hp3 ⊢
      rw [show decide ((([y, z] : List Str).length : Int) = 2) = true from rfl]
      walk_at "rd"
      rw [decide_eq_false (show ¬ V.str y = V.str "part" from fun q => hne (V.str.inj q))]
      walk_at "rd"
      exact fin2 _
  · rw [hs] at R1
    refine ⟨r, dr, l, 0, "part a", ("part a" : Str) :: lr, rfl, R1, rfl, ⟨_, rfl⟩, ?_⟩
    have R2 : Rdr K (upd H1 r (.ins (ga K "Reader") dr (rdF l (((0 : Nat) : Int) + 1)))) r dr l 1 (("part a" : Str) :: lr) := ⟨upd_same, (upd_ne nlr).trans R1.l, R1.len⟩
    have E2 : Ext H (upd H1 r (.ins (ga K "Reader") dr (rdF l (((0 : Nat) : Int) + 1)))) := Ext.fresh E1 nr0 k2
    generalize (upd H1 r (.ins (ga K "Reader") dr (rdF l (((0 : Nat) : Int) + 1)))) = H2 at R2 E2 ⊢
    walk_at "rd"
    refine ⟨"part a", " ", rfl, rfl, by decide, by decide, fun p np => ?_⟩
    rw [split_w]
    have e3 : Ext H2 (upd H2 p (.lst (([("part" : Str), "a"] : List Str).map V.str))) := .new np
    have hp3 : (upd H2 p (.lst (([("part" : Str), "a"] : List Str).map V.str))) p = some (.lst [.str "part", .str "a"]) := upd_same
    have R3 := R2.ext e3
    have E3 := E2.trans e3
    generalize (upd H2 p (.lst (([("part" : Str), "a"] : List Str).map V.str))) = H3 at R3 E3 hp3 ⊢
    walk_at "rd"
    refine Rd.insE R3.r rfl ?_
    walk_at "rd"
    rw [show decide (V.int (([V.str "part", V.str "a"] : List V).length : Int) = V.int 2) = true from rfl]
    walk_at "rd"
    rw [decide_eq_true (rfl : V.str "part" = V.str "part")]
    walk_at "rd"
    refine ⟨"a", rfl, by decide, fun H4 e4 => ?_⟩
    have R4 := R3.ext e4
    have E4 := E3.trans e4
    have hp4 := e4 _ _ hp3
    clear hp3 R3 E3 e3
    rw [isw_a]
    walk_at "rd"
    refine ⟨r, dr, l, 1, _, .ref p, rfl, R4, fun z => (nomatch z), fun _ => ?_⟩
    walk_at "rd"
    refine Rd.insE R4.r rfl ?_
    walk_at "rd"
    refine ⟨r, dr, l, 1, _, rfl, R4, nb _ (by decide), nb _ (by decide), nb _ (by decide), fun H5 h k w5 d e5 hh hk => ?_⟩
    have R5 := R4.ext e5
    have E5 := E4.trans e5
    have hp5 := e5 _ _ hp4
    clear hp4 R4 E4
    walk_at "rd"
    intro u nu
    have e6 : Ext H5 (upd H5 u (.lst [])) := .new nu
    have R6 := R5.ext e6
    have E6 := E5.trans e6
    have hp6 := e6 _ _ hp5
    have hh6 := e6 _ _ hh
    have hk6 := hk.ext e6
    generalize (upd H5 u (.lst [])) = H6 at R6 E6 hp6 hh6 hk6 ⊢
    clear hp5 R5 E5 hh hk e6
    walk_at "rd"
    refine ⟨fun m' σ' H' => σ' = [some (.ref (ga K "Part")), some (.str t), some (.ref r), some (.ref p), some (.ref h), some (.ref u)] ∧ H' = H6, ⟨0, rfl, rfl⟩, ?_⟩
    rintro m' σ' H' ⟨rfl, rfl⟩
    walk_at "rd"
    refine Rd.insE R6.r rfl ?_
    walk_at "rd"
    refine ⟨r, dr, l, 1, _, "use", rfl, R6, nb _ (by decide), fun H7 e7 => ?_⟩
    have R7 := R6.ext e7
    have E7 := E6.trans e7
    have hp7 := e7 _ _ hp6
    have hh7 := e7 _ _ hh6
    have hk7 := hk6.ext e7
    walk_at "rd"
    refine ⟨rfl, ?_⟩
    show tMake _ _ _ _ _ _ _ _
    unfold tMake
    walk_at "rd"
    refine Rd.insE R7.r rfl ?_
    walk_at "rd"
    rcases hd with ⟨rfl, hd⟩ | ⟨rfl, hd⟩
    · refine ⟨r, dr, l, _, rfl, .inl ⟨1, R7, rfl, fun H8 pr e8 => ?_⟩⟩
      walk_at "rd"
      intro x dx nx ndx ne
      have e9 : Ext H8 (upd (upd H8 dx (.own x)) x (.ins (ga K "Part") dx [])) := fun b o hb => by
        rw [upd_ne (ne_of_none hb nx), upd_ne (ne_of_none hb ndx)]
        exact hb
      exact ⟨x, h, k, w5, d, .str "a", .ref u, .ref pr, rfl, e9 _ _ (e8 _ _ hh7), (hk7.ext e8).ext e9, fun dd H10 e10 hdd => hE _ dd H10 (((E7.trans e8).trans e9).trans e10) (by rw [hd]; exact .program _ _ _ _ hdd rfl rfl rfl)⟩
    · exact ⟨r, dr, l, _, rfl, .inr ⟨1, R7, rfl, fun dd H8 k8 hdd => hE _ dd H8 (Ext.fresh E7 nr0 k8) (by rw [hd]; exact .text _ _ hdd rfl)⟩⟩
end

end W72
-- D25
set_option Elab.async false
set_option linter.all false
set_option maxRecDepth 100000
set_option maxHeartbeats 400000
namespace W72
open PySem PySem.Spec PyProof.Rows L2 Ft
local macro_rules | `(tactic| walk_at "rd") => `(tactic| (repeat (first
  | with_reducible refine Rd.seq ?_ | with_reducible refine Rd.asg ?_ | with_reducible refine Rd.var rfl ?_ | with_reducible refine Rd.con ?_ | with_reducible refine Rd.op ?_ | with_reducible refine Rd.gname ?_ | with_reducible refine Rd.gsub ?_
  | with_reducible refine Rd.ri0 ?_ | with_reducible refine Rd.mulL (by decide +kernel) ?_ | with_reducible refine Rd.mulR (by decide +kernel) ?_ | with_reducible refine Rd.modK (by decide +kernel) ?_ | with_reducible refine Rd.divK (by decide +kernel) ?_
  | with_reducible refine Rd.test ?_ | with_reducible refine Rd.bk ?_ | with_reducible refine Rd.cons ?_ | with_reducible refine Rd.nil ?_ | with_reducible refine Rd.ret ?_ | with_reducible refine Rd.retN ?_ | with_reducible refine Rd.ifs ?_
  | with_reducible refine Rd.nxt ?_ | with_reducible refine Rd.ixl (by with_reducible assumption) rfl ?_ | with_reducible refine Rd.ixl upd_same rfl ?_ | with_reducible refine Rd.setl (by with_reducible assumption) rfl ?_ | with_reducible refine Rd.setl upd_same rfl ?_
  | with_reducible refine Rd.cb ?_ | with_reducible refine Rd.andT ?_ | with_reducible refine Rd.orT ?_ | with_reducible refine Rd.notT ?_ | with_reducible refine Rd.ifexp ?_ | with_reducible refine Rd.req rfl ?_ | with_reducible refine Rd.rne rfl ?_
  | with_reducible refine Rd.tup ?_ | with_reducible refine Rd.lst ?_ | with_reducible refine Rd.dget0 ?_ | with_reducible refine Rd.dput0 ?_ | with_reducible refine Rd.fld0 ?_ | with_reducible refine Rd.sfld0 ?_ | with_reducible refine Rd.sl ?_
  | with_reducible refine Rd.nopart ?_ | with_reducible refine Rd.part0 ?_ | with_reducible refine Rd.intE ?_ | with_reducible refine Rd.un ?_ | with_reducible refine Rd.ru ?_ | with_reducible refine Rd.expr ?_
  | with_reducible refine Rd.gcons ?_ | with_reducible refine Rd.gnil ?_ | with_reducible refine Rd.call ?_ | with_reducible refine lc_inT ?_ | with_reducible refine lc_inL ?_
  | with_reducible refine Rd.lenL (by with_reducible assumption) ?_ | with_reducible refine Rd.lenT (by with_reducible assumption) ?_ | with_reducible refine Rd.gtup (by with_reducible assumption) rfl ?_
  | with_reducible refine Rd.dgetE (by with_reducible assumption) rfl ?_ | with_reducible refine Rd.dgetE upd_same rfl ?_ | with_reducible refine Rd.dputE (by with_reducible assumption) (by decide) ?_ | with_reducible refine Rd.dputE upd_same (by decide) ?_
  | with_reducible refine Rd.line (by first | decide | simp) ?_ | with_reducible refine Rd.yes ?_ | with_reducible refine Rd.asg2 ?_ | with_reducible refine Rd.tupF ?_ | with_reducible refine Rd.meth0 ?_ | with_reducible refine Rd.prop0 ?_ | with_reducible refine mko ?_ | with_reducible refine Rd.ifNT ?_ | with_reducible refine Rd.ifNF ?_ | with_reducible refine Rd.tbE ?_ | with_reducible refine Rd.andV ?_ | with_reducible refine Rd.chain ?_ | with_reducible refine Rd.methS ?_ | with_reducible refine Rd.bm ?_ | with_reducible refine Rd.callS ?_ | with_reducible refine Rd.xf0 ?_ | with_reducible refine Rd.ifT ?_ | with_reducible refine Rd.ifF ?_ | with_reducible refine Rd.par ?_ | with_reducible refine Rd.parE ?_ | dsimp only [])))
local macro_rules | `(tactic| walk_at "hp") => `(tactic| (first | assumption | exact upd_same | grind [upd]))
/-! ### part_of, Program.__init__, check_together, joined, link, build -/
theorem rdTV {σ : L2.St} {H : Hp} {Q : VK} {td : TE} (q : td σ H fun x H1 => ∃ a, x = V.ref a ∧ H1 a = some (.dK []) ∧ ∀ p o, H1 p = none → o.dict = none → Q (.ref p) (upd H1 p (.frz o (.tup [])))) : Vl.tTupVals td σ H Q := q
theorem rdDc {σ : L2.St} {H : Hp} {Q : VK} {wi : L2.TI} (q : wi σ H fun J H1 => ∀ D, H1 D = none → J.stop 0 (upd H1 D (.dK [])) ∧ Q (.ref D) (upd H1 D (.dK []))) : Vl.tDc0 wi σ H Q := q
theorem pi_nev {X : Cx} {tg e : Expr} : PI X tg e (fun _ _ _ => False) := ⟨fun _ _ _ _ _ _ h => False.elim h⟩
def spPartOf (K : PySem.W.Frag) : Sp := fun vs H _ E => ∃ (x dw k p kp : Addr) (fl : Int) (t : Str), vs = [.ref x, .str t] ∧ H x = some (.ins (ga K "Workshop") dw (wsF k p fl kp)) ∧ H kp = some (.dK []) ∧ t ∈ texts7 ∧ ∀ cls d H', Ext H H' → Told K H' d cls (dueOne t) → E cls (some d) H'
def spGInit (K : PySem.W.Frag) : Sp := fun vs H _ E => ∃ (o k : Addr) (wv dv pv : V), vs = [.ref o, .ref k, wv, dv, pv] ∧ FT H k [] ∧ Err K "InvalidProgram" noKinds H E
def spTog : Sp := fun vs H Q _ => ∃ p : Addr, vs = [.ref p] ∧ H p = some (.lst []) ∧ Q .non H
def spJoin (K : PySem.W.Frag) : Sp := fun vs H _ E => ∃ p : Addr, vs = [.ref p] ∧ H p = some (.lst []) ∧ Err K "InvalidProgram" noKinds H E
section
variable {P : Program} {w : World} {K : PySem.W.Frag} {mg : Str → Option Value} {base : Heap}
theorem sc_partof : FnScope ["self", "text"] ["self", "text"] (defScope s_Workshop_part_of) := ⟨rfl, rfl, rfl, by decide +kernel, rfl, by decide +kernel, by decide +kernel⟩
theorem ok_partof (T : T72 K mg) : Def P w K mg base (L2.CX P w) 7 (ma K (ga K "Workshop") "part_of") ["self", "text"] (spPartOf K) := by
  obtain ⟨fdr, Gr, br⟩ := (ok_read (P := P) (w := w) (base := base) T).ex
  obtain ⟨cr, cm⟩ := T.cm_read
  refine Def.mkX T.d_Workshop_part_of sc_partof (fun vs H Q E h => ?_) (fun _ _ _ _ _ _ us hl => match us, hl with | [_, _], _ => rfl) (fun cdv A outer s H vs Q E hr h => ?_)
  · obtain ⟨_, _, _, _, _, _, _, rfl, _⟩ := h
    rfl
  obtain ⟨x, dw, k, p, kp, fl, t, rfl, hx, hkp, ht, hE⟩ := h
  have hu := hu_of hr
  refine ⟨_, pss_cons (ps_if (pt_cmp (pc_dnotin hu (pv 1) (pe_fld (pv 0) rfl))) (pss_one (ps_asg (ClX.pe_cmeth (pe_glob (v := .ref (ga K "Part")) (by rfl) T.g_Part rfl) cr cm (FnOk.raw Gr br .nil) hr (passes_call (takes_of rfl rfl rfl rfl) (fun _ _ _ _ h => h)) (pa_cons (pv 1) pa_nil)) Bp.pg_nev)) pss_nil) Bp.pss_nev, ?_⟩
  walk_at "rd"
  refine ⟨.str t, rfl, ?_⟩
  walk_at "rd"
  refine Rd.fldE' hx T.cl_Workshop T.na_Workshop_known_parts rfl ?_
  refine ⟨kp, _, rfl, DGet.k (k := Sum.inr t) hkp, _, rfl, ?_⟩
  refine Rd.ifT ?_
  refine Rd.asg ?_
  refine ⟨rfl, ?_⟩
  walk_at "rd"
  exact ⟨t, rfl, ht, hE⟩
theorem sc_ginit : FnScope ["self", "kinds", "wells", "dishes", "procedures", "header", "at", "parts", "found", "name", "kind"] ["self", "kinds", "wells", "dishes", "procedures"] (defScope s_Program_init) := ⟨rfl, rfl, rfl, by decide +kernel, rfl, by decide +kernel, by decide +kernel⟩
theorem ok_ginit (T : T72 K mg) : Def P w K mg base (L2.CX P w) 4 (ma K (ga K "Program") "__init__") ["self", "kinds", "wells", "dishes", "procedures"] (spGInit K) := by
  obtain ⟨fdc, Gc, bc⟩ := (ok_check (P := P) (w := w) (base := base) T).ex
  have kpc := (ok_check (P := P) (w := w) (base := base) T).kp
  refine Def.mkX T.d_Program_init sc_ginit (fun vs H Q E h => ?_) (fun _ _ _ _ _ _ us hl => match us, hl with | [_, _, _, _, _], _ => rfl) (fun cdv A outer s H vs Q E hr h => ?_)
  · obtain ⟨_, _, _, _, _, rfl, _⟩ := h
    rfl
  obtain ⟨o, k, wv, dv, pv', rfl, hk, hE⟩ := h
  refine ⟨_, pss_cons (ps_expr (pe_callS Gc hr (by rfl) T.g_check_header kpc bc (fun σ => passAt (takes_of rfl rfl rfl rfl) σ) (pa_cons (pv 1) (pa_cons (pv 2) (pa_cons (pv 3) pa_nil))))) Bp.pss_nev, ?_⟩
  walk_at "rd"
  exact ⟨k, wv, dv, rfl, hk, hE⟩
abbrev N_tog : List Str := ["parts", "index", "part", "k", "known", "other", "one", "name", "use"]
theorem sc_tog : FnScope N_tog ["parts"] (defScope s_check_together) := ⟨rfl, rfl, rfl, by decide +kernel, rfl, by decide +kernel, by decide +kernel⟩
theorem ok_tog (T : T72 K mg) : Def P w K mg base CX0 1 (ga K "check_together") ["parts"] spTog := by
  refine Def.mk0 T.d_check_together sc_tog (fun vs H Q E h => ?_) (fun _ _ _ _ _ _ us hl => match us, hl with | [_], _ => rfl) (fun cdv A outer s H vs Q E hr h => ?_)
  · obtain ⟨_, rfl, _⟩ := h
    rfl
  obtain ⟨p, rfl, hp, hQ⟩ := h
  refine ⟨_, pss_cons (ps_for PassesOwn.never rfl (pi_enum (by rfl) T.f_enumerate (pa_cons (pv 0) pa_nil)) Bp.pg_nev Bp.pss_nev)
    (pss_cons (ps_for PassesOwn.never rfl (pi_enum (by rfl) T.f_enumerate (pa_cons (pv 0) pa_nil)) Bp.pg_nev Bp.pss_nev)
    (pss_cons (ps_for PassesOwn.never rfl (pi_enum (by rfl) T.f_enumerate (pa_cons (pv 0) pa_nil)) Bp.pg_nev Bp.pss_nev)
    (pss_one (ps_for PassesOwn.never rfl (pi_enum (by rfl) T.f_enumerate (pa_cons (pv 0) pa_nil)) Bp.pg_nev Bp.pss_nev)))), ?_⟩
  have S : SqL K H p [] := .of hp
  walk_at "rd"
  refine ⟨.ref p, rfl, p, [], rfl, S, ?_⟩
  refine Bp.enum_noL (K := K) (g := fun _ _ _ _ => False) (tb := fun _ _ _ => False) S ?_
  walk_at "rd"
  refine ⟨.ref p, rfl, p, [], rfl, S, ?_⟩
  refine Bp.enum_noL (K := K) (g := fun _ _ _ _ => False) (tb := fun _ _ _ => False) S ?_
  walk_at "rd"
  refine ⟨.ref p, rfl, p, [], rfl, S, ?_⟩
  refine Bp.enum_noL (K := K) (g := fun _ _ _ _ => False) (tb := fun _ _ _ => False) S ?_
  refine ⟨.ref p, rfl, p, [], rfl, S, ?_⟩
  exact Bp.enum_noL (K := K) (g := fun _ _ _ _ => False) (tb := fun _ _ _ => False) S hQ
end

end W72
-- D26
set_option Elab.async false
set_option linter.all false
set_option maxRecDepth 100000
set_option maxHeartbeats 400000
namespace W72
open PySem PySem.Spec PyProof.Rows L2 Ft
local macro_rules | `(tactic| walk_at "rd") => `(tactic| (repeat (first
  | with_reducible refine Rd.seq ?_ | with_reducible refine Rd.asg ?_ | with_reducible refine Rd.var rfl ?_ | with_reducible refine Rd.con ?_ | with_reducible refine Rd.op ?_ | with_reducible refine Rd.gname ?_ | with_reducible refine Rd.gsub ?_
  | with_reducible refine Rd.ri0 ?_ | with_reducible refine Rd.mulL (by decide +kernel) ?_ | with_reducible refine Rd.mulR (by decide +kernel) ?_ | with_reducible refine Rd.modK (by decide +kernel) ?_ | with_reducible refine Rd.divK (by decide +kernel) ?_
  | with_reducible refine Rd.test ?_ | with_reducible refine Rd.bk ?_ | with_reducible refine Rd.cons ?_ | with_reducible refine Rd.nil ?_ | with_reducible refine Rd.ret ?_ | with_reducible refine Rd.retN ?_ | with_reducible refine Rd.ifs ?_
  | with_reducible refine Rd.nxt ?_ | with_reducible refine Rd.ixl (by with_reducible assumption) rfl ?_ | with_reducible refine Rd.ixl upd_same rfl ?_ | with_reducible refine Rd.setl (by with_reducible assumption) rfl ?_ | with_reducible refine Rd.setl upd_same rfl ?_
  | with_reducible refine Rd.cb ?_ | with_reducible refine Rd.andT ?_ | with_reducible refine Rd.orT ?_ | with_reducible refine Rd.notT ?_ | with_reducible refine Rd.ifexp ?_ | with_reducible refine Rd.req rfl ?_ | with_reducible refine Rd.rne rfl ?_
  | with_reducible refine Rd.tup ?_ | with_reducible refine Rd.lst ?_ | with_reducible refine Rd.dget0 ?_ | with_reducible refine Rd.dput0 ?_ | with_reducible refine Rd.fld0 ?_ | with_reducible refine Rd.sfld0 ?_ | with_reducible refine Rd.sl ?_
  | with_reducible refine Rd.nopart ?_ | with_reducible refine Rd.part0 ?_ | with_reducible refine Rd.intE ?_ | with_reducible refine Rd.un ?_ | with_reducible refine Rd.ru ?_ | with_reducible refine Rd.expr ?_
  | with_reducible refine Rd.gcons ?_ | with_reducible refine Rd.gnil ?_ | with_reducible refine Rd.call ?_ | with_reducible refine lc_inT ?_ | with_reducible refine lc_inL ?_
  | with_reducible refine Rd.lenL (by with_reducible assumption) ?_ | with_reducible refine Rd.lenT (by with_reducible assumption) ?_ | with_reducible refine Rd.gtup (by with_reducible assumption) rfl ?_
  | with_reducible refine Rd.dgetE (by with_reducible assumption) rfl ?_ | with_reducible refine Rd.dgetE upd_same rfl ?_ | with_reducible refine Rd.dputE (by with_reducible assumption) (by decide) ?_ | with_reducible refine Rd.dputE upd_same (by decide) ?_
  | with_reducible refine Rd.line (by first | decide | simp) ?_ | with_reducible refine Rd.yes ?_ | with_reducible refine Rd.asg2 ?_ | with_reducible refine Rd.tupF ?_ | with_reducible refine Rd.meth0 ?_ | with_reducible refine Rd.prop0 ?_ | with_reducible refine mko ?_ | with_reducible refine Rd.ifNT ?_ | with_reducible refine Rd.ifNF ?_ | with_reducible refine Rd.tbE ?_ | with_reducible refine Rd.andV ?_ | with_reducible refine Rd.chain ?_ | with_reducible refine Rd.methS ?_ | with_reducible refine Rd.bm ?_ | with_reducible refine Rd.callS ?_ | with_reducible refine Rd.xf0 ?_ | with_reducible refine Rd.ifT ?_ | with_reducible refine Rd.ifF ?_ | with_reducible refine Rd.par ?_ | with_reducible refine Rd.parE ?_ | dsimp only [])))
local macro_rules | `(tactic| walk_at "hp") => `(tactic| (first | assumption | exact upd_same | grind [upd]))
/-! ### joined, link, build -/
section
variable {P : Program} {w : World} {K : PySem.W.Frag} {mg : Str → Option Value} {base : Heap}
abbrev N_join : List Str := ["parts", "header", "k", "part", "own", "one"]
theorem sc_join : FnScope N_join ["parts"] (defScope s_joined) := ⟨rfl, rfl, rfl, by decide +kernel, rfl, by decide +kernel, by decide +kernel⟩
abbrev scJ : Scope := { kind := .function, names := [(".0", .local), ("k", .cell), ("tuple", .globalImplicit), ("parts", .free)], isGenerator := false, isCoroutine := false }
def JoinInv (D : Addr) (H1 : Hp) (i : Nat) (H : Hp) : Prop := Ext H1 H ∧ ∃ as : List Addr, H D = some (.lst (as.map V.ref)) ∧ as.length = i ∧ ∀ a ∈ as, FT H a []
set_option maxHeartbeats 4000000 in
theorem ok_join (T : T72 K mg) : Def P w K mg base (L2.CX P w) 6 (ga K "joined") ["parts"] (spJoin K) := by
  obtain ⟨fdg, Gg, bg⟩ := (ok_ginit (P := P) (w := w) (base := base) T).ex
  refine Def.mkX T.d_joined sc_join (fun vs H Q E h => ?_) (fun _ _ _ _ _ _ us hl => match us, hl with | [_], _ => rfl) (fun cdv A outer s H vs Q E hr h => ?_)
  · obtain ⟨_, rfl, _⟩ := h
    rfl
  obtain ⟨p, rfl, hp, hE⟩ := h
  have nd := sc_join.nd
  refine ⟨_, pss_cons (ps_setLc (i := 1) (own := [("k", 2)]) (g := gName 2) (tt := tYes) (by rfl) nd rfl rfl (sw_true rfl rfl rfl (by decide +kernel)) (pi_range1 (by rfl) T.f_range (pa_cons pe_int pa_nil))
      (blkOk_by (N := N_join) (sc := defScope s_joined) (by decide +kernel)) (fun _ _ _ _ _ => pg_name (i := 2) nd rfl (by first | exact Or.inl rfl | exact Or.inr rfl)) (fun _ _ _ _ _ => pts_nil)
      (fun _ _ _ _ _ => Vl.pe_tupVals rfl (by rfl) T.f_tuple (Vl.pe_dc0 (own := [("one", 5), ("part", 3)]) (wi := iList K (tVar 0)) rfl nd (pi_list (pv 0)) (blkOk_by (N := N_join) (sc := relS scJ (defScope s_joined)) (by decide +kernel)))))
    (pss_one (ps_ret (pe_make T.mk_Program Gg hr (by rfl) T.g_Program bg .nil (passes_call (takes_of rfl rfl rfl rfl) (fun _ _ _ _ h => h)) (pa_cons (pe_ix (ix_list : IxR _ (rIxL K)) (pv 1) pe_int (fun _ _ => rfl)) (pa_cons (pe_ix (ix_list : IxR _ (rIxL K)) (pv 1) pe_int (fun _ _ => rfl)) (pa_cons (pe_ix (ix_list : IxR _ (rIxL K)) (pv 1) pe_int (fun _ _ => rfl)) (pa_cons
      (pe_lc2 (own := [("own", 4), ("part", 3)]) (vs1 := [4]) (g := gName 3) (tt := tYes) (wi1 := fun _ _ _ => False) (g1 := fun _ _ _ _ => False) (tt1 := tYes) (te := fun _ _ _ => False) rfl nd (pi_list (pv 0)) (blkOk_by (N := N_join) (sc := defScope s_joined) (by decide +kernel)) (by decide)
        (fun _ _ _ _ _ => pg_name (i := 3) nd rfl (by first | exact Or.inl rfl | exact Or.inr rfl)) (fun _ _ _ _ _ => pts_nil) (fun _ _ _ _ _ => pi_nev) (fun _ _ _ _ _ => Bp.pg_nev) (fun _ _ _ _ _ => pts_nil) (fun _ _ _ _ _ => Bp.pe_nev)) pa_nil))))))), ?_⟩
  have S : ∀ {H' : Hp}, Ext H H' → SqL K H' p [] := fun e => .of (e _ _ hp)
  walk_at "rd"
  refine ⟨3, rfl, by decide, by decide, ?_⟩
  intro D nD
  refine lc_range (lo := 0) (n := 3) (JoinInv D H) ⟨.new nD, [], upd_same, rfl, fun _ z => (nomatch z)⟩ (fun i H1 hi inv => ?_) (fun H1 inv => ?_)
  · obtain ⟨e1, as, hD, hl, has⟩ := inv
    walk_at "rd"
    refine ⟨rfl, ?_⟩
    walk_at "rd"
    refine rdTV ?_
    refine rdDc ?_
    refine ⟨.ref p, rfl, p, rfl, ⟨_, S e1⟩, fun d nd' => ⟨⟨[], S (e1.newL nd'), Nat.zero_le _⟩, d, rfl, upd_same, fun q o nq ho => ?_⟩⟩
    have e2 : Ext H1 (upd H1 d (.dK [])) := .new nd'
    have e3 : Ext H1 (upd (upd H1 d (.dK [])) q (.frz o (.tup []))) := e2.newL nq
    have hq : FT (upd (upd H1 d (.dK [])) q (.frz o (.tup []))) q [] := ⟨o, upd_same, ho⟩
    generalize (upd (upd H1 d (.dK [])) q (.frz o (.tup []))) = H2 at e3 hq ⊢
    have hDq : ∀ {a : Addr}, FT H2 a [] → a ≠ D := fun {a} ⟨_, h, _⟩ z => by rw [z, e3 _ _ hD] at h; cases h
    refine ⟨as.map V.ref, e3 _ _ hD, by rw [List.length_map, hl]; exact small1000 (by omega), ?_, as ++ [q], by rw [List.map_append]; exact upd_same, by rw [List.length_append, hl]; rfl, fun a ha => ?_⟩
    · intro b u h
      rw [upd_ne (ne_of_none h nD)]
      exact e3 _ _ (e1 _ _ h)
    · have go : FT H2 a [] → FT (upd H2 D (.lst (as.map V.ref ++ [.ref q]))) a [] := fun h => let ⟨o, h1, h2⟩ := h; ⟨o, (upd_ne (hDq h)).trans h1, h2⟩
      rcases List.mem_append.mp ha with ha | ha
      · exact go ((has a ha).ext e3)
      · have e := List.mem_singleton.mp ha
        subst e
        exact go hq
  · obtain ⟨e1, as, hD, hl, has⟩ := inv
    match as, hl with
    | [a0, a1, a2], _ =>
      walk_at "rd"
      unfold tMake
      have hD' : H1 D = some (.lst [.ref a0, .ref a1, .ref a2]) := hD
      clear hD
      walk_at "rd"
      refine ⟨.ref p, rfl, p, rfl, ⟨_, S e1⟩, fun D2 nD2 => ⟨fun i m H' => H' = upd H1 D2 (.lst []), ⟨0, rfl⟩, fun i m H' h2 => .inl ⟨?_, ?_⟩⟩⟩
      · rw [h2]
        exact ⟨[], S (e1.newL nD2), Nat.zero_le _⟩
      · subst h2
        have e2 : Ext H1 (upd H1 D2 (.lst [])) := .new nD2
        generalize (upd H1 D2 (.lst [])) = H2 at e2 ⊢
        walk_at "rd"
        intro x dx nx ndx ne
        have e3 : Ext H2 (upd (upd H2 dx (.own x)) x (.ins (ga K "Program") dx [])) := fun b o hb => by
          rw [upd_ne (ne_of_none hb nx), upd_ne (ne_of_none hb ndx)]
          exact hb
        exact ⟨x, a0, .ref a1, .ref a2, .ref D2, rfl, ((has a0 (by simp)).ext e2).ext e3, fun d H' e hd => hE d H' (((e1.trans e2).trans e3).trans e) hd⟩
def spLink (K : PySem.W.Frag) : Sp := spJoin K
abbrev N_link : List Str := ["parts", "told", "index", "part", "use", "claimed", "why", "caller"]
theorem sc_link : FnScope N_link ["parts"] (defScope s_link) := ⟨rfl, rfl, rfl, by decide +kernel, rfl, by decide +kernel, by decide +kernel⟩
theorem ok_link (T : T72 K mg) : Def P w K mg base (L2.CX P w) 7 (ga K "link") ["parts"] (spJoin K) := by
  obtain ⟨fdt, Gt, bt⟩ := (ok_tog (P := P) (w := w) (base := base) T).ex
  have kpt := (ok_tog (P := P) (w := w) (base := base) T).kp
  obtain ⟨fdj, Gj, bj⟩ := (ok_join (P := P) (w := w) (base := base) T).ex
  have kpj := (ok_join (P := P) (w := w) (base := base) T).kp
  refine Def.mkX T.d_link sc_link (fun vs H Q E h => ?_) (fun _ _ _ _ _ _ us hl => match us, hl with | [_], _ => rfl) (fun cdv A outer s H vs Q E hr h => ?_)
  · obtain ⟨_, rfl, _⟩ := h
    rfl
  obtain ⟨p, rfl, hp, hE⟩ := h
  have nd := sc_link.nd
  refine ⟨_, pss_cons (ps_expr (pe_call Gt (hr.mono (by decide)) (by rfl) T.g_check_together kpt bt .nil pass0 (pa_cons (pv 0) pa_nil)))
    (pss_cons (ps_set (i := 1) nd rfl (Or.inl rfl) pe_dnewK)
    (pss_cons (ps_for (passes_of rfl) rfl (pi_enum (by rfl) T.f_enumerate (pa_cons (pv 0) pa_nil)) Bp.pg_nev Bp.pss_nev)
    (pss_one (ps_ret (pe_callS Gj hr (by rfl) T.g_joined kpj bj (fun σ => passAt (takes_of rfl rfl rfl rfl) σ) (pa_cons (pv 0) pa_nil)))))), ?_⟩
  walk_at "rd"
  refine ⟨p, rfl, hp, ?_⟩
  walk_at "rd"
  intro d nd'
  have e1 : Ext H (upd H d (.dK [])) := .new nd'
  have S : SqL K (upd H d (.dK [])) p [] := .of (e1 _ _ hp)
  walk_at "rd"
  refine ⟨.ref p, rfl, p, [], rfl, S, ?_⟩
  refine Bp.enum_noL (K := K) (g := fun _ _ _ _ => False) (tb := fun _ _ _ => False) S ?_
  walk_at "rd"
  exact ⟨p, rfl, e1 _ _ hp, fun dd H' e hd => hE dd H' (e1.trans e) hd⟩
abbrev N_build : List Str := ["self", "found", "index", "part", "name", "text"]
theorem sc_build : FnScope N_build ["self"] (defScope s_Workshop_build) := ⟨rfl, rfl, rfl, by decide +kernel, rfl, by decide +kernel, by decide +kernel⟩
theorem ok_build (T : T72 K mg) : Def P w K mg base (L2.CX P w) 12 (ma K (ga K "Workshop") "build") ["self"] (spBuild K) := by
  obtain ⟨fdo, Go, bo⟩ := (ok_partof (P := P) (w := w) (base := base) T).ex
  obtain ⟨fdl, Gl, bl⟩ := (ok_link (P := P) (w := w) (base := base) T).ex
  have kpl := (ok_link (P := P) (w := w) (base := base) T).kp
  refine Def.mkX T.d_Workshop_build sc_build (fun vs H Q E h => ?_) (fun _ _ _ _ _ _ us hl => match us, hl with | [_], _ => rfl) (fun cdv A outer s H vs Q E hr h => ?_)
  · obtain ⟨_, _, _, _, rfl, _⟩ := h
    rfl
  obtain ⟨x, rows, past, fl, rfl, ws, ok, hE⟩ := h
  have nd := sc_build.nd
  refine ⟨_, pss_cons (ps_set (i := 1) nd rfl (Or.inl rfl) (pe_lst pa_nil))
    (pss_cons (ps_for (passes_of rfl) rfl (Ft.pi_enumT (by rfl) T.f_enumerate (pa_cons (pe_fld (pv 0) rfl) pa_nil)) (pg_tup (by rfl) (pgs_cons (pg_name (i := 2) nd rfl (Or.inl rfl)) (pgs_cons (pg_tup (by rfl) (pgs_cons (pg_name (i := 4) nd rfl (Or.inl rfl)) (pgs_cons (pg_name (i := 5) nd rfl (Or.inl rfl)) pgs_nil))) pgs_nil)))
      (pss_cons (ps_set (i := 3) nd rfl (Or.inl rfl) (Ms.pe_methS (pv 0) T.cl_Workshop T.me_Workshop_part_of Go (hr.mono (by decide)) bo (fun σ => passAt (takes_of rfl rfl rfl rfl) σ) (pa_cons (pv 5) pa_nil))) Bp.pss_nev))
    (pss_one (ps_ret (pe_callS Gl (hr.mono (by decide)) (by rfl) T.g_link kpl bl (fun σ => passAt (takes_of rfl rfl rfl rfl) σ) (pa_cons (pv 1) pa_nil))))), ?_⟩
  obtain ⟨dw, k, p, kp, hx, ⟨as, hk, pas⟩, hp, hkp⟩ := id ws
  walk_at "rd"
  intro f nf
  have e1 : Ext H (upd H f (.lst [])) := .new nf
  have hf : (upd H f (.lst [])) f = some (.lst []) := upd_same
  generalize (upd H f (.lst [])) = H1 at e1 hf ⊢
  walk_at "rd"
  unfold tFor Ft.iEnumT
  walk_at "rd"
  refine Rd.fldE' (e1 _ _ hx) T.cl_Workshop T.na_Workshop_kept_texts rfl ?_
  walk_at "rd"
  refine ⟨k, as.map V.ref, rfl, (hk.ext e1).sq, ?_⟩
  refine ⟨fun i m σ' H' => i = 0 ∧ σ' = [some (.ref x), some (.ref f), none, none, none, none] ∧ H' = H1, ⟨0, rfl, rfl, rfl⟩, ?_⟩
  rintro i m σ' H' ⟨rfl, rfl, rfl⟩
  have sq := (hk.ext e1).sq (K := K)
  cases pas with
  | nil =>
    refine .inl ⟨⟨[], sq, Nat.zero_le _⟩, ?_⟩
    walk_at "rd"
    refine ⟨f, rfl, hf, fun dd H2 e2 hd => hE _ dd H2 (e1.trans e2) ?_⟩
    rw [show dueT [] = [.str "program", .str "kinds", .int (-1), .int 0] from if_pos (.inl rfl)]
    exact .program _ _ _ _ hd rfl rfl rfl
  | @cons a r as' rs h1 h2 =>
    refine .inr ⟨⟨_, .ref a, sq, rfl⟩, fun _ _ => False, fun _ _ z => z.elim, fun y H2 yd => ?_⟩
    obtain ⟨T', v, rfl, nT, rfl, hv⟩ := yd
    have ev : V.ref a = v := Option.some.inj (hv _ sq)
    subst ev
    have e2 : Ext H' (upd H' T' (.tup [.int ((0 : Nat) : Int), .ref a])) := .new nT
    refine Rd.gtup (xs := [.int ((0 : Nat) : Int), .ref a]) upd_same rfl ?_
    have E2 := e1.trans e2
    generalize (upd H' T' (.tup [.int ((0 : Nat) : Int), .ref a])) = H3 at e2 E2 ⊢
    have ha3 : H3 a = some (.tup [.str r.1, .str r.2]) := E2 _ _ h1
    walk_at "rd"
    refine Rd.insE (E2 _ _ hx) rfl ?_
    walk_at "rd"
    refine ⟨x, dw, k, p, kp, fl, r.2, rfl, E2 _ _ hx, E2 _ _ hkp, ok.tx r List.mem_cons_self, fun cls dd H4 e4 ht => hE cls dd H4 (E2.trans e4) ?_⟩
    rw [due_one]
    exact ht
end

end W72
-- D27
set_option Elab.async false
set_option linter.all false
set_option maxRecDepth 100000
set_option maxHeartbeats 400000
namespace W72
open PySem PySem.Spec PyProof.Rows L2 Ft
local macro_rules | `(tactic| walk_at "rd") => `(tactic| (repeat (first
  | with_reducible refine Rd.seq ?_ | with_reducible refine Rd.asg ?_ | with_reducible refine Rd.var rfl ?_ | with_reducible refine Rd.con ?_ | with_reducible refine Rd.op ?_ | with_reducible refine Rd.gname ?_ | with_reducible refine Rd.gsub ?_
  | with_reducible refine Rd.ri0 ?_ | with_reducible refine Rd.mulL (by decide +kernel) ?_ | with_reducible refine Rd.mulR (by decide +kernel) ?_ | with_reducible refine Rd.modK (by decide +kernel) ?_ | with_reducible refine Rd.divK (by decide +kernel) ?_
  | with_reducible refine Rd.test ?_ | with_reducible refine Rd.bk ?_ | with_reducible refine Rd.cons ?_ | with_reducible refine Rd.nil ?_ | with_reducible refine Rd.ret ?_ | with_reducible refine Rd.retN ?_ | with_reducible refine Rd.ifs ?_
  | with_reducible refine Rd.nxt ?_ | with_reducible refine Rd.ixl (by with_reducible assumption) rfl ?_ | with_reducible refine Rd.ixl upd_same rfl ?_ | with_reducible refine Rd.setl (by with_reducible assumption) rfl ?_ | with_reducible refine Rd.setl upd_same rfl ?_
  | with_reducible refine Rd.cb ?_ | with_reducible refine Rd.andT ?_ | with_reducible refine Rd.orT ?_ | with_reducible refine Rd.notT ?_ | with_reducible refine Rd.ifexp ?_ | with_reducible refine Rd.req rfl ?_ | with_reducible refine Rd.rne rfl ?_
  | with_reducible refine Rd.tup ?_ | with_reducible refine Rd.lst ?_ | with_reducible refine Rd.dget0 ?_ | with_reducible refine Rd.dput0 ?_ | with_reducible refine Rd.fld0 ?_ | with_reducible refine Rd.sfld0 ?_ | with_reducible refine Rd.sl ?_
  | with_reducible refine Rd.nopart ?_ | with_reducible refine Rd.part0 ?_ | with_reducible refine Rd.intE ?_ | with_reducible refine Rd.un ?_ | with_reducible refine Rd.ru ?_ | with_reducible refine Rd.expr ?_
  | with_reducible refine Rd.gcons ?_ | with_reducible refine Rd.gnil ?_ | with_reducible refine Rd.call ?_ | with_reducible refine lc_inT ?_ | with_reducible refine lc_inL ?_
  | with_reducible refine Rd.lenL (by with_reducible assumption) ?_ | with_reducible refine Rd.lenT (by with_reducible assumption) ?_ | with_reducible refine Rd.gtup (by with_reducible assumption) rfl ?_
  | with_reducible refine Rd.dgetE (by with_reducible assumption) rfl ?_ | with_reducible refine Rd.dgetE upd_same rfl ?_ | with_reducible refine Rd.dputE (by with_reducible assumption) (by decide) ?_ | with_reducible refine Rd.dputE upd_same (by decide) ?_
  | with_reducible refine Rd.line (by first | decide | simp) ?_ | with_reducible refine Rd.yes ?_ | with_reducible refine Rd.asg2 ?_ | with_reducible refine Rd.tupF ?_ | with_reducible refine Rd.meth0 ?_ | with_reducible refine Rd.prop0 ?_ | with_reducible refine mko ?_ | with_reducible refine Rd.ifNT ?_ | with_reducible refine Rd.ifNF ?_ | with_reducible refine Rd.tbE ?_ | with_reducible refine Rd.andV ?_ | with_reducible refine Rd.chain ?_ | with_reducible refine Rd.methS ?_ | with_reducible refine Rd.bm ?_ | with_reducible refine Rd.callS ?_ | with_reducible refine Rd.xf0 ?_ | with_reducible refine Rd.ifT ?_ | with_reducible refine Rd.ifF ?_ | with_reducible refine Rd.par ?_ | with_reducible refine Rd.parE ?_ | dsimp only [])))
local macro_rules | `(tactic| walk_at "hp") => `(tactic| (first | assumption | exact upd_same | grind [upd]))
/-! ### law -/
theorem SqL.keepN {K : PySem.W.Frag} {H H' : Hp} {a : Addr} {xs : List V} (h : SqL K H a xs) (k : KeepN [] H H') : SqL K H' a xs := by
  rcases h with (h | ⟨o, h⟩) | h
  · exact .inl (.inl (k _ _ h (fun z => nomatch z) (fun _ z => by cases z)))
  · exact .inl (.inr ⟨o, k _ _ h (fun z => nomatch z) (fun _ z => by cases z)⟩)
  · exact .inr h
def spLaw (K : PySem.W.Frag) (Pd Pb : Addr) : Sp := fun vs H Q _ => ∃ (a : Addr) (ns : List Int), vs = [.ref a] ∧ SqL K H a (ns.map V.int) ∧ ns.length ≤ 63 ∧ TX H Pd Pb ∧ ∀ H', Q (.bl true) H'
abbrev N_law : List Str := ["_law_script", "_law_k", "_law_box_here", "_law_state", "_law_strange", "_law_turn", "_law_workshop", "_law_other"]
theorem sc_law : FnScope N_law ["_law_script"] (defScope s_law) := ⟨rfl, rfl, rfl, by decide +kernel, rfl, by decide +kernel, by decide +kernel⟩
theorem merge_st {r p o : Addr} : mergeK [] (stF r p 0 (.int 7) o) = stF r p 0 (.int 7) o := by
  rfl
/-- a new state -/
theorem st_new {H : Hp} {s r p o : Addr} (ns : H s = none) (nr : (upd H s (.dK [])) r = none) (np : (upd (upd H s (.dK [])) r (.lst [])) p = none) (no : (upd (upd (upd H s (.dK [])) r (.lst [])) p (.lst [])) o = none) :
    (upd (upd (upd (upd H s (.dK [])) r (.lst [])) p (.lst [])) o (.lst [])) s = some (.dK []) ∧ Ext H (upd (upd (upd (upd (upd H s (.dK [])) r (.lst [])) p (.lst [])) o (.lst [])) s (.dK (mergeK [] (stF r p 0 (.int 7) o)))) ∧
      ST (upd (upd (upd (upd (upd H s (.dK [])) r (.lst [])) p (.lst [])) o (.lst [])) s (.dK (mergeK [] (stF r p 0 (.int 7) o)))) s [] [] 0 (.int 7) [] := by
  have e1 : Ext (upd H s (.dK [])) (upd (upd (upd (upd H s (.dK [])) r (.lst [])) p (.lst [])) o (.lst [])) := ((Ext.new nr).newL np).newL no
  have hr : (upd (upd (upd (upd H s (.dK [])) r (.lst [])) p (.lst [])) o (.lst [])) r = some (.lst []) := ((Ext.new np).newL no) _ _ upd_same
  have hp : (upd (upd (upd (upd H s (.dK [])) r (.lst [])) p (.lst [])) o (.lst [])) p = some (.lst []) := (Ext.new no) _ _ upd_same
  have ho : (upd (upd (upd (upd H s (.dK [])) r (.lst [])) p (.lst [])) o (.lst [])) o = some (.lst []) := upd_same
  have hs := e1 _ _ upd_same
  generalize (upd (upd (upd (upd H s (.dK [])) r (.lst [])) p (.lst [])) o (.lst [])) = H2 at e1 hr hp ho hs ⊢
  have ne : ∀ {a : Addr}, H2 a = some (.lst []) → a ≠ s := fun {a} h z => by rw [z, hs] at h; cases h
  refine ⟨hs, Ext.fresh ((Ext.new ns).trans e1) ns ((Keep.refl _ _).put List.mem_cons_self), r, p, o, ?_, ⟨[], (upd_ne (ne hr)).trans hr, .nil⟩, ⟨[], (upd_ne (ne hp)).trans hp, .nil⟩, (upd_ne (ne ho)).trans ho⟩
  rw [merge_st]
  exact upd_same
theorem rdFor {wi : L2.TI} {g : TG} {tb : TS} {D : Ends} {σ : L2.St} {H : Hp} (q : wi σ H fun J H1 => ∃ W : Nat → Nat → L2.St → Hp → Prop, (∃ m, W 0 m σ H1) ∧ ∀ i m σ H, W i m σ H →
      (J.stop i H ∧ D.nx σ H) ∨ (J.go i H ∧ ∃ N : L2.St → Hp → Prop, (∀ σ' H', N σ' H' → ∃ m', m' < m ∧ W (i + 1) m' σ' H') ∧ ∀ x H', J.yld i H x H' → g x σ H' fun σ2 H2 => tb { D with nx := N, ct := N, bk := D.nx } σ2 H2)) : tFor wi g tb D σ H := q
theorem rdRng1 {ta : TA} {σ : L2.St} {H : Hp} {R : It → Hp → Prop} (q : ta σ H fun vs H1 => ∃ j : Int, vs = [.int j] ∧ -(2 ^ 62) ≤ j ∧ j < 2 ^ 62 ∧ R (Itr 0 j.toNat) H1) : iRng1 ta σ H R := q
theorem for_rangeD {n : Nat} {g : TG} {tb : TS} {nx : L2.St → Hp → Prop} {rt : VK} {σ : L2.St} {H : Hp} (Pv : Nat → L2.St → Hp → Prop) (h0 : Pv 0 σ H)
    (hs : ∀ i σ H, i < n → Pv i σ H → g (.int (0 + (i : Int))) σ H fun σ2 H2 => tb { nx := Pv (i + 1), rt := rt, bk := nx, ct := Pv (i + 1) } σ2 H2) (hd : ∀ σ H, Pv n σ H → nx σ H) :
    ∃ W : Nat → Nat → L2.St → Hp → Prop, (∃ m, W 0 m σ H) ∧ ∀ i m σ H, W i m σ H →
      ((Itr 0 (n : Int).toNat).stop i H ∧ nx σ H) ∨ ((Itr 0 (n : Int).toNat).go i H ∧ ∃ N : L2.St → Hp → Prop, (∀ σ' H', N σ' H' → ∃ m', m' < m ∧ W (i + 1) m' σ' H') ∧ ∀ x H', (Itr 0 (n : Int).toNat).yld i H x H' → g x σ H' fun σ2 H2 => tb { nx := N, rt := rt, bk := nx, ct := N } σ2 H2) := by
  rw [Int.toNat_natCast]
  exact for_range (lo := 0) (n := n) (D := { nx := nx, rt := rt }) (g := g) (tb := tb) Pv h0 hs hd
theorem rdPs {tk tv : TE} {r : List (TE × TE)} {σ : L2.St} {H : Hp} {Q : List (V × V) → Hp → Prop} (q : tk σ H fun x H1 => tv σ H1 fun y H2 => tPairs r σ H2 fun ps H3 => Q ((x, y) :: ps) H3) : tPairs ((tk, tv) :: r) σ H Q := q
theorem rdPn {σ : L2.St} {H : Hp} {Q : List (V × V) → Hp → Prop} (q : Q [] H) : tPairs [] σ H Q := q
theorem rdDisp {σ : L2.St} {H : Hp} {Q : VK} {trs : List (TE × TE)} (q : ∀ p, H p = none → tPairs trs σ (upd H p (.dK [])) fun ps H2 => H2 p = some (.dK []) ∧ ∃ kvs : List (Key × V), ps = kvs.map (fun kv => (kV kv.1, kv.2)) ∧ kvs.length ≤ 15 ∧ Q (.ref p) (upd H2 p (.dK (mergeK [] kvs)))) : tDisp trs σ H Q := q
theorem rd_state {σ : L2.St} {H : Hp} {Q : VK} (q : ∀ s H', H s = none → Ext H H' → ST H' s [] [] 0 (.int 7) [] → Q (.ref s) H') :
    tDisp [(tC (V.str "rows"), tLst tNil), (tC (V.str "past"), tLst tNil), (tC (V.str "floor"), tC (V.int 0)), (tC (V.str "wrong"), tC (V.bl false)), (tC (V.str "told"), tC (V.int 7)), (tC (V.str "open"), tLst tNil)] σ H Q := by
  refine rdDisp fun s ns => ?_
  refine rdPs ?_
  walk_at "rd"
  intro r nr
  refine rdPs ?_
  walk_at "rd"
  intro p np
  refine rdPs ?_
  walk_at "rd"
  refine rdPs ?_
  walk_at "rd"
  refine rdPs ?_
  walk_at "rd"
  refine rdPs ?_
  walk_at "rd"
  intro o no
  refine rdPn ?_
  obtain ⟨h1, h2, h3⟩ := st_new ns nr np no
  exact ⟨h1, stF r p 0 (.int 7) o, rfl, by simp, q s _ ns h2 h3⟩
theorem Ext.none {H H' : Hp} {a : Addr} (e : Ext H H') (n : H' a = none) : H a = none := by
  cases h : H a with
  | none => rfl
  | some o => rw [e _ _ h] at n; cases n
theorem keepN_at {M : List Addr} {H H' : Hp} {a : Addr} (k : KeepN M H H') (h : ∃ o, H a = some o ∧ MuO o) (n : a ∉ M) : H' a = H a := by
  obtain ⟨o, h, mu⟩ := h
  rw [h]
  exact k _ _ h n (fun ps z => by rw [z] at mu; exact mu)
theorem keepN_new {M : List Addr} {H H' : Hp} (k : KeepN M H H') (n : ∀ b ∈ M, H b = Option.none) : KeepN [] H H' := fun b o h _ t => k b o h (fun z => by rw [n b z] at h; cases h) t
section
variable {P : Program} {w : World} {K : PySem.W.Frag} {mg : Str → Option Value} {base : Heap}
set_option maxHeartbeats 4000000 in
theorem ok_law (T : T72 K mg) {Pd Pb : Addr} (Td : LamX.TabB base mg (cD K) Pd) (Tb : LamX.TabB base mg (cB K) Pb) {fd : FuncData} (F : Fun K "law" "law" s_law (ga K "law") fd) : FnOk P w K mg base CX0 37 (ga K "law") fd ["_law_script"] (spLaw K Pd Pb) := by
  obtain ⟨fdt, Gt, bt⟩ := (ok_take (P := P) (w := w) (base := base) T).ex
  have kpt := (ok_take (P := P) (w := w) (base := base) T).kp
  obtain ⟨fdb, Gb, bb⟩ := (ok_box (P := P) (w := w) (base := base) T).ex
  have kpb := (ok_box (P := P) (w := w) (base := base) T).kp
  obtain ⟨fdi, Gi, bi⟩ := (ok_WInit (P := P) (w := w) (base := base) T).ex
  obtain ⟨fdu, Gu, bu⟩ := (ok_lundo (P := P) (w := w) (base := base) T).ex
  have kpu := (ok_lundo (P := P) (w := w) (base := base) T).kp
  obtain ⟨fds, Gs, bs⟩ := (ok_shown (P := P) (w := w) (base := base) T).ex
  have kps := (ok_shown (P := P) (w := w) (base := base) T).kp
  have DB := ok_build (P := P) (w := w) (base := base) T
  obtain ⟨⟨fd3, G3, b3⟩, kp3⟩ := deeds_all (Pd := Pd) (Pb := Pb) T Td Tb DB 3
  obtain ⟨⟨fd2, G2, b2⟩, kp2⟩ := deeds_all (Pd := Pd) (Pb := Pb) T Td Tb DB 2
  refine F.ok sc_law (fun vs H Q E h => ?_) (fun cdv A outer st H vs Q E hr h => ?_)
  · obtain ⟨_, _, rfl, _⟩ := h
    rfl
  obtain ⟨a, ns, rfl, hS, hn, hT, hQ⟩ := h
  have nd := sc_law.nd
  have hu := hu_of hr
  have hr1 := hr.mono (j := 1) (by omega)
  have hr2 := hr.mono (j := 2) (by omega)
  have hr4 := hr.mono (j := 4) (by omega)
  have hrd3 : Room (lv 3) _ := hr
  have hrd2 := hr.mono (j := lv 2) (by decide)
  refine ⟨_, (pss_cons (ps_for PassesOwn.never rfl (pi_range1 (by rfl) T.f_range (pa_cons (pe_callB (call_max2 rfl) (by rfl) T.f_max (by decide +kernel) (pa_cons pe_int (pa_cons (pe_callB (call_min2 rfl) (by rfl) T.f_min (by decide +kernel) (pa_cons pe_int (pa_cons (pe_callB call_len_seq (by rfl) T.f_len PySem.boot_len (pa_cons (pv 0) pa_nil)) pa_nil))) pa_nil))) pa_nil)) (pg_name (i := 1) nd rfl (Or.inl rfl))
 (pss_cons (ps_set (i := 2) nd rfl (Or.inl rfl) (pe_call Gb hr1 (by rfl) T.g_law_box kpb bb .nil pass0 (pa_cons (pv 0) (pa_cons (pv 1) pa_nil))))
 (pss_cons (ps_par (i := 6) (j := 7) (by rfl) nd rfl rfl (by decide) rfl rfl (pa_cons (pe_make0 T.mk_Workshop Gi hr2 (by rfl) T.g_Workshop bi .nil pass0) (pa_cons (pe_make0 T.mk_Workshop Gi hr2 (by rfl) T.g_Workshop bi .nil pass0) pa_nil)) (by rfl))
 (pss_cons (ps_set (i := 3) nd rfl (Or.inl rfl) (pe_disp (pps_cons pe_str (pe_lst pa_nil) (pps_cons pe_str (pe_lst pa_nil) (pps_cons pe_str pe_int (pps_cons pe_str pe_bl (pps_cons pe_str pe_int (pps_cons pe_str (pe_lst pa_nil) pps_nil)))))) (by rfl) (by rfl) (fun z => by cases z) (by decide)))
 (pss_cons (ps_set (i := 4) nd rfl (Or.inl rfl) (pe_disp (pps_cons pe_str (pe_lst pa_nil) (pps_cons pe_str (pe_lst pa_nil) (pps_cons pe_str pe_int (pps_cons pe_str pe_bl (pps_cons pe_str pe_int (pps_cons pe_str (pe_lst pa_nil) pps_nil)))))) (by rfl) (by rfl) (fun z => by cases z) (by decide)))
 (pss_cons (ps_if (pt_not (pt_val (pe_call G3 hrd3 (by rfl) T.g_law_deeds kp3 b3 .nil pass0 (pa_cons (pv 2) (pa_cons (pv 6) (pa_cons (pv 3) (pa_cons (pe_op op_add pe_int (pe_call Gt hr1 (by rfl) T.g_law_take kpt bt .nil pass0 (pa_cons (pv 2) (pa_cons pe_int pa_nil)))) (pa_cons pe_int pa_nil))))))))
 (pss_one (ps_ret pe_bl))
 pss_nil)
 (pss_cons (ps_if (PW.pt (pw_or (pt_not (pt_val (pe_call G2 hrd2 (by rfl) T.g_law_deeds kp2 b2 .nil pass0 (pa_cons (pv 2) (pa_cons (pv 7) (pa_cons (pv 4) (pa_cons pe_int (pa_cons pe_int pa_nil)))))))) (pw_or1 (pt_not (pt_val (pe_call Gs hr4 (by rfl) T.g_law_shown kps bs .nil pass0 (pa_cons (pv 6) (pa_cons (pv 3) pa_nil))))))))
 (pss_one (ps_ret pe_bl))
 pss_nil)
 (pss_one (ps_for PassesOwn.never rfl (pi_range1 (by rfl) T.f_range (pa_cons (pe_op op_add (pe_callB call_len_seq (by rfl) T.f_len PySem.boot_len (pa_cons (pe_dget hu (pv 3) pe_str (fun _ _ => rfl)) pa_nil)) pe_int) pa_nil)) (pg_name (i := 5) nd rfl (Or.inl rfl))
 (pss_one (ps_if (PW.pt (pw_or (pt_not (pt_val (pe_call Gu hr2 (by rfl) T.g_law_undo kpu bu .nil pass0 (pa_cons (pv 6) (pa_cons (pv 3) pa_nil))))) (pw_or1 (pt_not (pt_val (pe_call Gs hr4 (by rfl) T.g_law_shown kps bs .nil pass0 (pa_cons (pv 6) (pa_cons (pv 3) pa_nil))))))))
 (pss_one (ps_ret pe_bl))
 pss_nil)))))))))))
 (pss_one (ps_ret pe_bl))), ?_⟩
  walk_at "rd"
  refine rdFor (rdRng1 ?_)
  walk_at "rd"
  refine Rd.lenS (.inl hS) ?_
  walk_at "rd"
  rw [List.length_map]
  refine ⟨3, _, rfl, ?_⟩
  walk_at "rd"
  refine ⟨2, _, rfl, ?_⟩
  walk_at "rd"
  have hm : ∃ m : Nat, (if (if (ns.length : Int) < 3 then (ns.length : Int) else 3) > 2 then (if (ns.length : Int) < 3 then (ns.length : Int) else 3) else 2) = (m : Int) ∧ m ≤ 3 := by
    refine ⟨(if (if (ns.length : Int) < 3 then (ns.length : Int) else 3) > 2 then (if (ns.length : Int) < 3 then (ns.length : Int) else 3) else 2).toNat, ?_, ?_⟩
    · split <;> split <;> omega
    · split <;> split <;> omega
  obtain ⟨m, em, hm3⟩ := hm
  rw [em]
  refine ⟨_, rfl, by omega, by omega, ?_⟩
  refine for_rangeD (n := m) (fun i σ' H' => ∃ v1 v2 v3 v4 v5 v6 v7 : Option V, σ' = [some (.ref a), v1, v2, v3, v4, v5, v6, v7] ∧ SqL K H' a (ns.map V.int) ∧ TX H' Pd Pb) ?_ ?_ ?_
  · exact ⟨none, none, none, none, none, none, none, rfl, hS, hT⟩
  rotate_left
  · rintro σ1 H1 ⟨v1, v2, v3, v4, v5, v6, v7, rfl, _, _⟩
    walk_at "rd"
    exact hQ _
  rintro i σ1 H1 hi ⟨v1, v2, v3, v4, v5, v6, v7, rfl, S1, T1⟩
  refine Rd.gname ?_
  walk_at "rd"
  refine ⟨a, _, ns, rfl, S1, by omega, by omega, by omega, fun H2 b e2 nb hb => ?_⟩
  have nb1 : H1 b = none := nb
  walk_at "rd"
  unfold L2.tMake
  walk_at "rd"
  intro x dx nx ndx ne
  refine ⟨x, dx, rfl, upd_same, fun H3 k3 wx => ⟨rfl, ?_⟩⟩
  have e3 : Ext H2 H3 := Ext.fresh (.new ndx) nx (((Keep.refl _ _).put List.mem_cons_self).trans k3)
  clear k3 ne
  walk_at "rd"
  intro y dy ny ndy ne
  refine ⟨y, dy, rfl, upd_same, fun H4 k4 wy => ⟨rfl, ?_⟩⟩
  have e4 : Ext H3 H4 := Ext.fresh (.new ndy) ny (((Keep.refl _ _).put List.mem_cons_self).trans k4)
  clear k4 ne
  walk_at "rd"
  refine rd_state fun s H5 ns0 e5 hs => ?_
  walk_at "rd"
  refine rd_state fun s2 H6 ns2 e6 hs2 => ?_
  walk_at "rd"
  have hb6 : Box H6 b := let ⟨c, z, n, e⟩ := hb; ⟨c, z, n, e6 _ _ (e5 _ _ (e4 _ _ (e3 _ _ e)))⟩
  have E16 : Ext H1 H6 := e2.trans (e3.trans (e4.trans (e5.trans e6)))
  have T6 : TX H6 Pd Pb := T1.keep (.of E16) .nil
  have wx6 := wx.ext (e4.trans (e5.trans e6))
  have wy6 := wy.ext (e5.trans e6)
  have hs6 := hs.ext e6
  have nyx : y ≠ x := fun z => by
    obtain ⟨_, _, _, _, h, _⟩ := wx
    rw [← z, ny] at h; cases h
  have nsx : s ≠ x := fun z => by
    obtain ⟨_, _, _, _, h, _⟩ := wx.ext e4
    rw [← z, ns0] at h; cases h
  have nsy : s ≠ y := fun z => by
    obtain ⟨_, _, _, _, h, _⟩ := wy
    rw [← z, ns0] at h; cases h
  have n2x : s2 ≠ x := fun z => by
    obtain ⟨_, _, _, _, h, _⟩ := wx.ext (e4.trans e5)
    rw [← z, ns2] at h; cases h
  have n2y : s2 ≠ y := fun z => by
    obtain ⟨_, _, _, _, h, _⟩ := wy.ext e5
    rw [← z, ns2] at h; cases h
  have n2s : s2 ≠ s := fun z => by
    obtain ⟨_, _, _, h, _⟩ := hs
    rw [← z, ns2] at h; cases h
  have nbx : b ≠ x := box_ws hb6 wx6
  have nby : b ≠ y := box_ws hb6 wy6
  have nbs : b ≠ s := box_st hb6 hs6
  have nb2 : b ≠ s2 := box_st hb6 hs2
  have zx : H1 x = none := e2.none nx
  have zy : H1 y = none := (e2.trans e3).none ny
  have zs : H1 s = none := (e2.trans (e3.trans e4)).none ns0
  have zs2 : H1 s2 = none := (e2.trans (e3.trans (e4.trans e5))).none ns2
  have S6 : Sit2 K H6 b x s [] [] 0 (.int 7) [] Pd Pb := ⟨⟨hb6, wx6, hs6, .nil, fun _ h => (nomatch h), by decide⟩, Ops.nil, T6⟩
  have S6' : Sit2 K H6 b y s2 [] [] 0 (.int 7) [] Pd Pb := ⟨⟨hb6, wy6, hs2, .nil, fun _ h => (nomatch h), by decide⟩, Ops.nil, T6⟩
  clear wx wy wx6 wy6 hs hs6 hs2 hb e2 e3 e4 e5 e6 nx ndx ny ndy ns0 ns2 nb
  refine ⟨b, 20, rfl, by decide, by decide, hb6, fun d c z n hd0 hd1 => ?_⟩
  have S7 := S6.take (c := c) (z := z) (n := n)
  have S7' := S6'.take (c := c) (z := z) (n := n)
  have k17 : KeepN [b, x, s, y, s2] H1 (upd H6 b (.lst [.int c, .int z, .int n])) := (KeepN.of E16).put List.mem_cons_self
  generalize (upd H6 b (.lst [.int c, .int z, .int n])) = H7 at S7 S7' k17 ⊢
  clear S6 S6' T6 E16 hb6
  walk_at "rd"
  have ed : ((10 + d).toNat : Int) = 10 + d := by omega
  have eG : G 3 = 156 := rfl
  have eG2 : G 2 = 31 := rfl
  refine ⟨b, x, s, (10 + d).toNat, [], [], 0, .int 7, [], by rw [ed]; rfl, by omega, S7, by rw [eG]; simp only [List.length_nil]; omega, by decide, fun H8 rows past told es A => ?_⟩
  have S8' : Sit2 K H8 b y s2 [] [] 0 (.int 7) [] Pd Pb := by
    have ny : y ∉ MM b x s [] := by simp [MM, opM, opO, opT, nby.symm, nyx, nsy.symm]
    have n2 : s2 ∉ MM b x s [] := by simp [MM, opM, opO, opT, nb2.symm, n2x, n2s]
    exact ⟨⟨A.s.S.box, S7'.S.ws.keepN A.k S7.mok (keepN_at A.k S7'.S.ws.mu ny), S7'.S.st.keepN A.k S7.mok (keepN_at A.k S7'.S.st.mu n2), .nil, fun _ h => (nomatch h), by decide⟩, Ops.nil, A.s.T⟩
  have k18 : KeepN [b, x, s, y, s2] H1 H8 := k17.trans (A.k.mono (by simp [MM, opM, opO, opT]))
  have hes : es = [] := by
    have := Paired.length A.u
    exact List.eq_nil_of_length_eq_zero this.symm
  subst hes
  have S8 := A.s
  have l8 := A.l
  rw [eG] at l8
  clear A S7 S7' k17
  walk_at "rd"
  refine ⟨b, y, s2, 5, [], [], 0, .int 7, [], rfl, by decide, S8', by rw [eG2]; decide, by decide, fun H9 rows' past' told' es' A => ?_⟩
  have S9 : Sit2 K H9 b x s rows past 0 told [] Pd Pb := by
    have ny : x ∉ MM b y s2 [] := by simp [MM, opM, opO, opT, nbx.symm, nyx.symm, n2x.symm]
    have n2 : s ∉ MM b y s2 [] := by simp [MM, opM, opO, opT, nbs.symm, nsy, n2s.symm]
    exact ⟨⟨A.s.S.box, S8.S.ws.keepN A.k S8'.mok (keepN_at A.k S8.S.ws.mu ny), S8.S.st.keepN A.k S8'.mok (keepN_at A.k S8.S.st.mu n2), S8.S.ok, S8.S.pok, S8.S.fl0⟩, Ops.nil, A.s.T⟩
  have k19 : KeepN [b, x, s, y, s2] H1 H9 := k18.trans (A.k.mono (by simp [MM, opM, opO, opT]))
  clear A S8' S8 k18
  walk_at "rd"
  refine ⟨x, s, rows, past, past, 0, 0, told, opO [], rfl, S9.S.ws, S9.S.st, S9.S.ok, fun H10 e10 => ?_⟩
  have S10 := S9.ext e10
  have k110 := k19.trans (.of e10)
  clear S9 k19 e10
  walk_at "rd"
  obtain ⟨rr, pp, o, hs10, hrr10, hpp10, ho10⟩ := id S10.S.st
  obtain ⟨as, has, pas⟩ := id hpp10
  refine rdFor (rdRng1 ?_)
  walk_at "rd"
  have hal : as.length = past.length := Paired.length pas
  refine ⟨((as.length + 1 : Nat) : Int), by simp, by omega, by simp only [List.length_nil] at l8; omega, ?_⟩
  refine for_rangeD (n := as.length + 1) (fun j σ' H' => ∃ v5 : Option V, σ' = [some (.ref a), some (.int (0 + (i : Int))), some (.ref b), some (.ref s), some (.ref s2), v5, some (.ref x), some (.ref y)] ∧ ∃ rows past, Sit2 K H' b x s rows past 0 told [] Pd Pb ∧ KeepN [b, x, s, y, s2] H1 H') ?_ ?_ ?_
  · exact ⟨_, rfl, rows, past, S10, k110⟩
  rotate_left
  · rintro σ1 H11 ⟨v5, rfl, rows1, past1, S11, k111⟩
    refine ⟨_, _, _, _, _, _, _, rfl, SqL.keepN S1 (keepN_new k111 ?_), S11.T⟩
    intro c hc
    rcases List.mem_cons.mp hc with rfl | hc
    · exact nb1
    rcases List.mem_cons.mp hc with rfl | hc
    · exact zx
    rcases List.mem_cons.mp hc with rfl | hc
    · exact zs
    rcases List.mem_cons.mp hc with rfl | hc
    · exact zy
    · rw [List.mem_singleton.mp hc]; exact zs2
  rintro j σ1 H11 hj ⟨v5, rfl, rows1, past1, S11, k111⟩
  refine Rd.gname ?_
  walk_at "rd"
  refine ⟨x, s, rows1, past1, 0, told, opO [], rfl, S11.S.ws, S11.S.st, by decide, fun H12 k12 w12 s12 => ?_⟩
  obtain ⟨S12, l12⟩ := S11.S.undo k12 w12 s12
  have S12' := S11.leaf (k12.mono (by simp)) S12
  have k112 := k111.trans (k12.n.mono (M' := [b, x, s, y, s2]) (by simp))
  walk_at "rd"
  refine ⟨x, s, _, _, _, 0, 0, told, opO [], rfl, S12.ws, S12.st, S12.ok, fun H13 e13 => ?_⟩
  walk_at "rd"
  exact ⟨_, rfl, _, _, S12'.ext e13, k112.trans (.of e13)⟩
end

end W72
-- E72
set_option Elab.async false
set_option linter.all false
set_option maxRecDepth 100000
set_option maxHeartbeats 4000000
namespace W72
open PySem PySem.Spec PyProof.Rows L2 Ft
abbrev pD : He.Defn := ("_law_deeds", none)
abbrev pB : He.Defn := ("_law_block", none)
theorem mem_D : pD ∈ tfs := List.mem_cons_of_mem _ List.mem_cons_self
theorem mem_B : pB ∈ tfs := List.mem_cons_of_mem _ (List.mem_cons_of_mem _ List.mem_cons_self)
theorem tx_start {H : Hp} {Pd Pb : Addr} (ne : Pd ≠ Pb) (hd : H Pd = some (.tbl #[])) (hb : H Pb = some (.tbl #[])) : TX H Pd Pb := ⟨ne, .nil hd, .nil hb⟩
theorem law_at {P : Program} {w : World} {h : Heap} {K : PySem.W.Frag} {mg : Str → Option Value} {f : Addr} (X : K.In h) (G : h.Ns mainGlobals mg) (hfa : mg ("law" : Str) = some (.ref f)) (c : SaysY h K) :
    ∃ (fd : FuncData) (cs : List (Addr × Addr)) (sp : Sp), (∀ p ∈ cs, h.get? p.2 = some { cls := .none, data := .fields #[] }) ∧ (∀ p ∈ cs, K.lookup p.2 = none) ∧ (∀ p ∈ cs, PySem.W.CodeHd h p.1 p.2) ∧ (∀ (s : Shared) (u : Value), BindsTo s fd ⟨[u], []⟩ [("_law_script", u)]) ∧
    (∀ (H : Hp) (a : Addr) (ns : List Int), ns.length ≤ 63 → (∀ z ∈ ns, Builtin.Int.intBits z ≤ 1048576) → (∀ p ∈ cs, H p.2 = some (.tbl #[])) → SqL K H a (ns.map V.int) → sp [.ref a] H (fun v _ => v = .bl true) fun _ _ _ => False) ∧
    ∀ base : Heap, K.In base → base.Ns mainGlobals mg → (∀ p ∈ cs, LamX.TabB base mg p.1 p.2) → FnOk P w K mg base CX0 37 f fd ["_law_script"] sp := by
  have T := T72.of X G c
  have e := hfa.symm.trans T.g_law
  cases e
  obtain ⟨fd, F⟩ := T.d_law
  have bd : ∀ (s : Shared) (us : List Value), us.length = ["_law_script"].length → BindsTo s fd ⟨us, []⟩ ((["_law_script"] : List Str).zip us) := by
    obtain ⟨oc, od, kV, doc, pm, an, cdv, ct, osl, rfl, lk, hcd⟩ := F.ex
    exact fun s us hl => .of_eq (match us, hl with | [_], _ => rfl)
  refine ⟨fd, [He.cT K pD, He.cT K pB], spLaw K (He.cT K pD).2 (He.cT K pB).2, ?_, ?_, ?_, fun s v => bd s [v] rfl, ?_, ?_⟩
  · intro p hp
    rcases List.mem_cons.mp hp with rfl | hp
    · exact c.empty _ mem_D
    · rw [List.mem_singleton.mp hp]; exact c.empty _ mem_B
  · intro p hp
    rcases List.mem_cons.mp hp with rfl | hp
    · exact c.out _ mem_D
    · rw [List.mem_singleton.mp hp]; exact c.out _ mem_B
  · intro p hp
    rcases List.mem_cons.mp hp with rfl | hp
    · exact PySem.W.codeHd_of_K X (c.hd _ mem_D)
    · rw [List.mem_singleton.mp hp]; exact PySem.W.codeHd_of_K X (c.hd _ mem_B)
  · intro H a ns hl _ hT hS
    exact ⟨a, ns, rfl, hS, hl, tx_start c.ne (hT _ List.mem_cons_self) (hT _ (List.mem_cons_of_mem _ List.mem_cons_self)), fun _ => rfl⟩
  · intro base X' G' hT
    exact ok_law (P := P) (w := w) (base := base) T (hT _ List.mem_cons_self) (hT _ (List.mem_cons_of_mem _ List.mem_cons_self)) F
end W72
theorem PySem.Challenge.cw_sourwright_k72_texts_in_a_workshop_holds : PySem.Challenge.rw_sourwright_k72_texts_in_a_workshop.Holds :=
  W72.holds_of fun _ _ _ _ ⟨K, KX, c⟩ G hmg => ⟨K, KX, W72.law_at KX G hmg c⟩
