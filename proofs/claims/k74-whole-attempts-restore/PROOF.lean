import PyProof.Rows.All
import Wide.All
import OpenK.AllK
import Wide.FinOn
import HandS.ForMost
import HandS.ForExc
import HandS.HotCalls
import HandS.IsInst
import HandS.Property
import HandS.ClsMeth
import HandS.OwnEq
import HandS.DictComp
import HandS.Star
import HandS.Nested
import HandS.ExcCtx
import HandS.Style
import PyProof.InstNe
import HandS.Finally
import KE.KWithOwn
import HandS.TryMany
import KE.KSuper
import HandS.HeadHook1
import HandS.Walk
import HandS.More
import HandS.Wide
import HandS.Conv
import PyProof.EqLayable
import KE.OsGo
import KE.KExcInit
import HandS.Lambda
import KE.KNestM
import HandS.Codes
import HandS.HeadHook2
import HandS.HeadHook3
import HandS.HeadHook4
import KE.KStateDown
import Lean
import HandS.Head0
import HandS.Head1
import HandS.Head2
import HandS.EndTab
import HandS.HeadWalk
import PySem.Challenge.RW_chainmaps_k74_whole_attempts_restore
set_option Elab.async false
set_option linter.all false
-- K74R1
section
set_option maxRecDepth 100000
set_option maxHeartbeats 4000000
/-! Rules that hold where nothing is handled and in an except suite alike; a def known by its module's name. -/
namespace K74
abbrev St := L2.St
open PySem PySem.Spec PyProof.Rows L2

/-- nothing is handled here, or an exception without a context -/
def Cool (X : Cx) : Prop := X.calm = true ∨ L2H.HotC X
theorem room_at {X : Cx} {k : Nat} {pins : List (Addr × Obj)} {σ : St} {H : Hp} {s : Shared} (hr : L2H.RoomH k X.A) (c : X.calm = true) (I : Inv X pins σ H s) : Room k X.A :=
  ⟨I.ok.hd c, hr.dp, hr.un⟩

/-- the context of a def's body, whatever is handled -/
abbrev cxG (CX : CXT) (P : Program) (w : World) (K : PySem.W.Frag) (mg : Str → Option Value) (base : Heap) (N : List Str) (qual : Str) (scope : Scope) (f : Addr) (cd : Value) (A : Around) (outer : List Env) (s : Shared) (H : Hp) (E : XK)
    (c : Bool) (pn : List (Addr × Obj)) : Cx := { cxOf CX P w K mg base N qual scope f cd A outer s H E with calm := c, pn := pn }

/-- a def of the module, by its name: its promise where nothing is handled, and in a suite -/
structure GG (P : Program) (w : World) (K : PySem.W.Frag) (mg : Str → Option Value) (base : Heap) (k : Nat) (x : Str) (ps : List Str) (sp : Sp) : Prop where
  ex : ∃ (f : Addr) (fd : FuncData), FnOk P w K mg base CX0 k f fd ps sp ∧ L2H.FnH P w K mg base CX0 k f fd ps sp ∧ mg x = some (.ref f) ∧ PySem.W.keepIn K (.ref f) = true ∧ Binds K fd ps []
/-- where nothing is handled alone -/
structure GC (P : Program) (w : World) (K : PySem.W.Frag) (mg : Str → Option Value) (base : Heap) (CX : CXT) (k : Nat) (x : Str) (ps : List Str) (sp : Sp) : Prop where
  ex : ∃ (f : Addr) (fd : FuncData), FnOk P w K mg base CX k f fd ps sp ∧ mg x = some (.ref f) ∧ PySem.W.keepIn K (.ref f) = true ∧ Binds K fd ps []
/-- a method of the class at C -/
structure MG (P : Program) (w : World) (K : PySem.W.Frag) (mg : Str → Option Value) (base : Heap) (C : Addr) (k : Nat) (x : Str) (ps : List Str) (sp : Sp) : Prop where
  ex : ∃ (f : Addr) (fd : FuncData), FnOk P w K mg base CX0 k f fd ps sp ∧ L2H.FnH P w K mg base CX0 k f fd ps sp ∧ Meth K C x f ∧ Binds K fd ps []
structure MC (P : Program) (w : World) (K : PySem.W.Frag) (mg : Str → Option Value) (base : Heap) (CX : CXT) (C : Addr) (k : Nat) (x : Str) (ps : List Str) (sp : Sp) : Prop where
  ex : ∃ (f : Addr) (fd : FuncData), FnOk P w K mg base CX k f fd ps sp ∧ Meth K C x f ∧ Binds K fd ps []
/-- where the text's def stands -/
def GF (K : PySem.W.Frag) (mg : Str → Option Value) (x : Str) (st : Stmt) : Prop := ∃ (f : Addr) (fd : FuncData), Fun K x x st f fd ∧ mg x = some (.ref f)
def MF (K : PySem.W.Frag) (C : Addr) (x qual : Str) (st : Stmt) : Prop := ∃ (f : Addr) (fd : FuncData), Fun K x qual st f fd ∧ Meth K C x f

section
variable {P : Program} {w : World} {K : PySem.W.Frag} {mg : Str → Option Value} {base : Heap} {C : Addr} {j k : Nat} {x : Str} {ps : List Str} {sp : Sp}
theorem GG.gc (g : GG P w K mg base k x ps sp) : GC P w K mg base CX0 k x ps sp := let ⟨f, fd, a, _, b, c, d⟩ := g.ex; ⟨f, fd, a, b, c, d⟩
theorem MG.mc (g : MG P w K mg base C k x ps sp) : MC P w K mg base CX0 C k x ps sp := let ⟨f, fd, a, _, b, c⟩ := g.ex; ⟨f, fd, a, b, c⟩

/-- THE RULE for a def that lets nothing out, its body proved in both worlds at once -/
theorem fun_both {qual : Str} {st : Stmt} {f : Addr} {fd : FuncData} {N : List Str} (F : Fun K x qual st f fd) (S : FnScope N ps (defScope st)) (len : ∀ vs H Q E, sp vs H Q E → vs.length = ps.length)
    (hbody : ∀ (cdv : Value) (A : Around) (outer : List Env) (s : Shared) (H : Hp) (vs : List V) (Q : VK) (E : XK) (c : Bool) (pn : List (Addr × Obj)), Cool (cxG CX0 P w K mg base N qual (defScope st) f cdv A outer s H E c pn).nox → L2H.RoomH k (A.deeper (envOfC qual (defScope st) s.heap.objs.size f cdv)) → sp vs H Q E →
      ∃ t, PSs (cxG CX0 P w K mg base N qual (defScope st) f cdv A outer s H E c pn).nox (defBody st) t ∧ t { nx := fun _ H' => Q .non H', rt := Q } (start N vs) H) :
    FnOk P w K mg base CX0 (k + 1) f fd ps sp ∧ L2H.FnH P w K mg base CX0 (k + 1) f fd ps sp := by
  refine ⟨F.ok S len fun cdv A outer s H vs Q E hr hsp => hbody cdv A outer s H vs Q E true [] (.inl rfl) (L2H.roomH_of hr) hsp, ?_⟩
  obtain ⟨oc, od, kV, doc, pm, an, cdv, ct, osl, rfl, lk, hcd⟩ := F.ex
  refine L2H.fn_ofH lk hcd S len fun A outer s H vs Q E p hot hr hsp => ?_
  obtain ⟨t, h, q⟩ := hbody cdv A outer s H vs Q E false [p] (.inr ⟨p, hot, List.mem_cons_self⟩) hr hsp
  exact ⟨t, h.nox, q⟩
theorem gg_of {st : Stmt} {N : List Str} (F : GF K mg x st) (S : FnScope N ps (defScope st)) (len : ∀ vs H Q E, sp vs H Q E → vs.length = ps.length)
    (hbody : ∀ (f : Addr) (cdv : Value) (A : Around) (outer : List Env) (s : Shared) (H : Hp) (vs : List V) (Q : VK) (E : XK) (c : Bool) (pn : List (Addr × Obj)), Cool (cxG CX0 P w K mg base N x (defScope st) f cdv A outer s H E c pn).nox → L2H.RoomH k (A.deeper (envOfC x (defScope st) s.heap.objs.size f cdv)) → sp vs H Q E →
      ∃ t, PSs (cxG CX0 P w K mg base N x (defScope st) f cdv A outer s H E c pn).nox (defBody st) t ∧ t { nx := fun _ H' => Q .non H', rt := Q } (start N vs) H)
    (hb : ∀ (kV doc pm : Value) (an : Option Addr) (cdv ct : Value) (us : List Value), us.length = ps.length → bindArgs (PySem.W.fnOf x x (defArgs st) (defBody st) (defScope st) .none kV doc pm an cdv ct) ⟨us, []⟩ = pure (ps.zip us)) : GG P w K mg base (k + 1) x ps sp := by
  obtain ⟨f, fd, F, hm⟩ := F
  obtain ⟨h1, h2⟩ := fun_both (P := P) (w := w) (mg := mg) (base := base) F S len (hbody f)
  exact ⟨f, fd, h1, h2, hm, F.kp, F.binds hb⟩
theorem mg_of {qual : Str} {st : Stmt} {N : List Str} (F : MF K C x qual st) (S : FnScope N ps (defScope st)) (len : ∀ vs H Q E, sp vs H Q E → vs.length = ps.length)
    (hbody : ∀ (f : Addr) (cdv : Value) (A : Around) (outer : List Env) (s : Shared) (H : Hp) (vs : List V) (Q : VK) (E : XK) (c : Bool) (pn : List (Addr × Obj)), Cool (cxG CX0 P w K mg base N qual (defScope st) f cdv A outer s H E c pn).nox → L2H.RoomH k (A.deeper (envOfC qual (defScope st) s.heap.objs.size f cdv)) → sp vs H Q E →
      ∃ t, PSs (cxG CX0 P w K mg base N qual (defScope st) f cdv A outer s H E c pn).nox (defBody st) t ∧ t { nx := fun _ H' => Q .non H', rt := Q } (start N vs) H)
    (hb : ∀ (kV doc pm : Value) (an : Option Addr) (cdv ct : Value) (us : List Value), us.length = ps.length → bindArgs (PySem.W.fnOf x qual (defArgs st) (defBody st) (defScope st) .none kV doc pm an cdv ct) ⟨us, []⟩ = pure (ps.zip us)) : MG P w K mg base C (k + 1) x ps sp := by
  obtain ⟨f, fd, F, hm⟩ := F
  obtain ⟨h1, h2⟩ := fun_both (P := P) (w := w) (mg := mg) (base := base) F S len (hbody f)
  exact ⟨f, fd, h1, h2, hm, F.binds hb⟩
theorem gc_of {CX : CXT} {st : Stmt} {N : List Str} (F : GF K mg x st) (S : FnScope N ps (defScope st)) (len : ∀ vs H Q E, sp vs H Q E → vs.length = ps.length)
    (hbody : ∀ (f : Addr) (cdv : Value) (A : Around) (outer : List Env) (s : Shared) (H : Hp) (vs : List V) (Q : VK) (E : XK), Room k (A.deeper (envOfC x (defScope st) s.heap.objs.size f cdv)) → sp vs H Q E →
      ∃ t, PSs (cxOf CX P w K mg base N x (defScope st) f cdv A outer s H E) (defBody st) t ∧ t { nx := fun _ H' => Q .non H', rt := Q } (start N vs) H)
    (hb : ∀ (kV doc pm : Value) (an : Option Addr) (cdv ct : Value) (us : List Value), us.length = ps.length → bindArgs (PySem.W.fnOf x x (defArgs st) (defBody st) (defScope st) .none kV doc pm an cdv ct) ⟨us, []⟩ = pure (ps.zip us)) : GC P w K mg base CX (k + 1) x ps sp := by
  obtain ⟨f, fd, F, hm⟩ := F
  have b := F.binds hb
  have kp := F.kp
  obtain ⟨oc, od, kV, doc, pm, an, cdv, ct, osl, rfl, lk, hcd⟩ := F.ex
  exact ⟨f, _, fn_of lk hcd S len fun A outer s H vs Q E hr hsp => hbody f cdv A outer s H vs Q E hr hsp, hm, kp, b⟩
theorem mc_of {CX : CXT} {qual : Str} {st : Stmt} {N : List Str} (F : MF K C x qual st) (S : FnScope N ps (defScope st)) (len : ∀ vs H Q E, sp vs H Q E → vs.length = ps.length)
    (hbody : ∀ (f : Addr) (cdv : Value) (A : Around) (outer : List Env) (s : Shared) (H : Hp) (vs : List V) (Q : VK) (E : XK), Room k (A.deeper (envOfC qual (defScope st) s.heap.objs.size f cdv)) → sp vs H Q E →
      ∃ t, PSs (cxOf CX P w K mg base N qual (defScope st) f cdv A outer s H E) (defBody st) t ∧ t { nx := fun _ H' => Q .non H', rt := Q } (start N vs) H)
    (hb : ∀ (kV doc pm : Value) (an : Option Addr) (cdv ct : Value) (us : List Value), us.length = ps.length → bindArgs (PySem.W.fnOf x qual (defArgs st) (defBody st) (defScope st) .none kV doc pm an cdv ct) ⟨us, []⟩ = pure (ps.zip us)) : MC P w K mg base CX C (k + 1) x ps sp := by
  obtain ⟨f, fd, F, hm⟩ := F
  have b := F.binds hb
  obtain ⟨oc, od, kV, doc, pm, an, cdv, ct, osl, rfl, lk, hcd⟩ := F.ex
  exact ⟨f, _, fn_of lk hcd S len fun A outer s H vs Q E hr hsp => hbody f cdv A outer s H vs Q E hr hsp, hm, b⟩
end

section
variable {X : Cx} {C : Addr} {j k : Nat} {x : Str} {ps : List Str} {sp : Sp} {e o : Expr} {es : List Expr} {t : TA} {ta : TE} {p pos apos : Pos} {CX : CXT} {E : XK}
/-- x(e, ..) -/
theorem pe_gg (G : GG X.prog X.w X.K X.mg X.base j x ps sp) (c : Cool X) (hr : L2H.RoomH k X.A) (ha : PA X (e :: es) t) (hjk : j ≤ k := by decide) (hg : Gl X x := by rfl)
    (hdb : (x == ("__debug__" : Str)) = false := by decide) (he : starEach (e :: es) X.env = (false, eval e X.env) :: starEach es X.env := by rfl) (hpl : (backTo pos (starEach es X.env)).any (·.1) = false := by rfl) :
    PE X (.Call (.Name x p) (e :: es) [] pos) (tCall sp [] E0 t) := by
  obtain ⟨f, fd, F1, F2, hm, hk, hb⟩ := G.ex
  refine ⟨fun pins s σ H Q I h => ?_⟩
  rcases c with c | c
  · exact (pe_call (F1.mono hjk) (room_at hr c I) hg hm hk hb .nil pass0 ha hdb he hpl).run pins s σ H Q I h
  · refine (L2H.pe_callH (E := fun _ => E0) F2 (hr.mono hjk) c hg hm hk hb (fun _ _ _ _ _ _ _ z => z.elim) ha hdb he hpl).run pins s σ H Q I ?_
    simpa only [tCall, tCallS, List.append_nil] using h
theorem pe_gc (G : GC X.prog X.w X.K X.mg X.base CX j x ps sp) (hr : Room k X.A) (hx : Passes CX X E) (ha : PA X (e :: es) t) (hjk : j ≤ k := by decide) (hg : Gl X x := by rfl)
    (hdb : (x == ("__debug__" : Str)) = false := by decide) (he : starEach (e :: es) X.env = (false, eval e X.env) :: starEach es X.env := by rfl) (hpl : (backTo pos (starEach es X.env)).any (·.1) = false := by rfl) :
    PE X (.Call (.Name x p) (e :: es) [] pos) (tCall sp [] E t) := by
  obtain ⟨f, fd, F1, hm, hk, hb⟩ := G.ex
  exact pe_call (F1.mono hjk) hr hg hm hk hb .nil hx ha hdb he hpl
/-- o.m(e, ..) -/
theorem pe_mg {pl : Sem Bool} (he : PE X o ta) (cl : Cls X.K C) (G : MG X.prog X.w X.K X.mg X.base C j x ps sp) (c : Cool X) (hr : L2H.RoomH k X.A) (ha : PA X (e :: es) t) (hjk : j ≤ k := by decide)
    (hst : starEach (e :: es) X.env = (false, eval e X.env) :: starEach es X.env := by rfl) (hpl : (backTo pos (starEach es X.env)).any (·.1) = false := by rfl)
    (ht : eval (.Call (.Attribute o x apos) (e :: es) [] pos) X.env = (do
      let ov ← eval o X.env
      standAt apos.atName
      let (f, first) ← holding [ov] (getMethod ov x pl)
      callWith pos f first (backTo pos (starEach (e :: es) X.env)) (backToKw pos (keywordEach [] X.env))) := by rfl) :
    PE X (.Call (.Attribute o x apos) (e :: es) [] pos) (tMeth C x sp [] E0 ta t) := by
  obtain ⟨f, fd, F1, F2, hm, hb⟩ := G.ex
  refine ⟨fun pins s σ H Q I h => ?_⟩
  rcases c with c | c
  · exact (pe_meth he cl hm (F1.mono hjk) (room_at hr c I) hb .nil pass0 ha hst hpl ht).run pins s σ H Q I h
  · refine (L2H.pe_methH (E := fun _ => E0) he cl hm F2 (hr.mono hjk) c hb (fun _ _ _ _ _ _ _ z => z.elim) ha hst hpl ht).run pins s σ H Q I ?_
    simpa only [tMeth, L2H.tMethH, List.append_nil] using h
theorem pe_mg0 {pl : Sem Bool} (he : PE X o ta) (cl : Cls X.K C) (G : MG X.prog X.w X.K X.mg X.base C j x ps sp) (c : Cool X) (hr : L2H.RoomH k X.A) (hjk : j ≤ k := by decide)
    (ht : eval (.Call (.Attribute o x apos) [] [] pos) X.env = (do
      let ov ← eval o X.env
      standAt apos.atName
      let (f, first) ← holding [ov] (getMethod ov x pl)
      callWith pos f first (backTo pos (starEach [] X.env)) (backToKw pos (keywordEach [] X.env))) := by rfl) :
    PE X (.Call (.Attribute o x apos) [] [] pos) (tMeth C x sp [] E0 ta tNil) := by
  obtain ⟨f, fd, F1, F2, hm, hb⟩ := G.ex
  refine ⟨fun pins s σ H Q I h => ?_⟩
  rcases c with c | c
  · exact (pe_meth0 he cl hm (F1.mono hjk) (room_at hr c I) hb .nil pass0 ht).run pins s σ H Q I h
  · refine PySem.W.methodCall_KW (pl := pl) (thn (he.run pins s σ H _ I h) fun u s1 ⟨y, H1, I1, rx, a, dx, fs, ex, ea, l, q⟩ => ?_) ht
    subst ex
    obtain rfl : u = Value.ref a := rx
    refine getmeth_ok I1 ea cl hm l ?_
    exact PySem.W.callWith_K0 (first := [.ref a]) I1.kIn hm.kp (L2H.run_fnH (us := [.ref a]) (vs := [.ref a]) (E := fun _ => E0) F2 (hr.mono hjk) c hb (fun _ _ _ _ _ _ z => z.elim) I1 (.cons rfl .nil) q)
theorem pe_mc {pl : Sem Bool} (he : PE X o ta) (cl : Cls X.K C) (G : MC X.prog X.w X.K X.mg X.base CX C j x ps sp) (hr : Room k X.A) (hx : Passes CX X E) (ha : PA X (e :: es) t) (hjk : j ≤ k := by decide)
    (hst : starEach (e :: es) X.env = (false, eval e X.env) :: starEach es X.env := by rfl) (hpl : (backTo pos (starEach es X.env)).any (·.1) = false := by rfl)
    (ht : eval (.Call (.Attribute o x apos) (e :: es) [] pos) X.env = (do
      let ov ← eval o X.env
      standAt apos.atName
      let (f, first) ← holding [ov] (getMethod ov x pl)
      callWith pos f first (backTo pos (starEach (e :: es) X.env)) (backToKw pos (keywordEach [] X.env))) := by rfl) :
    PE X (.Call (.Attribute o x apos) (e :: es) [] pos) (tMeth C x sp [] E ta t) := by
  obtain ⟨f, fd, F1, hm, hb⟩ := G.ex
  exact pe_meth he cl hm (F1.mono hjk) hr hb .nil hx ha hst hpl ht
theorem pe_mc0 {pl : Sem Bool} (he : PE X o ta) (cl : Cls X.K C) (G : MC X.prog X.w X.K X.mg X.base CX C j x ps sp) (hr : Room k X.A) (hx : Passes CX X E) (hjk : j ≤ k := by decide)
    (ht : eval (.Call (.Attribute o x apos) [] [] pos) X.env = (do
      let ov ← eval o X.env
      standAt apos.atName
      let (f, first) ← holding [ov] (getMethod ov x pl)
      callWith pos f first (backTo pos (starEach [] X.env)) (backToKw pos (keywordEach [] X.env))) := by rfl) :
    PE X (.Call (.Attribute o x apos) [] [] pos) (tMeth C x sp [] E ta tNil) := by
  obtain ⟨f, fd, F1, hm, hb⟩ := G.ex
  exact pe_meth0 he cl hm (F1.mono hjk) hr hb .nil hx ht
end
end K74
end
-- K74R2
section
set_option maxRecDepth 100000
set_option maxHeartbeats 4000000
/-! Loops' ends and unpacking in an except suite. -/
namespace K74X
open PySem PySem.Spec PyProof.Rows HotX
section
variable {prog : Program} {w : World} {A : Around} {E : Value → Shared → Prop} {s : Shared}
/-- StopIteration raised while x1 is handled: what stood stands -/
theorem stop_hot {x1 : Addr} {h0 : Heap} {α : Type} {K1 : Value → Shared → Prop} {Q0 : α → Shared → Prop} (hot : HotAt A x1 h0)
    (hE : ∀ (a : Addr) (h' : Heap), (∀ b o, h0.get? b = some o → h'.get? b = some o) → (∃ oe, h'.get? a = some oe ∧ oe.cls = .type "StopIteration") → K1 (.ref a) { s with heap := h' }) :
    wpAny (model prog w) A (newExc (.type "StopIteration") [] >>= fun e => (raiseNew e : Sem α)) Q0 K1 { s with heap := h0 } := by
  refine wpAny_bind ?_
  simp only [newExc, newTuple]
  refine wpAny_bind (wpAny_newObj_type ?_ (by size_fits))
  refine wpAny_bind (m := firstArgMember _ _) (wpAny_of_eq (a := Value.none) (by first | rfl | (simp only [firstArgMember]; rfl)) ?_)
  refine wpAny_newObj_type ?_ (by size_fits)
  obtain ⟨hh, o1, vs1, h1, d1, c1⟩ := hot
  refine raiseNew_hot ⟨hh, o1, vs1, Heap.get?_push_of_some _ (Heap.get?_push_of_some _ h1), d1, c1⟩ (Nat.ne_of_lt (Heap.lt_size (Heap.get?_push_of_some _ h1))) (Heap.get?_push_size _ rfl) rfl (by first | (simp; done) | (simp; omega) | (simp only [Array.size_append]; simp; omega)) ?_
  refine hE _ _ (fun b o e => ?_) ⟨_, Heap.get?_update_self _ (Heap.get?_push_size _ rfl) rfl, rfl⟩
  rw [Heap.get?_update_other _ _ (Nat.ne_of_gt (Heap.lt_size (Heap.get?_push_of_some _ e)))]
  exact Heap.get?_push_of_some _ (Heap.get?_push_of_some _ e)
/-- what every end of an iterator comes to -/
theorem end_none {Q : Option Value → Shared → Prop} {a : Addr} {h' : Heap} (hc : ∃ oe, h'.get? a = some oe ∧ oe.cls = .type "StopIteration") (hQ : Q none { s with heap := h' }) :
    wpAny (model prog w) A (isInstance (.ref a) (.type "StopIteration") >>= fun b => if b = true then pure none else throw (.ref a)) Q E { s with heap := h' } := by
  obtain ⟨oe, h1, h2⟩ := hc
  refine wpAny_bind (wpAny_isInstance (T := "StopIteration") (b := true) ⟨_, h1, h2⟩ isSubtype_stop ?_)
  exact wpAny_pure hQ
theorem tuple_end_hot {it t x1 : Addr} {i : Nat} {items : Array Value} {Q : Option Value → Shared → Prop} (hot : HotAt A x1 s.heap) (hne : x1 ≠ it)
    (hit : IsTupIter s.heap it t i) (ht : IsTup s.heap t items) (hx : items[i]? = none)
    (hQ : ∀ h', Heap.ExtBut it s.heap h' → Q none { s with heap := h' }) : wpAny (model prog w) A (pyNext (.ref it)) Q E s := by
  obtain ⟨o, ho, hc, hd⟩ := id hit
  obtain ⟨ol, hol, _, nl, hdl⟩ := ht
  unfold pyNext
  refine wpAny_bind (wpAny_attempt (wpAny_callSpecial?_slot (name := Str.ofString "__next__") hit.typeIs slot_tupleiter_next (wpAny_call_entry slot_tupleiter_next hit.typeIs entry_tupleiter_next ?_ (args_tupleiter_next _))))
  show wpAny _ _ (field (.ref it) 0 >>= _) _ _ s
  refine wpAny_bind (wpAny_field ho hd (x := .ref t) rfl ?_)
  show wpAny _ _ (if (Value.ref t == Value.none) = true then _ else _) _ _ s
  rw [if_neg (by simp)]
  show wpAny _ _ (field (.ref it) 1 >>= _) _ _ s
  refine wpAny_bind (wpAny_field ho hd (x := .int i 0) rfl ?_)
  show wpAny _ _ (seqItems? (.ref t) >>= _) _ _ s
  refine wpAny_bind (wpAny_seqItems hol hdl ?_)
  simp only [Int.toNat_natCast, hx]
  refine wpAny_bind (wpAny_rule (wpAny_bind (wpAny_setField ho hd (by simp) ?_)))
  obtain ⟨hh, o1, vs1, h1, d1, c1⟩ := hot
  have sb := Heap.SameBut.update s.heap it (Obj.mapFields (·.setIfInBounds 0 .none))
  refine stop_hot (x1 := x1) ⟨hh, o1, vs1, (sb.2 _ hne).trans h1, d1, c1⟩ fun a h' k hc => ?_
  exact end_none hc (hQ _ fun b u hb e => k b u ((sb.2 b hb).trans e))
theorem unpack_hot {env : Env} {elts : List Expr} {kk : Nat} {pos : Pos} {t x1 : Addr} {items : Array Value} {Q : Unit → Shared → Prop} (hot : HotAt A x1 s.heap) (ht : IsTup s.heap t items)
    (hn : (assignEach elts env).length = items.size) (hstar : (assignEach elts env).findIdx? (·.1) = none)
    (h : ∀ h', Heap.ExtBut s.heap.objs.size s.heap h' → wpAny (model prog w) A (assignInOrder ((assignEach elts env).map (·.2)) items.toList) Q E { s with heap := h' }) :
    wpAny (model prog w) A (assign (.Tuple elts kk pos) env (.ref t)) Q E s := by
  obtain ⟨hh, o1, vs1, h1, d1, c1⟩ := hot
  have l1 : x1 ≠ s.heap.objs.size := Nat.ne_of_lt (Heap.lt_size h1)
  have lt : t ≠ s.heap.objs.size := by
    obtain ⟨o, ho, _⟩ := ht
    exact Nat.ne_of_lt (Heap.lt_size ho)
  rw [assign_Tuple]
  refine wpAny_bind (wpAny_standAt ?_)
  unfold unpack
  rw [hn, hstar]
  refine wpAny_bind (wpAny_holding ?_)
  unfold unpackItems notIterableAtAll
  refine wpAny_bind (wpAny_bind (wpAny_specialOf ht.typeIs slot_tuple_iter.lookup (wpAny_pure ?_)))
  simp only [Bool.false_eq_true, if_false]
  refine wpAny_bind (wpAny_holding (iter_tuple ht ?_))
  refine wpAny_bind (wpAny_holding (draw_tuple lt items.size 0 _ _ ⟨_, Heap.get?_push_size _ rfl, rfl, rfl⟩ (ht.push _) (by omega) fun h₁ hit₁ hs₁ => ?_))
  have hall : List.take items.size (List.drop 0 items.toList) = items.toList := by
    rw [List.drop_zero]
    exact List.take_of_length_le (by simp)
  rw [hall, if_neg (by simp)]
  have ht₁ : IsTup h₁ t items := (ht.push _).extBut hs₁.extBut lt
  refine wpAny_bind (wpAny_holding (tuple_end_hot (x1 := x1) ⟨hh, o1, vs1, (hs₁.2 x1 l1).trans (Heap.get?_push_of_some _ h1), d1, c1⟩ l1 hit₁ ht₁ (by simp) fun h₂ he₂ => ?_))
  simp only [Option.isSome_none, Bool.false_eq_true, if_false]
  exact wpAny_pure (h h₂ fun b o hb e => he₂ b o hb (hs₁.extBut b o hb (Heap.get?_push_of_some _ e)))
end
section
variable {prog : Program} {w : World} {A : Around} {E : Value → Shared → Prop} {s : Shared} {K : Type} [DecidableEq K] {knd : PySem.KeyKind prog w K}
theorem items_end_hot {it d x1 : Addr} {i ep : Nat} {kvs : List (K × Value)} {ok ov : Value} {Q : Option Value → Shared → Prop} (hot : HotAt A x1 s.heap) (hne : x1 ≠ it) (hit : IsItemIter s.heap it d i kvs.length ep ok ov)
    (hm : s.heap.DictAt knd d kvs ep) (hx : kvs[i]? = none)
    (hQ : ∀ h', Heap.ExtBut it s.heap h' → Q none { s with heap := h' }) : wpAny (model prog w) A (pyNext (.ref it)) Q E s := by
  obtain ⟨od, es, hod, hcd, hdd, hk, hpr, hn⟩ := id hm
  have hT : s.TypeIs (.ref it) "dict_itemiterator" := ⟨_, hit, rfl⟩
  unfold pyNext
  refine wpAny_bind (wpAny_attempt (wpAny_callSpecial?_slot (name := Str.ofString "__next__") hT F.slot_dict_itemiterator_next (wpAny_call_entry F.slot_dict_itemiterator_next hT F.entry_dict_itemiterator_next ?_ (F.args_dict_itemiterator_next_1 _))))
  refine wpAny_bind (wpAny_pure ?_)
  refine wpAny_bind ?_
  refine wpAny_bind ?_
  first | refine wpAny_bind (wpAny_typeNameOfWhole_itemiter hT (wpAny_pure ?_)) | refine wpAny_bind (wpAny_typeNameOf_itemiter hT (wpAny_pure ?_))
  refine wpAny_bind (wpAny_fieldsOf hit rfl ?_)
  have hown : Builtin.Dict_items.ownsTuple "dict_itemiterator" = true := by decide
  simp only [hown, if_true]
  show wpAny _ _ (if (Value.ref d == Value.none) = true then _ else _) _ _ s
  rw [if_neg (by simp)]
  refine wpAny_bind (wpAny_pure ?_)
  refine wpAny_bind (wpAny_dictEntries hod hdd ?_)
  have hsz : es.size = kvs.length := by rw [← hpr.length]; simp
  rw [if_neg (by rw [hsz]; simp)]
  refine wpAny_bind (wpAny_pure ?_)
  refine wpAny_bind (wpAny_dictEpoch hod hdd ?_)
  rw [if_neg (by simp)]
  refine wpAny_pure ?_
  have hge : es.size ≤ i := by rw [hsz]; simpa using hx
  simp only [show ¬ ((i : Int) < 0) from by omega, if_false, Int.toNat_natCast, Array.getElem?_eq_none hge]
  refine wpAny_bind ?_
  first | refine wpAny_bind (wpAny_typeNameOfWhole_itemiter hT (wpAny_pure ?_)) | refine wpAny_bind (wpAny_typeNameOf_itemiter hT (wpAny_pure ?_))
  show wpAny _ _ (setField (.ref it) 2 .none >>= _) _ _ s
  refine wpAny_bind (wpAny_setField hit rfl (by simp) ?_)
  obtain ⟨hh, o1, vs1, h1, d1, c1⟩ := hot
  have sb := Heap.SameBut.update s.heap it (Obj.mapFields (·.setIfInBounds 2 .none))
  refine stop_hot (x1 := x1) ⟨hh, o1, vs1, (sb.2 _ hne).trans h1, d1, c1⟩ fun a h' k hc => ?_
  exact end_none hc (hQ _ fun b u hb e => k b u ((sb.2 b hb).trans e))
end
end K74X

namespace K74
open PySem PySem.Spec PyProof.Rows L2
theorem hot_at {X : Cx} (hc : L2H.HotC X) {pins : List (Addr × Obj)} {σ : St} {H : Hp} {s : Shared} (I : Inv X pins σ H s) : ∃ p : Addr × Obj, p ∈ X.pn ∧ HotX.HotAt X.A p.1 s.heap := by
  obtain ⟨p, ⟨hh, v1, e1, c1⟩, hp⟩ := hc
  exact ⟨p, hp, hh, p.2, v1, (I.pin p (List.mem_append_left _ hp)).1, e1, c1⟩
section
variable {P : Program} {w : World} {K : PySem.W.Frag} {d : Addr} {o : Obj} {es : Array DictEntry} {ep : Nat}
theorem turn_itemsH {kvs : List (Key × V)} {elts : List Expr} {kk : Nat} {tpos : Pos} (it : Addr) (hod : o.data = .dict es ep) :
    L2H.TurnH P w K (.Tuple elts kk tpos) (Iti d o kvs) [it] it (fun i h => ∃ ok ov, IsItemIter h it d i kvs.length ep ok ov) where
  mem := List.mem_singleton.mpr rfl
  obj := fun i h st b hb => by
    obtain ⟨ok, ov, e⟩ := st
    rw [List.mem_singleton.mp hb]
    exact ⟨_, e, fun v z => nomatch z⟩
  keep := fun i h h' ⟨ok, ov, e⟩ k => ⟨ok, ov, k it (List.mem_singleton.mpr rfl) _ e⟩
  item := by
    rintro X rfl rfl rfl hc i pins s σ H E I hf ⟨ok, ov, he⟩ ⟨hd, hi⟩
    obtain ⟨_, _, _, es', ep', vs, hdt, _, kv, hm⟩ := I.frzK hd
    obtain ⟨rfl, rfl⟩ := dict_ep hod hdt
    obtain ⟨⟨k, v⟩, hkv⟩ : ∃ p, kvs[i]? = some p := ⟨kvs[i], List.getElem?_eq_getElem hi⟩
    obtain ⟨u, hu, ru⟩ := kv_get kv hkv
    have hl : kvs.length = vs.length := Paired.length kv
    rw [hl] at he
    have hlt : it < s.heap.objs.size := Heap.lt_size he
    refine wpAny_pyNext_items_item he hm hu fun key h1 hkey ho hT hz hk => ⟨_, rfl, wpAny_letOwnedTupleGo_items (s := { s with heap := h1 }) ho fun h2 he2 sb => ?_⟩
    have old : ∀ b u, b ∉ [it] → s.heap.get? b = some u → h2.get? b = some u := fun b u hb e =>
      have nb : b ≠ it := fun z => hb (List.mem_singleton.mpr z)
      (sb.2 b nb).trans (hk b u nb e)
    have hT2 := (sb.2 _ (Nat.ne_of_gt hlt)).trans hT
    have I1 := I.turnedNew (t' := s.toks) (ob := .tup [kV k, v]) old hf (Nat.le_refl _) ⟨by show 2 ≤ sizeLine; decide, [key, u], .cons (relV_key hkey) (.cons ru .nil), ⟨_, hT2, rfl, _, rfl⟩⟩
    refine ⟨.ref s.heap.objs.size, _, I1, rfl, ⟨_, k, v, hkv, rfl, I.hok.fresh (Nat.le_refl _), rfl⟩, ⟨key, u, by rw [hl]; exact he2⟩, fun b hb => ?_⟩
    rw [List.mem_singleton.mp hb, upd_ne (Nat.ne_of_lt hlt)]
    exact (hf it (List.mem_singleton.mpr rfl)).1
  done := by
    rintro X rfl rfl rfl hc i pins s σ H E I hf ⟨ok, ov, he⟩ ⟨hd, hi⟩
    obtain ⟨f0, f1, f2, f3, f4, f5⟩ := hf it (List.mem_singleton.mpr rfl)
    obtain ⟨_, _, _, es', ep', vs, hdt, _, kv, hm⟩ := I.frzK hd
    obtain ⟨rfl, rfl⟩ := dict_ep hod hdt
    have hl : kvs.length = vs.length := Paired.length kv
    rw [hl] at he
    obtain ⟨p, hp, hot⟩ := hot_at hc I
    exact K74X.items_end_hot hot (f5 p (List.mem_append_left _ hp)) he hm (List.getElem?_eq_none (by omega)) fun h' eb => ⟨rfl, I.turned (t' := s.toks) (fun b ob hb e => eb b ob hb e) f0 f1 f3 f4 f5⟩
  self := fun A i s Q E st h => let ⟨_, _, e⟩ := st; PySem.W.kcp_self e h
end
section
variable {X : Cx} {e : Expr} {td : TE} {apos cpos : Pos}
theorem pi_itemsH {elts : List Expr} {kk : Nat} {tpos : Pos} (he : PE X e td) (hbase : attributeBase e "items" X.env (eval e X.env) = eval e X.env := by rfl) (hline : (apos.endLine == cpos.line) = true := by rfl) :
    L2H.PIH X (.Tuple elts kk tpos) (.Call (.Attribute e "items" apos) [] [] cpos) (iItems td) := by
  refine ⟨fun pins s σ H R I h => ?_⟩
  refine wpAny_Call_method (T := "dict") (id := "dict.items") hbase rfl hline F.plainAttrs_dict F.slot_dict_items F.type_dict_items (thn (he.run pins s σ H _ I h) fun u s1 ⟨x, H1, I1, rx, d, o, kvs, ex, hd, q⟩ => ?_)
  subst ex
  obtain rfl : u = Value.ref d := rx
  obtain ⟨hs, _, _, es, ep, vs, hdt, _, kv, hm⟩ := I1.frzK hd
  have hl : kvs.length = vs.length := Paired.length kv
  refine ⟨hm.dictOf.typeIs, hm.dictOf.mapOf.noDict, ?_⟩
  have I2 : Inv X pins σ H1 { s1 with heap := s1.heap.push { cls := .type "dict_items", data := .fields #[.ref d] } } := I1.kept (t' := s1.toks) fun b ob q => Heap.get?_push_of_some _ q
  refine method_meetsIn F.slot_dict_items F.entry_dict_items rfl (PySem.evalArgs_none ⟨rfl, hm.dictOf.typeIs, F.args_dict_items_1 _, _, meets_dict_items (mixKind X.prog X.w) d hs, ⟨vs, hm.dictOf⟩, ?_⟩)
  refine wpAny_pyIter_items (d := d) (knd := mixKind X.prog X.w) ⟨_, Heap.get?_push_size _ rfl, rfl, rfl⟩ (hm.push _) ?_
  refine ⟨_, [_], _, _, H1, rfl, I2.kept (t' := s1.toks) fun b ob q => Heap.get?_push_of_some _ q, turn_itemsH _ hdt, ⟨.none, .none, ?_⟩, fun b hb => ?_, q⟩
  · rw [hl]
    exact Heap.get?_push_size _ rfl
  · rw [List.mem_singleton.mp hb]
    exact I2.fpOk (Nat.le_refl _) (I2.hok.fresh (Nat.le_refl _))
theorem pg_tupC {es : List Expr} {k : Nat} {t : TGs} {n : Nat} {pos : Pos} (c : Cool X) (h : PGs X es t)
    (hn : (assignEach es X.env).length = n := by rfl) (hst : (assignEach es X.env).findIdx? (·.1) = none := by rfl) : PG X (.Tuple es k pos) (gTup X.K n t) := by
  rcases c with c | c
  · exact pg_tup c h hn hst
  · refine ⟨fun pins s σ H v u Q I r ⟨a, xs, ev, hq, hl, hw⟩ => ?_⟩
    subst ev
    cases r
    obtain ⟨its, rv, ht, _⟩ := I.tuple hq
    obtain ⟨p, _, hot⟩ := hot_at c I
    refine K74X.unpack_hot hot ht (by simp [hn, ← hl, rv.length]) hst fun h' hx => ?_
    exact h.run pins _ σ H xs _ Q (I.kept (t' := s.toks) fun b o e => hx b o (Nat.ne_of_lt (Heap.lt_size e)) e) (by simpa using rv) hw
/-- for a, b in d.items(), d locked -/
theorem ps_forItems {elts : List Expr} {kk : Nat} {tpos pos : Pos} {g : TG} {tb : TS} {body : List Stmt} (c : Cool X) (hp : PassesOwn (model X.prog X.w) X.A X.env X.xe) (he : PE X e td) (hg : PG X (.Tuple elts kk tpos) g) (hb : PSs X body tb)
    (hbase : attributeBase e "items" X.env (eval e X.env) = eval e X.env := by rfl) (hline : (apos.endLine == cpos.line) = true := by rfl)
    (hs : ∀ x, foldedSetIterable (.Call (.Attribute e "items" apos) [] [] cpos) X.env x = pure x := by intro _; rfl) :
    PS X (.For (.Tuple elts kk tpos) (.Call (.Attribute e "items" apos) [] [] cpos) body [] pos) (tFor (iItems td) g tb) := by
  rcases c with c | c
  · exact ps_for hp c (pi_items he hbase hline) hg hb hs
  · exact L2H.ps_forH hp c (pi_itemsH he hbase hline) hg hb hs
/-- for x in range(n) -/
theorem ps_forRange {tg a : Expr} {ta : TA} {g : TG} {tb : TS} {body : List Stmt} {p pos pos' : Pos} (c : Cool X) (hp : PassesOwn (model X.prog X.w) X.A X.env X.xe) (hm : X.mg "range" = none) (ha : PA X [a] ta) (hgt : PG X tg g) (hb : PSs X body tb) (hg : Gl X "range" := by rfl)
    (hst : starEach [a] X.env = [(false, eval a X.env)] := by rfl) (hs : ∀ x, foldedSetIterable (.Call (.Name "range" p) [a] [] pos') X.env x = pure x := by intro _; rfl) :
    PS X (.For tg (.Call (.Name "range" p) [a] [] pos') body [] pos) (tFor (iRng1 ta) g tb) := by
  rcases c with c | c
  · exact ps_for hp c (pi_range1 hg hm ha hst) hgt hb hs
  · exact L2H.ps_forH hp c (L2H.pi_range1H hg hm ha hst) hgt hb hs
end
end K74
end
-- K74R3
section
set_option maxRecDepth 100000
set_option maxHeartbeats 4000000
/-! A dict comprehension over range(n), in an except suite too. -/
namespace K74
open PySem PySem.Spec PyProof.Rows L2
section
variable {X : Cx}
/-- what is pinned at a block's start stands through the block -/
theorem blk_hot {s3 : Shared} {H3 : Hp} {σ σ' : St} {pins pins' : List (Addr × Obj)} {scope : Scope} {ce : Env} {fp : List Addr} {H' : Hp} {s' : Shared} {p : Addr × Obj} (I3 : Inv X pins σ H3 s3) (hp : p ∈ X.pn) (hf : ∀ b ∈ fp, FpOk X pins H3 b)
    (I' : Inv (X.blk s3 H3 scope ce fp) pins' σ' H' s') : s'.heap.get? p.1 = some p.2 := by
  obtain ⟨e, n, nl, nf, _⟩ := I3.pin p (List.mem_append_left _ hp)
  refine I'.base.keep p.1 p.2 e n (fun z => ?_) fun z => (hf p.1 z).2.2.2.2.2 p (List.mem_append_left _ hp) rfl
  have z : p.1 ∈ frs X.stack := z
  rcases List.mem_cons.mp (I3.stkSub _ z) with q | q
  · exact nl q
  · exact nf q
/-- range(n)'s iterator, just laid -/
theorem range_made {a : Expr} {ta : TA} {pr cpos : Pos} {pins : List (Addr × Obj)} {σ : St} {H : Hp} {s : Shared} {R : It → Hp → Prop} (hgr : Gl X "range") (hm : X.mg "range" = none) (ha : PA X [a] ta) (hst : starEach [a] X.env = [(false, eval a X.env)]) (I : Inv X pins σ H s) (h : iRng1 ta σ H R) :
    wpAny (model X.prog X.w) X.A (eval (.Call (.Name "range" pr) [a] [] cpos) X.env) (fun v s1 => wpAny (model X.prog X.w) X.A (pyIter v) (fun itv s2 => ∃ (it : Addr) (H1 : Hp) (n : Nat), itv = .ref it ∧ Inv X pins σ H1 s2 ∧ IsRangeIter s2.heap it 0 (n : Int) 1 ∧ FpOk X pins H1 it ∧ R (Itr 0 n) H1) X.xe s1) X.xe s := by
  refine Call_ (ld_blt I hgr hm boot_range (PyProof.Rows.callWith_type1 (thn (ha.run cpos pins s σ H _ I h) fun us s1 ⟨vs, H1, I1, r1, n, ev, q1, q2, q⟩ => ?_) hst rfl))
  subst ev
  obtain ⟨u, rfl, t, rfl⟩ := vals1 r1
  refine call_range_1 (wpAny_pyIter_range (IsRange.new ..) (small_one (by omega) (by omega) q1 q2) ?_)
  have I2 : Inv X pins σ H1 { s1 with heap := s1.heap.push { cls := .type "range", data := .fields #[.int 0 s1.toks, .int n t, .int 1 (s1.toks + 1)] }, toks := s1.toks + 1 + 1 } := I1.kept fun b o e => Heap.get?_push_of_some _ e
  refine ⟨_, H1, n.toNat, rfl, I2.kept (t' := s1.toks + 1 + 1) fun b o e => Heap.get?_push_of_some _ e, ?_, I2.fpOk (Nat.le_refl _) (I2.hok.fresh (Nat.le_refl _)), q⟩
  have e2 : ((n.toNat : Nat) : Int) = Builtin.Range.rangeSize 0 n 1 := by rw [rangeSize_one]; split <;> omega
  rw [e2]
  exact Heap.get?_push_size _ rfl
theorem dc_rangeH {kx vx tg a : Expr} {ta : TA} {ifs : List Expr} {scope : Scope} {own : List (Str × Nat)} {pr cpos pos : Pos} {g : TG} {tt : TT} {tk tv : TE} (hc : L2H.HotC X) (hN : X.N.Nodup) (hgr : Gl X "range") (hm : X.mg "range" = none) (ha : PA X [a] ta) (hst : starEach [a] X.env = [(false, eval a X.env)])
    (ok : BlkOk X.N X.env.scope scope own)
    (hg : ∀ (s : Shared) (H : Hp) (C : Addr) (cl : List (Str × Addr)) (fp : List Addr), PG (X.blk s H scope (compEnvC scope cl C X.env) fp) tg g) (ht : ∀ (s : Shared) (H : Hp) (C : Addr) (cl : List (Str × Addr)) (fp : List Addr), PTs (X.blk s H scope (compEnvC scope cl C X.env) fp) ifs tt)
    (hk : ∀ (s : Shared) (H : Hp) (C : Addr) (cl : List (Str × Addr)) (fp : List Addr), PE (X.blk s H scope (compEnvC scope cl C X.env) fp) kx tk)
    (he : ∀ (s : Shared) (H : Hp) (C : Addr) (cl : List (Str × Addr)) (fp : List Addr), PE (X.blk s H scope (compEnvC scope cl C X.env) fp) vx tv) (hs : ∀ x, foldedSetIterable (.Call (.Name "range" pr) [a] [] cpos) X.env x = pure x) :
    PE X (.DictComp kx vx [⟨tg, .Call (.Name "range" pr) [a] [] cpos, ifs, 0⟩] scope pos) (tDc (iRng1 ta) g tt tk tv (own.map (·.2))) := by
  refine ⟨fun pins s σ H Q I h => ?_⟩
  rw [arm_eval_DictComp]
  obtain ⟨p, ⟨hh, pv1, pe1, pc1⟩, hp⟩ := id hc
  have hfree : ∀ y ∈ scope.names, y.2 = .free → ∃ c, X.env.cells.lookup y.1 = some c := fun y hy e => (ok.free y hy e).elim (fun k => I.ok.has _ (.inl k)) fun k => I.ok.has _ (.inr k)
  refine wpAny_comprehension_free (use := none) rfl hs (closure_ok hfree) ok.kind (fun y hy e => by rw [ok.uniq y hy, e]) (thn (range_made hgr hm ha hst I h) fun xv s1 hx => thn hx fun itv s2 ⟨it, H2, n, eit, I2, st2, f2, q⟩ => ?_)
  subst eit
  refine wpAny_newObj_type (newEnv_comp ?_)
  generalize hD : s2.heap.objs.size = D
  have hDn : H2 D = none := I2.hok.fresh (Nat.le_of_eq hD)
  obtain ⟨W, ⟨m0, w0⟩, turn⟩ := q D hDn
  generalize hs3 : ({ s2 with heap := s2.heap.push { cls := .type "dict", data := .dict #[] } } : Shared) = s3
  have I3 : Inv X pins σ (upd H2 D (.dK [])) s3 := by
    rw [← hs3]
    refine I2.laid (t' := s2.toks) (fun b o e => Heap.get?_push_of_some _ e) (Nat.le_of_eq hD) ?_
    rw [← hD]
    exact dk_empty s2.heap I2.big
  have h3 : s3.heap = s2.heap.push { cls := .type "dict", data := .dict #[] } := by rw [← hs3]
  have ltI : it < s2.heap.objs.size := Heap.lt_size st2
  have f3 : ∀ b ∈ [it], FpOk X pins (upd H2 D (.dK [])) b ∧ b < s3.heap.objs.size := fun b hb => by
    rw [List.mem_singleton.mp hb]
    exact ⟨⟨by rw [upd_ne (by rw [← hD]; exact Nat.ne_of_lt ltI)]; exact f2.1, f2.2⟩, by rw [h3, Heap.size_push]; exact Nat.lt_succ_of_lt ltI⟩
  have st3 : IsRangeIter s3.heap it 0 (n : Int) 1 := by
    rw [h3]
    exact Heap.get?_push_of_some _ st2
  have I4 := block_start I3 ok hN f3
  have pg := hg s3 (upd H2 D (.dK [])) s3.heap.objs.size (cellsFrom (s3.heap.objs.size + 1) scope.names (cloFrom X.env.cells scope.names [])) [it]
  have pt := ht s3 (upd H2 D (.dK [])) s3.heap.objs.size (cellsFrom (s3.heap.objs.size + 1) scope.names (cloFrom X.env.cells scope.names [])) [it]
  have pk := hk s3 (upd H2 D (.dK [])) s3.heap.objs.size (cellsFrom (s3.heap.objs.size + 1) scope.names (cloFrom X.env.cells scope.names [])) [it]
  have pe := he s3 (upd H2 D (.dK [])) s3.heap.objs.size (cellsFrom (s3.heap.objs.size + 1) scope.names (cloFrom X.env.cells scope.names [])) [it]
  show codeAny _ _ (.compStart (.DictComp kx vx [⟨tg, .Call (.Name "range" pr) [a] [] cpos, ifs, 0⟩] scope pos) 0 (.ref it) (.ref D) (compEnvC scope (cellsFrom (s3.heap.objs.size + 1) scope.names (cloFrom X.env.cells scope.names [])) s3.heap.objs.size X.env)) (compPost (model X.prog X.w) X.A X.xe none (EP X pins σ Q) (.ref D) s3.heap.objs.size) { s3 with heap := pushCells (s3.heap.push { cls := .type "dict", data := .dict #[] }) scope.names }
  have nfp : (upd H2 D (.dK [])) it = none := (f3 it (List.mem_singleton.mpr rfl)).1.1
  generalize hce : compEnvC scope (cellsFrom (s3.heap.objs.size + 1) scope.names (cloFrom X.env.cells scope.names [])) s3.heap.objs.size X.env = ce at I4 pg pt pk pe ⊢
  have cL : ce.locals = s3.heap.objs.size := by subst hce; rfl
  generalize hH3 : upd H2 D (.dK []) = H3 at I3 I4 pg pt pk pe w0 nfp f3
  generalize hs4 : ({ s3 with heap := pushCells (s3.heap.push { cls := .type "dict", data := .dict #[] }) scope.names } : Shared) = s4 at I4 ⊢
  have st4 : IsRangeIter s4.heap it 0 (n : Int) 1 := by
    rw [← hs4]
    exact pushCells_keeps _ _ _ _ (Heap.get?_push_of_some _ st3)
  have fO : ∀ {σ' : St} {H' : Hp} {s' : Shared}, Inv (X.blk s3 H3 scope ce [it]) [] σ' H' s' → H' it = none → FpOk (X.blk s3 H3 scope ce [it]) [] H' it := fun {σ' H' s'} I' hn =>
    have hb := List.mem_singleton.mpr (rfl : it = it)
    ⟨hn, (I'.ok.exf it hb).1, I'.ok.exfs it hb, .inl hb, fun x c e => (I'.ok.exf it hb).2 x c e, fun r hr => absurd (show r ∈ ([] : List (Addr × Obj)) ++ [] from hr) (by simp)⟩
  have loop : codeAny (model X.prog X.w) X.A (.compLoop (.DictComp kx vx [⟨tg, .Call (.Name "range" pr) [a] [] cpos, ifs, 0⟩] scope pos) 0 (.ref it) (.ref D) ce) (compPost (model X.prog X.w) X.A X.xe none (EP X pins σ Q) (.ref D) s3.heap.objs.size) s4 := by
    refine compLoop_anyD (fun m s' => ∃ (i : Nat) (H' : Hp), Inv (X.blk s3 H3 scope ce [it]) [] (wipe σ (own.map (·.2))) H' s' ∧ IsRangeIter s'.heap it (0 + ((i : Nat) : Int) * 1) ((n : Int) - ((i : Nat) : Int)) 1 ∧ H' it = none ∧ W i m H') ?_ m0 ⟨0, H3, I4, by simpa using st4, nfp, w0⟩
    rintro m s5 ⟨i, H5, I5, st5, n5, w5⟩
    obtain ⟨f0, f1, f3', f4, f5, f6⟩ := fO I5 n5
    rcases turn i m H5 w5 with ⟨stop, qq⟩ | ⟨go, Nx, hNx, step⟩
    · have pin := blk_hot I3 hp (fun b hb => (f3 b hb).1) I5
      have hle : n ≤ i := stop
      refine HotX.pyNext_range_end_hot (x1 := p.1) ⟨hh, p.2, pv1, pin, pe1, pc1⟩ st5 (by omega) fun h' kk => ?_
      have I6 : Inv (X.blk s3 H3 scope ce [it]) [] (wipe σ (own.map (·.2))) H5 { s5 with heap := h' } := I5.kept (t' := s5.toks) kk
      have I7 : Inv X pins σ H5 { s5 with heap := h' } := I3.call' (ch := [it]) I6.os I6.base I6.hok I6.bare fun b hb => ⟨(f3 b hb).1.2.2.2.1, (f3 b hb).1.2.1, (f3 b hb).1.2.2.2.2.1, (f3 b hb).1.2.2.2.2.2⟩
      have nC : H5 s3.heap.objs.size = none := by
        have z : H5 ce.locals = none := I6.free
        rw [cL] at z
        exact z
      obtain ⟨mm, hn, _⟩ := I6.loc
      have hn : h'.Ns ce.locals mm := hn
      rw [cL] at hn
      obtain ⟨g0, g1, g2, g3, g4, g5⟩ := I3.fpOk (Nat.le_refl _) nC
      exact ⟨mm, hn, fun h'' sb => ⟨.ref D, H5, I7.turned (t' := s5.toks) (fun b o hb e => (sb.2 b hb).trans e) g0 g1 g3 g4 g5, rfl, qq⟩⟩
    · have hlt : i < n := go
      refine wpAny_pyNext_range_item st5 (by omega) fun h' st' sb => ?_
      have st7 : IsRangeIter h' it (0 + ((i + 1 : Nat) : Int) * 1) ((n : Int) - ((i + 1 : Nat) : Int)) 1 := by
        have e1 : (0 : Int) + ((i : Nat) : Int) * 1 + 1 = 0 + ((i + 1 : Nat) : Int) * 1 := by omega
        have e2 : (n : Int) - ((i : Nat) : Int) - 1 = (n : Int) - ((i + 1 : Nat) : Int) := by omega
        rw [← e1, ← e2]
        exact st'
      have I7 : Inv (X.blk s3 H3 scope ce [it]) [] (wipe σ (own.map (·.2))) H5 { s5 with heap := h', toks := s5.toks + 1 } := I5.turned (fun b o hb e => (sb.2 b hb).trans e) f0 f1 f4 f5 f6
      refine go_of (s := { s5 with heap := h', toks := s5.toks + 1 }) (n := "range_iterator") st7 rfl rfl (by decide) ?_
      have I8 := I7.pinned (fp := [it]) (fun b hb => by rw [List.mem_singleton.mp hb]; exact fO I7 n5) (fun b hb => by rw [List.mem_singleton.mp hb]; exact ⟨_, st7, fun v z => nomatch (show Data.fields _ = Data.cell v from z)⟩)
      refine thnF (pg.run _ _ _ H5 (.int (0 + i)) _ _ I8 ⟨s5.toks, by rw [Int.mul_one]⟩ (step (.int (0 + i)) H5 ⟨rfl, rfl⟩)) fun _ s8 ⟨σ8, H8, I9, hw8, q8⟩ => ?_
      refine thnF (pt.run _ s8 σ8 H8 _ I9 q8) fun b s9 ⟨H9, I10, q9⟩ => ?_
      have fin : ∀ {s' : Shared} {H' : Hp}, Inv (X.blk s3 H3 scope ce [it]) ([] ++ pinsAt [it] h') σ8 H' s' → Nx H' → ∃ m', m' < m ∧ ∃ (i : Nat) (H' : Hp), Inv (X.blk s3 H3 scope ce [it]) [] (wipe σ (own.map (·.2))) H' s' ∧ IsRangeIter s'.heap it (0 + ((i : Nat) : Int) * 1) ((n : Int) - ((i : Nat) : Int)) 1 ∧ H' it = none ∧ W i m' H' := fun {s' H'} I' nx => by
        obtain ⟨m', hm', w'⟩ := hNx H' nx
        have pin' := I'.pin (it, _) (List.mem_append_right _ (List.mem_append_right _ (mem_pinsAt (List.mem_singleton.mpr rfl) st7)))
        have hl : (wipe σ (own.map (·.2))).length = σ8.length := by rw [← hw8, wipe_length]
        refine ⟨m', hm', i + 1, H', (I'.unpinned (pins := [])).weak hl (fun j v e => ?_), pin'.1, pin'.2.1, w'⟩
        rw [← hw8] at e
        exact (wipe_some e).1
      cases b with
      | false =>
        simp only [Bool.false_eq_true, if_false] at q9 ⊢
        exact fin I10 q9
      | true =>
        simp only [if_true] at q9 ⊢
        refine thnF (pk.run _ s9 σ8 H9 _ I10 q9) fun z s10 ⟨yk, H10, I11, r11, q10⟩ => ?_
        refine thnF (pe.run _ s10 σ8 H10 _ I11 q10) fun z2 s11 ⟨yv, H11, I12, r12, kvs, k, ek, hD11, hz11, nx⟩ => ?_
        subst ek
        exact d_dictSet (X := X.blk s3 H3 scope ce [it]) I12 hD11 hz11 r11 r12 fun s12 I13 => fin I13 nx
  exact codeAny_compStart_dict loop (wpAny_pyIter_rangeiter st4 loop)
/-- {k: v for x in range(n) if ..}, whatever is handled -/
theorem pe_dcRange {kx vx tg a : Expr} {ta : TA} {ifs : List Expr} {scope : Scope} {own : List (Str × Nat)} {pr cpos pos : Pos} {g : TG} {tt : TT} {tk tv : TE} (c : Cool X) (hN : X.N.Nodup) (hm : X.mg "range" = none) (ha : PA X [a] ta) 
    (ok : BlkOk X.N X.env.scope scope own)
    (hg : ∀ (s : Shared) (H : Hp) (C : Addr) (cl : List (Str × Addr)) (fp : List Addr), PG (X.blk s H scope (compEnvC scope cl C X.env) fp) tg g) (ht : ∀ (s : Shared) (H : Hp) (C : Addr) (cl : List (Str × Addr)) (fp : List Addr), PTs (X.blk s H scope (compEnvC scope cl C X.env) fp) ifs tt)
    (hk : ∀ (s : Shared) (H : Hp) (C : Addr) (cl : List (Str × Addr)) (fp : List Addr), PE (X.blk s H scope (compEnvC scope cl C X.env) fp) kx tk)
    (he : ∀ (s : Shared) (H : Hp) (C : Addr) (cl : List (Str × Addr)) (fp : List Addr), PE (X.blk s H scope (compEnvC scope cl C X.env) fp) vx tv) (hgr : Gl X "range" := by rfl) (hst : starEach [a] X.env = [(false, eval a X.env)] := by rfl) (hs : ∀ x, foldedSetIterable (.Call (.Name "range" pr) [a] [] cpos) X.env x = pure x := by intro _; rfl) :
    PE X (.DictComp kx vx [⟨tg, .Call (.Name "range" pr) [a] [] cpos, ifs, 0⟩] scope pos) (tDc (iRng1 ta) g tt tk tv (own.map (·.2))) := by
  rcases c with c | c
  · exact pe_dc c hN (pi_range1 hgr hm ha hst) ok hg ht hk he hs
  · exact dc_rangeH c hN hgr hm ha hst ok hg ht hk he hs
end
end K74
end
-- K74R4
section
set_option maxRecDepth 100000
set_option maxHeartbeats 4000000
/-! Instances: made, compared, measured, multiplied; properties: whatever is handled. -/
namespace K74X
open PySem PySem.W PySem.Calls PyProof.Rows
section
variable {prog : Program} {w : World} {A : Around} {E : Value → Shared → Prop} {s : Shared} {K : Frag} {x C f : Addr} {ox : Obj} {od : Option Obj} {b tb : Value}
theorem ne_body (hu : A.units < cLine) (X : K.In s.heap) (I : InstAt s.heap x ox C od) (he : findIn K (.ref C) "__eq__" = some (some (.ref f))) (hf : isFn K (.ref f) = true) {Q : Fin → Shared → Prop}
    (h : wpAny (model prog w) A (call (.ref f) [.ref x, b]) (fun v s' => ∃ r, v = .bool r ∧ Q (.done (.ret (.bool (!r)))) s') E s) : wpAny (model prog w) A (Builtin.«object.__ne__» ⟨[.ref x, b], []⟩) Q E s := by
  unfold Builtin.«object.__ne__»
  refine wpAny_bind (m := slotArgs _ _ _) (wpAny_pure ?_)
  refine wpAny_bind (wpAny_cRoomFor hu ?_)
  refine wpAny_bind (m := callSpecialIfBound? (.ref x) (Str.ofString "__eq__") [b]) (ifBound_K X I he hf (wpAny_mono h (fun v s' hv => ?_) fun _ _ e => e))
  obtain ⟨r, rfl, hq⟩ := hv
  exact wpAny_bind (wpAny_truthy_bool (wpAny_pure hq))
theorem ne_try (hu : A.units + 1 < cLine) (X : K.In s.heap) (I : InstAt s.heap x ox C od) (hn : findIn K (.ref C) "__ne__" = some (some (.builtin "object.__ne__"))) (hm : mroIn K C (.type "object") = some true)
    (he : findIn K (.ref C) "__eq__" = some (some (.ref f))) (hf : isFn K (.ref f) = true) {Q : Option Value → Shared → Prop}
    (h : wpAny (model prog w) A.in1 (call (.ref f) [.ref x, b]) (fun v s' => ∃ r, v = .bool r ∧ Q (some (.bool (!r))) s') E s) : wpAny (model prog w) A (tryCompare (.ref x) "__ne__" b) Q E s := by
  have sub : Looks (model prog w) s.heap (isInstance (.ref x) (.type "object")) true := I.type.andThen (looks_mroIn X hm)
  have hbd : ∀ self, bindSpecial (.builtin "object.__ne__") self = pure (.builtin "object.__ne__", [self]) := fun self => F.cmp_object.ne.bind self
  have fin : wpAny (model prog w) A (call (.builtin "object.__ne__") [.ref x, b]) (fun v s' => ∃ r, v = .bool r ∧ Q (some (.bool r)) s') E s := by
    refine wpAny_call (codeAny_call_builtin F.cmp_object.ne.plain F.cmpEntry_ne (@check_slot (model prog w) _ _ s "object.__ne__" "object" "__ne__" (.ref x) [b] [] _ F.cmpKind_ne F.cmpSplit_ne sub (F.cmpArgs_ne _ _) ?_))
    refine ne_body (A := A.in1) hu X I he hf (wpAny_mono h (fun v s' hv => ?_) fun _ _ e => e)
    obtain ⟨r, rfl, hq⟩ := hv
    exact ⟨r, rfl, _, rfl, hq⟩
  have key : wpAny (model prog w) A (callSpecialIfBound? (.ref x) (Str.ofString "__ne__") [b]) (fun r s' => ∃ v, r = some (.bool v) ∧ Q (some (.bool v)) s') E s := by
    simp only [callSpecialIfBound?, bindSpecialIfBound?]
    refine wpAny_holding (wpAny_bind (wpAny_bind (wpAny_bind (I.type.here ((looks_findIn X hn).here ?_)))))
    refine wpAny_bind (wpAny_askSetting (wpAny_ite ?_))
    have fin2 : wpAny (model prog w) A (call (.builtin "object.__ne__") ([.ref x] ++ [b]) >>= fun v => pure (some v)) (fun r s' => ∃ v, r = some (.bool v) ∧ Q (some (.bool v)) s') E s :=
      wpAny_bind (wpAny_mono fin (fun v s' ⟨r, hv, hq⟩ => by subst hv; exact wpAny_pure ⟨r, rfl, hq⟩) fun _ _ z => z)
    have L : Looks (model prog w) s.heap (bindSpecial (.builtin "object.__ne__") (.ref x)) (.builtin "object.__ne__", [.ref x]) := Looks.of_pure (hbd _)
    split
    · exact wpAny_bind (L.here (wpAny_pure (by exact fin2)))
    · exact wpAny_tryCatch (wpAny_bind (L.here (wpAny_pure (by exact fin2))))
  unfold tryCompare
  refine wpAny_bind (wpAny_mono key (fun r s' ⟨v, hv, hq⟩ => ?_) fun _ _ z => z)
  subst hv
  exact wpAny_pure hq
theorem ne_own (hu : A.units + 1 < cLine) (X : K.In s.heap) (I : InstAt s.heap x ox C od) (hb : Looks (model prog w) s.heap (typeOf b) tb) (h1 : notFirst K C tb = true) (hn : findIn K (.ref C) "__ne__" = some (some (.builtin "object.__ne__"))) (hm : mroIn K C (.type "object") = some true)
    (he : findIn K (.ref C) "__eq__" = some (some (.ref f))) (hf : isFn K (.ref f) = true) {Q : Value → Shared → Prop}
    (h : wpAny (model prog w) A.in1 (call (.ref f) [.ref x, b]) (fun v s' => ∃ r, v = .bool r ∧ Q (.bool (!r)) s') E s) : wpAny (model prog w) A (richCompare .NotEq (.ref x) b) Q E s := by
  have one : wpAny (model prog w) A (tryCompare (.ref x) "__ne__" b) (fun r s' => ∃ v, r = some v ∧ Q v s') E s :=
    ne_try hu X I hn hm he hf (wpAny_mono h (fun v s' ⟨r, hv, hq⟩ => ⟨r, hv, _, rfl, hq⟩) fun _ _ z => z)
  unfold richCompare
  simp only [oneThing_ref]
  refine wpAny_holding (wpAny_bind (wpAny_cRoomFor (Nat.lt_of_succ_lt hu) ?_))
  refine wpAny_bind (I.type.here (wpAny_bind (hb.here ?_)))
  rw [cmpInfo_NotEq]
  dsimp only
  split
  · rename_i q
    have e : subIn K tb (.ref C) = some false := by
      rcases Bool.or_eq_true_iff.mp h1 with e | e
      · rw [beq_iff_eq.mp e] at q; simp at q
      · exact beq_iff_eq.mp e
    refine wpAny_bind ((looks_subIn X e).here ?_)
    simp only [Bool.false_eq_true, if_false]
    refine wpAny_bind (wpAny_mono one (fun r s' z => ?_) fun _ _ e => e)
    obtain ⟨v, rfl, hq⟩ := z
    exact wpAny_pure hq
  · refine wpAny_bind (wpAny_pure ?_)
    simp only [Bool.false_eq_true, if_false]
    refine wpAny_bind (wpAny_mono one (fun r s' z => ?_) fun _ _ e => e)
    obtain ⟨v, rfl, hq⟩ := z
    exact wpAny_pure hq
end
end K74X

namespace K74
open PySem PySem.Spec PyProof.Rows L2
section
variable {X : Cx} {C f : Addr} {k : Nat} {fd : FuncData} {ps : List Str} {sp : Sp} {pins : List (Addr × Obj)} {σ : St} {H : Hp} {s : Shared} {Q : VK} {us : List Value} {vs : List V} {A' : Around}
/-- a def's call, somewhere below the running body -/
theorem run_cool (F1 : FnOk X.prog X.w X.K X.mg X.base CX0 k f fd ps sp) (F2 : L2H.FnH X.prog X.w X.K X.mg X.base CX0 k f fd ps sp) (c : Cool X) (hr : L2H.RoomH k A') (hfr : A'.frames = X.A.frames) (hh : A'.handled = X.A.handled) (I : Inv X pins σ H s)
    {args : Args} (hb : BindsTo s fd args (ps.zip us)) (r : Vals vs us) (h : sp vs H Q E0) : codeAny (model X.prog X.w) A' (.call (.ref f) args) (CR CX0 X.stack X.prog X.w H s Q E0) s := by
  have e := I.env0
  have e0 : Env0 X.prog X.w X.K X.mg X.base A' X.stack s H := ⟨by rw [hfr]; exact e.frames, e.mod, e.bs, e.bsz, e.funs, e.frf, e.hok, e.bare⟩
  rcases c with c | ⟨p, ⟨h1, h2⟩, hp⟩
  · exact F1.run A' X.stack s H args us vs Q E0 ⟨by rw [hh]; exact I.ok.hd c, hr.dp, hr.un⟩ e0 hb r h
  · have P1 := I.pin p (List.mem_append_left _ hp)
    exact F2.run A' X.stack s H args us vs Q E0 p hr ⟨by rw [hh]; exact h1, h2⟩ ⟨P1.1, P1.2.1, fun hm => (List.mem_cons.mp (I.stkSub p.1 hm)).elim P1.2.2.1 P1.2.2.2.1, P1.2.2.2.2⟩ e0 hb r h
theorem call_cool {E' : Value → Shared → Prop} (F1 : FnOk X.prog X.w X.K X.mg X.base CX0 k f fd ps sp) (F2 : L2H.FnH X.prog X.w X.K X.mg X.base CX0 k f fd ps sp) (c : Cool X) (hr : L2H.RoomH k A') (hfr : A'.frames = X.A.frames) (hh : A'.handled = X.A.handled) (I : Inv X pins σ H s)
    (hb : Binds X.K fd ps []) (r : Vals vs us) (h : sp vs H Q E0) : wpAny (model X.prog X.w) A' (call (.ref f) us) (EP X pins σ Q) E' s := by
  have hl : us.length = ps.length := by rw [← r.length]; exact F1.len _ _ _ _ h
  have b := hb s us I.kIn (by rw [List.append_nil]; exact hl)
  rw [List.append_nil] at b
  refine wpAny_call (codeAny_mono (run_cool F1 F2 c hr hfr hh I b r h) fun r s' hq => ?_)
  cases r with
  | error e => exact False.elim hq
  | ok fl =>
    cases fl with
    | ret u => exact I.after hq
    | next => exact False.elim hq
    | brk => exact False.elim hq
    | cont => exact False.elim hq
/-- a class that the module names, made by its __init__ -/
structure KG (P : Program) (w : World) (K : PySem.W.Frag) (mg : Str → Option Value) (base : Heap) (C : Addr) (k : Nat) (x : Str) (ps : List Str) (sp : Sp) : Prop where
  ex : ∃ (f : Addr) (fd : FuncData), FnOk P w K mg base CX0 k f fd ps sp ∧ L2H.FnH P w K mg base CX0 k f fd ps sp ∧ Mk K C f ∧ Binds K fd ps [] ∧ mg x = some (.ref C)
/-- C(..): what is made, and the heap -/
theorem run_mk {x : Str} {E' : Value → Shared → Prop} (G : KG X.prog X.w X.K X.mg X.base C k x ps sp) (c : Cool X) (hr : L2H.RoomH (k + 1) X.A) (I : Inv X pins σ H s) (r : Vals vs us)
    (h : ∀ y dy, H y = none → H dy = none → dy ≠ y → sp (.ref y :: vs) (upd (upd H dy (.own y)) y (.ins C dy [])) (fun v H2 => v = .non ∧ Q (.ref y) H2) E0) :
    wpAny (model X.prog X.w) X.A (call (.ref C) us) (EP X pins σ Q) E' s := by
  obtain ⟨f, fd, F1, F2, M, hb, hm⟩ := G.ex
  have hq := h (s.heap.objs.size + 1) s.heap.objs.size (I.hok.fresh (Nat.le_succ _)) (I.hok.fresh (Nat.le_refl _)) (Nat.ne_of_lt (Nat.lt_succ_self _))
  have I2 := Inv.made (C := C) I
  have r2 : Vals (V.ref (s.heap.objs.size + 1) :: vs) (Value.ref (s.heap.objs.size + 1) :: us) := .cons rfl r
  have hl : (Value.ref (s.heap.objs.size + 1) :: us).length = ps.length := by
    rw [← r2.length]
    exact F1.len _ _ _ _ hq
  have b := hb _ (Value.ref (s.heap.objs.size + 1) :: us) I2.kIn (by rw [List.append_nil]; exact hl)
  rw [List.append_nil] at b
  have hr2 : L2H.RoomH k (X.A.under (.builtin "type.__call__" ⟨.ref C :: us, []⟩)) := ⟨by have := hr.dp; rw [make_depth]; omega, by have := hr.un; rw [make_units]; omega⟩
  refine wpAny_call (make_map (f := f) I.kIn M.makes M.init (beq_iff_eq.mp M.fn) (codeAny_mono (run_cool F1 F2 c hr2 (by first | rfl | simp [Around.under, Code.envs, Code.isFrame, pushEnvs]) (by first | rfl | simp [Around.under]) I2 b r2 hq) fun r s' hq' => ?_))
  cases r with
  | error e => exact False.elim hq'
  | ok fl =>
    cases fl with
    | ret u =>
      obtain ⟨v, H', I3, rv, ev, q3⟩ := I2.after hq'
      subst ev
      exact ⟨rv, ⟨V.ref (s.heap.objs.size + 1), H', I3, rfl, q3⟩⟩
    | next => exact False.elim hq'
    | brk => exact False.elim hq'
    | cont => exact False.elim hq'
theorem pe_mk {x : Str} {e : Expr} {es : List Expr} {t : TA} {p pos : Pos} {j : Nat} (G : KG X.prog X.w X.K X.mg X.base C k x ps sp) (c : Cool X) (hr : L2H.RoomH j X.A) (ha : PA X (e :: es) t) (hj : k + 1 ≤ j := by decide) (hg : Gl X x := by rfl)
    (hdb : (x == ("__debug__" : Str)) = false := by decide) (he : starEach (e :: es) X.env = (false, eval e X.env) :: starEach es X.env := by rfl) (hpl : (backTo pos (starEach es X.env)).any (·.1) = false := by rfl) :
    PE X (.Call (.Name x p) (e :: es) [] pos) (tMake C sp [] E0 t) := by
  have hm : X.mg x = some (.ref C) := let ⟨_, _, _, _, _, _, h⟩ := G.ex; h
  have kp : PySem.W.keepIn X.K (.ref C) = true := let ⟨_, _, _, _, M, _, _⟩ := G.ex; M.kp
  refine ⟨fun pins s σ H Q I h => ?_⟩
  refine wpAny_Call_Name_kw (ld_glob I hg hm ?_ hdb)
  refine PySem.W.callWith_K (h₀ := X.base) I.ok.mod.kin kp (thn (ha.run pos pins s σ H _ I h) fun us s1 ⟨vs, H1, I1, r, q⟩ => ⟨I1.kIn, ?_⟩) he hpl
  refine run_mk G c (hr.mono hj) I1 r fun y dy h1 h2 h3 => ?_
  have z := q y dy h1 h2 h3
  rw [List.append_nil] at z
  exact z
/-- cls(e, ..), cls a local name that holds the class -/
theorem pe_mkL {x y : Str} {i : Nat} {e : Expr} {es : List Expr} {t : TA} {p pos : Pos} {j : Nat} (G : KG X.prog X.w X.K X.mg X.base C k x ps sp) (c : Cool X) (hr : L2H.RoomH j X.A) (hN : X.N[i]? = some y) (hv : Vis X.env.scope y) (ha : PA X (e :: es) t) (hj : k + 1 ≤ j := by decide)
    (hdb : (y == ("__debug__" : Str)) = false := by decide) (hcd : (y == ("__classdict__" : Str)) = false := by decide) (he : starEach (e :: es) X.env = (false, eval e X.env) :: starEach es X.env := by rfl) (hpl : (backTo pos (starEach es X.env)).any (·.1) = false := by rfl) :
    PE X (.Call (.Name y p) (e :: es) [] pos) (fun σ H Q => σ[i]? = some (some (.ref C)) ∧ tMake C sp [] E0 t σ H Q) := by
  have kp : PySem.W.keepIn X.K (.ref C) = true := let ⟨_, _, _, _, M, _, _⟩ := G.ex; M.kp
  refine ⟨fun pins s σ H Q I ⟨hs, h⟩ => ?_⟩
  refine wpAny_Call_Name_kw (thn ((pe_var (pos := p) hN hv hdb hcd).run pins s σ H (fun v H1 => v = .ref C ∧ H1 = H) I ⟨.ref C, hs, rfl, rfl⟩) fun u s1 ⟨v, H1, I1, r1, ev, eH⟩ => ?_)
  subst ev eH
  obtain rfl : u = Value.ref C := r1
  refine PySem.W.callWith_K (h₀ := X.base) I1.ok.mod.kin kp (thn (ha.run pos pins s1 σ H1 _ I1 h) fun us s2 ⟨vs, H2, I2, r, q⟩ => ⟨I2.kIn, ?_⟩) he hpl
  refine run_mk G c (hr.mono hj) I2 r fun y dy h1 h2 h3 => ?_
  have z := q y dy h1 h2 h3
  rw [List.append_nil] at z
  exact z
end
section
variable {X : Cx} {C : Addr} {j k : Nat} {x : Str} {ps : List Str} {sp : Sp}
/-- a property of the class at C -/
structure PG1 (P : Program) (w : World) (K : PySem.W.Frag) (mg : Str → Option Value) (base : Heap) (C : Addr) (k : Nat) (x : Str) (sp : Sp) : Prop where
  ex : ∃ (f p : Addr) (fd : FuncData), FnOk P w K mg base CX0 k f fd ["self"] sp ∧ L2H.FnH P w K mg base CX0 k f fd ["self"] sp ∧ PropOf K C x p f ∧ Binds K fd ["self"] []
theorem pe_pr {e : Expr} {pos : Pos} {ta : TE} (he : PE X e ta) (cl : Cls X.K C) (G : PG1 X.prog X.w X.K X.mg X.base C k x sp) (c : Cool X) (hr : L2H.RoomH j X.A) (hj : k + 1 ≤ j := by decide)
    (hab : attributeBase e x X.env (eval e X.env) = eval e X.env := by rfl) : PE X (.Attribute e x pos) (tProp C sp [] E0 ta) := by
  obtain ⟨g, p, fd, F1, F2, hp, hb⟩ := G.ex
  refine ⟨fun pins s σ H Q I h => ?_⟩
  refine attr_of hab (thn (he.run pins s σ H _ I h) fun u s1 ⟨y, H1, I1, rx, a, dx, fs, ex, ea, q⟩ => ?_)
  subst ex
  obtain rfl : u = Value.ref a := rx
  obtain ⟨mA, O, _, _, _, _⟩ := ins_get I1.hok ea
  obtain ⟨od, J, _⟩ := O.look
  obtain ⟨rest, hrec⟩ := hp.rec_
  have I2 := I1.tok (s1.toks + 1)
  have hcl : (PySem.W.clsIn X.K C).isSome = true := by
    obtain ⟨cd, hc, _⟩ := PySem.W.any_some cl.hd
    rw [hc]
    rfl
  have hl := F1.len _ _ _ _ q
  have b := hb { s1 with toks := s1.toks + 1 } [.ref a] I2.kIn rfl
  have hr1 : L2H.RoomH k X.A.in1 := ⟨by have := hr.dp; show X.A.depth + 3 * k + 5 < _; omega, by have := hr.un; show X.A.units + 1 + 16 * k + 200 < _; omega⟩
  refine PySem.W.get_bind I1.kIn J (PySem.W.plainGet_of (cl.get x)).1 (PySem.W.findObj_data hcl hp.at_ hp.get hp.tak) (PySem.W.plainGet_of (cl.get x)).2 (wpAny_call (PySem.W.prop_get (s := { s1 with toks := s1.toks + 1 }) I1.kIn hrec ?_))
  refine codeAny_mono (run_cool (us := [.ref a]) (vs := [.ref a]) (A' := X.A.in1) F1 F2 c hr1 rfl rfl I2 b (.cons rfl .nil) q) fun r s' hq => ?_
  cases r with
  | error er => exact False.elim hq
  | ok fl =>
    cases fl with
    | ret u =>
      obtain ⟨v, H', I3, rv, q3⟩ := I2.after hq
      show wpAny _ _ (handedOut u) _ _ _
      rw [PySem.W.handedOut_of (handed_of rv)]
      exact wpAny_pure ⟨v, H', I3, rv, q3⟩
    | next => exact False.elim hq
    | brk => exact False.elim hq
    | cont => exact False.elim hq
/-- len(o) by an own __len__ -/
theorem call_lenI (G : MG X.prog X.w X.K X.mg X.base C k "__len__" ["self"] sp) (c : Cool X) (hr : L2H.RoomH j X.A) (hj : k + 1 ≤ j := by decide) :
    CallR X (.builtin "len") (fun xs H Q => ∃ a dx fs, xs = [.ref a] ∧ H a = some (.ins C dx fs) ∧ sp [.ref a] H (fun v H' => ∃ n : Int, v = .int n ∧ 0 ≤ n ∧ n < 2 ^ 63 ∧ Q (.int n) H') E0) := by
  obtain ⟨g, fd, F1, F2, hm, hb⟩ := G.ex
  intro pins s σ H xs us Q I r h
  obtain ⟨a, dx, fs, rfl, ea, q⟩ := h
  obtain ⟨u, rfl, ru⟩ := vals1 r
  obtain rfl : u = Value.ref a := ru
  obtain ⟨mA, O, _, _, _, _⟩ := ins_get I.hok ea
  obtain ⟨od, J, _⟩ := O.look
  obtain ⟨m, hF⟩ := I.fr
  have hr1 : L2H.RoomH k X.A.in1 := ⟨by have := hr.dp; show X.A.depth + 3 * k + 5 < _; omega, by have := hr.un; show X.A.units + 1 + 16 * k + 200 < _; omega⟩
  refine PySem.W.len_K hF I.ok.mod.kin J hm.at_ hm.fn (thn (call_cool (us := [.ref a]) (vs := [.ref a]) F1 F2 c hr1 rfl rfl I hb (.cons rfl .nil) q) fun v s' ⟨z, H', I', rz, n, ez, h0, h1, hq⟩ => ?_)
  subst ez
  obtain ⟨t, rfl⟩ := rz
  exact ⟨⟨h0, h1⟩, .int n, H', I'.tok _, ⟨_, rfl⟩, hq⟩
/-- a * b by an own __mul__ -/
theorem op_mulI (G : MG X.prog X.w X.K X.mg X.base C k "__mul__" ps sp) (hf : PySem.W.selfFirst X.K C = true) (c : Cool X) (hr : L2H.RoomH j X.A) (hj : k ≤ j := by decide) :
    OpR X (binaryOp .Mult) (fun x y H Q => ∃ a b dx dy fs gs, x = .ref a ∧ y = .ref b ∧ H a = some (.ins C dx fs) ∧ H b = some (.ins C dy gs) ∧ sp [x, y] H Q E0) := by
  obtain ⟨g, fd, F1, F2, hm, hb⟩ := G.ex
  intro pins s σ H x y u v Q I rx ry h
  obtain ⟨a, b, dx, dy, fs, gs, rfl, rfl, ea, eb, q⟩ := h
  obtain rfl : u = Value.ref a := rx
  obtain rfl : v = Value.ref b := ry
  obtain ⟨mA, O, _, _, _, _⟩ := ins_get I.hok ea
  obtain ⟨od, J, _⟩ := O.look
  obtain ⟨mB, O', _, _, _, _⟩ := ins_get I.hok eb
  obtain ⟨od', J', _⟩ := O'.look
  obtain ⟨m, hF⟩ := I.fr
  refine PySem.W.binop_K hF I.ok.mod.kin J J'.type hf hm.at_ hm.fn (thn (call_cool (us := [.ref a, .ref b]) (vs := [.ref a, .ref b]) F1 F2 c (hr.mono hj) rfl rfl I hb (.cons rfl (.cons rfl .nil)) q) fun v s' ⟨z, H', I', rz, hq⟩ => ?_)
  have e : PySem.W.CmpBack (EP X pins σ Q) v s' = EP X pins σ Q v s' := by
    cases z with
    | non => cases rz; rfl
    | bl _ => cases rz; rfl
    | int _ => obtain ⟨_, rfl⟩ := rz; rfl
    | str _ => obtain ⟨_, rfl⟩ := rz; rfl
    | byt _ => obtain ⟨_, rfl⟩ := rz; rfl
    | flt _ => obtain ⟨_, rfl⟩ := rz; rfl
    | ref _ => cases rz; rfl
    | ty _ => cases rz; rfl
  rw [e]
  exact ⟨z, H', I', rz, hq⟩
/-- a == b, a != b by an own __eq__ that hands back a bool; C' the class of b -/
theorem op_eqI {C' : Addr} (G : MG X.prog X.w X.K X.mg X.base C k "__eq__" ps sp) (hf : PySem.W.notFirst X.K C (.ref C') = true) (c : Cool X) (hr : L2H.RoomH j X.A) (hj : k ≤ j := by decide) :
    OpR X (compareOp .Eq) (fun x y H Q => ∃ a b dx dy fs gs, x = .ref a ∧ y = .ref b ∧ H a = some (.ins C dx fs) ∧ H b = some (.ins C' dy gs) ∧ sp [x, y] H (fun v H' => ∃ r, v = .bl r ∧ Q (.bl r) H') E0) := by
  obtain ⟨g, fd, F1, F2, hm, hb⟩ := G.ex
  intro pins s σ H x y u v Q I rx ry h
  obtain ⟨a, b, dx, dy, fs, gs, rfl, rfl, ea, eb, q⟩ := h
  obtain rfl : u = Value.ref a := rx
  obtain rfl : v = Value.ref b := ry
  obtain ⟨mA, O, _, _, _, _⟩ := ins_get I.hok ea
  obtain ⟨od, J, _⟩ := O.look
  obtain ⟨mB, O', _, _, _, _⟩ := ins_get I.hok eb
  obtain ⟨od', J', _⟩ := O'.look
  obtain ⟨m, hF⟩ := I.fr
  show wpAny (model X.prog X.w) X.A (richCompare .Eq (.ref a) (.ref b)) (EP X pins σ Q) X.xe s
  refine PySem.W.cmp_K (op := .Eq) (by have := hr.un; omega) hF I.ok.mod.kin J J'.type hf hm.at_ hm.fn (thn (call_cool (us := [.ref a, .ref b]) (vs := [.ref a, .ref b]) F1 F2 c (hr.mono hj) rfl rfl I hb (.cons rfl (.cons rfl .nil)) q) fun v s' ⟨z, H', I', rz, r, ez, hq⟩ => ?_)
  subst ez
  cases rz
  exact ⟨.bl r, H', I', rfl, hq⟩
theorem op_neI {C' : Addr} (G : MG X.prog X.w X.K X.mg X.base C k "__eq__" ps sp) (hf : PySem.W.notFirst X.K C (.ref C') = true) (hn : PySem.W.findIn X.K (.ref C) "__ne__" = some (some (.builtin "object.__ne__"))) (hmr : PySem.W.mroIn X.K C (.type "object") = some true) (c : Cool X) (hr : L2H.RoomH j X.A) (hj : k + 1 ≤ j := by decide) :
    OpR X (compareOp .NotEq) (fun x y H Q => ∃ a b dx dy fs gs, x = .ref a ∧ y = .ref b ∧ H a = some (.ins C dx fs) ∧ H b = some (.ins C' dy gs) ∧ sp [x, y] H (fun v H' => ∃ r, v = .bl r ∧ Q (.bl (!r)) H') E0) := by
  obtain ⟨g, fd, F1, F2, hm, hb⟩ := G.ex
  intro pins s σ H x y u v Q I rx ry h
  obtain ⟨a, b, dx, dy, fs, gs, rfl, rfl, ea, eb, q⟩ := h
  obtain rfl : u = Value.ref a := rx
  obtain rfl : v = Value.ref b := ry
  obtain ⟨mA, O, _, _, _, _⟩ := ins_get I.hok ea
  obtain ⟨od, J, _⟩ := O.look
  obtain ⟨mB, O', _, _, _, _⟩ := ins_get I.hok eb
  obtain ⟨od', J', _⟩ := O'.look
  have hr1 : L2H.RoomH k X.A.in1 := ⟨by have := hr.dp; show X.A.depth + 3 * k + 5 < _; omega, by have := hr.un; show X.A.units + 1 + 16 * k + 200 < _; omega⟩
  show wpAny (model X.prog X.w) X.A (richCompare .NotEq (.ref a) (.ref b)) (EP X pins σ Q) X.xe s
  refine K74X.ne_own (by have := hr.un; omega) I.kIn J J'.type hf hn hmr hm.at_ hm.fn (thn (call_cool (us := [.ref a, .ref b]) (vs := [.ref a, .ref b]) F1 F2 c hr1 rfl rfl I hb (.cons rfl (.cons rfl .nil)) q) fun v s' ⟨z, H', I', rz, r, ez, hq⟩ => ?_)
  subst ez
  cases rz
  exact ⟨r, rfl, .bl (!r), H', I', rfl, hq⟩
end
end K74
end
-- K74R9
section
set_option maxRecDepth 100000
set_option maxHeartbeats 4000000
/-! with C(..) as y, __enter__ and __exit__ of the text, the body may raise. -/
namespace PySem.W
open PySem PySem.Calls PyProof.Rows
section
variable {prog : Program} {w : World} {M : Model} {A : Around} {E : Value → Shared → Prop} {s : Shared} {env : Env} {K : Frag} {x C L fe fx : Addr} {ox : Obj} {od : Option Obj} {pos : Pos}
/-- behind the body's exception e, noted and on the ground -/
def KwExc (prog : Program) (w : World) (A : Around) (E : Value → Shared → Prop) (env : Env) (x fx : Addr) (Q : Flow → Shared → Prop) (e : Value) (s : Shared) : Prop :=
  wpAny (model prog w) A (typeOf e) (fun c s3 => wpAny (model prog w) A (tracebackOf e) (fun t s4 => e ≠ byPass ∧ codeAny (model prog w) (A.mark (some e)) (.call (.ref fx) ⟨[.ref x, c, e, t], []⟩)
    (fun r s5 => match r with | .ok (.ret u) => u = .none ∧ wpAny (model prog w) A (passOn "with" e env) Q E s5 | .ok _ => False | .error e' => E e' s5) s4) E s3) E s
theorem kw_coreX {b : Value → Sem Unit} {bdy : Sem Flow} {Q : Flow → Shared → Prop} (X : K.In s.heap) (I : InstAt s.heap x ox C od) (he : findIn K (.ref C) "__enter__" = some (some (.ref fe))) (hfe : isFn K (.ref fe) = true) (hx : findIn K (.ref C) "__exit__" = some (some (.ref fx))) (hfx : isFn K (.ref fx) = true)
    (h : wpAny (model prog w) A (call (.ref fe) [.ref x]) (fun v s₂ => wpAny (model prog w) A (b v) (fun _ s₃ => wpAny (model prog w) A bdy (fun f s₄ => wpAny (model prog w) A (call (.ref fx) [.ref x, .none, .none, .none]) (fun _ s₅ => Q f s₅) E s₄)
      (fun e s₄ => wpAny (model prog w) A (noteFrame e env) (fun _ s₅ => wpAny (model prog w) A (setFlight e none) (fun _ s₆ => KwExc prog w A E env x fx Q e s₆) E s₅) E s₄) s₃) (fun _ _ => False) s₂) E s) :
    wpAny (model prog w) A (withItem false pos env (pure (.ref x)) (some b) bdy) Q E s := by
  obtain ⟨cd, hcd, ae⟩ := kw_along he
  obtain ⟨cd', hcd', ax⟩ := kw_along hx
  cases hcd.symm.trans hcd'
  obtain ⟨hh, g, d, tt, os⟩ := s
  have L1 : Looks (model prog w) hh (specialOnItsLine (.ref x) "__enter__") (some (.ref fe), cd.mro) := kw_special X I hcd ae
  have L2 : Looks (model prog w) hh (specialOnItsLine (.ref x) "__exit__") (some (.ref fx), cd.mro) := kw_special X I hcd ax
  have L3 : Looks (model prog w) hh (bindSpecial (.ref fe) (.ref x)) (.ref fe, [.ref x]) := bind_fn X _ (beq_iff_eq.mp hfe)
  have L4 : Looks (model prog w) hh (bindSpecial (.ref fx) (.ref x)) (.ref fx, [.ref x]) := bind_fn X _ (beq_iff_eq.mp hfx)
  have L5 : Looks (model prog w) hh (aMethodOfAnotherBuiltinTypeStops (.ref fe) cd.mro) () := Looks.of_pure rfl
  have L6 : Looks (model prog w) hh (aMethodOfAnotherBuiltinTypeStops (.ref fx) cd.mro) () := Looks.of_pure rfl
  unfold withItem
  refine wpAny_bind (wpAny_pure ?_)
  refine wpAny_bind (wpAny_standAt ?_)
  simp only [Bool.false_eq_true, if_false]
  kw_lk
  refine wpAny_mono h (fun v s₂ h₂ => ?_) fun _ _ z => z
  kw_lk
  refine wpAny_attempt (kw_held ?_)
  show wpAny _ _ (b v >>= fun _ => bdy) _ _ _
  refine wpAny_bind (wpAny_mono h₂ (fun _ s₃ h₃ => wpAny_mono h₃ (fun f s₄ h₄ => ?_) (fun e s₄ h₄ => ?_)) fun _ _ z => z.elim)
  · kw_lk
    refine wpAny_mono h₄ (fun _ s₅ h₅ => ?_) fun _ _ z => z
    kw_lk
    exact h₅
  · dsimp only
    refine wpAny_bind (wpAny_mono h₄ (fun _ s₅ h₅ => ?_) fun _ _ z => z)
    refine wpAny_bind (wpAny_mono h₅ (fun _ s₆ h₆ => ?_) fun _ _ z => z)
    refine wpAny_bind (wpAny_standAt ?_)
    refine wpAny_holding ?_
    unfold KwExc at h₆
    refine wpAny_bind (wpAny_mono h₆ (fun c s₇ h₇ => ?_) fun _ _ z => z)
    refine wpAny_bind (wpAny_mono h₇ (fun t s₈ h₈ => ?_) fun _ _ z => z)
    obtain ⟨hnb, h₈⟩ := h₈
    unfold withItem.marked
    refine wpAny_bind (wpAny_bind (wpAny_run (codeAny_mono h₈ (fun r s₉ h₉ => ?_)) (by intro z; exact hnb (Option.some.inj z))))
    cases r with
    | error e' => exact h₉
    | ok f =>
      cases f with
      | ret u =>
        obtain ⟨rfl, h₉⟩ := h₉
        refine wpAny_pure ?_
        simp only [pure_bind, Bool.false_eq_true, if_false]
        exact h₉
      | next => exact h₉.elim
      | brk => exact h₉.elim
      | cont => exact h₉.elim
end
end PySem.W
namespace K74
open PySem PySem.Spec PyProof.Rows L2
/-- what is wished of the body's exception: the exit, then Wout -/
def wWith (x : Addr) (spX : Sp) (Wout : L2.WX) : L2.WX := fun cls d σ H => ∃ c, cls = .ref c ∧ ∀ (ea : Addr) (t : V), spX [.ref x, .ref c, .ref ea, t] H (fun r H4 => r = .non ∧ Wout cls d σ H4) E0
def dWith (x : Addr) (spX : Sp) (D : Ends) : Ends where
  nx := fun σ H => spX [.ref x, .non, .non, .non] H (fun _ H4 => D.nx σ H4) E0
  rt := fun v H => spX [.ref x, .non, .non, .non] H (fun _ H4 => D.rt v H4) E0
  bk := fun σ H => spX [.ref x, .non, .non, .non] H (fun _ H4 => D.bk σ H4) E0
  ct := fun σ H => spX [.ref x, .non, .non, .non] H (fun _ H4 => D.ct σ H4) E0
def tWith (C : Addr) (i : Nat) (spE spX : Sp) (Wout : L2.WX) (tc : TE) (tb : L2.WX → TS) : TS := fun D σ H => tc σ H fun v H1 => ∃ x dx fs, v = .ref x ∧ H1 x = some (.ins C dx fs) ∧
  spE [.ref x] H1 (fun v2 H2 => tb (wWith x spX Wout) (dWith x spX D) (σ.set i (some v2)) H2) E0
section
variable {X : Cx} {C : Addr} {i j ke kx : Nat} {ctx : Expr} {y : Str} {py pos : Pos} {body : List Stmt} {spE spX : Sp} {tc : TE} {tb : L2.WX → TS} {Wout : L2.WX}
/-- the body's exception meets the exit -/
theorem with_exc {Q : Flow → Shared → Prop} {x fx : Addr} {fdx : FuncData} {pins : List (Addr × Obj)} {u : Value} {s' : Shared} {xe : Value → Shared → Prop} (hs : X.stack = X.env :: X.outer) (hf : X.env.frame = some X.env.locals) (hex : X.ex = []) (ok : X.Ok) (tk : L2N.Takes X Wout)
    (F1 : FnOk X.prog X.w X.K X.mg X.base CX0 kx fx fdx ["self", "kind", "value", "trace"] spX) (F2 : L2H.FnH X.prog X.w X.K X.mg X.base CX0 kx fx fdx ["self", "kind", "value", "trace"] spX) (hbn : Binds X.K fdx ["self", "kind", "value", "trace"] []) (hr : L2H.RoomH j X.A) (hkx : kx ≤ j)
    (xx : L2N.XE (X.tr (X.pn ++ pins) xe) (wWith x spX Wout) u s') :
    wpAny (model X.prog X.w) X.A (noteFrame u X.env) (fun _ s₅ => wpAny (model X.prog X.w) X.A (setFlight u none) (fun _ s₆ => PySem.W.KwExc X.prog X.w X.A X.xe X.env x fx Q u s₆) X.xe s₅) X.xe s' := by
  have hfr : X.A.frames = some (X.env :: X.outer) := by rw [ok.frames, hs]
  obtain ⟨a, B, sI, pins', σ', H', cls, d, rfl, J', nb, up, sky, na, os, ag, hw⟩ := xx
  have J : Inv X pins σ' H' sI := J'.ofTry ok
  have sky' : Sky B (X.env :: X.outer) a (L2N.Zn cls d) X.env.locals s'.heap := by rw [← hs]; exact sky
  refine L2N.Sky.land L2N.Zn.steady hfr hf sky' fun h3 fl3 up3 => ?_
  have J3 : Inv X pins σ' H' { s' with heap := h3 } := J.landed nb fl3.1 (up.trans up3) os ag
  obtain ⟨k1, k2, k3, oe, vs, T, oT, ts, he3, hz, hd, hv1, hnT, hTe, hT, hdT, ht3⟩ := id fl3
  have nT : H' T = none := (J.inGround nb).gone hnT
  have notFr : ∀ (b : Addr) (o : Obj) (fv : Array Value), h3.get? b = some o → o.data = .fields fv → b ∉ frs (X.env :: X.outer) := fun b o fv e dd hm => by
    obtain ⟨_, o', e', hnf⟩ := k3.mem hm
    have eo : o = o' := Option.some.inj (e.symm.trans e')
    rw [← eo] at hnf
    exact hnf _ dd
  have locF : X.env.locals ∈ frs (X.env :: X.outer) := List.mem_filterMap.mpr ⟨X.env, List.mem_cons_self, hf⟩
  have fsF : ∀ b, b ∈ X.fs → b ∈ frs (X.env :: X.outer) := fun b hm => by
    obtain ⟨e, he, q⟩ := List.mem_filterMap.mp hm
    exact List.mem_filterMap.mpr ⟨e, List.mem_cons_of_mem _ he, q⟩
  have fa := notFr a oe vs he3 hd
  have fT := notFr T oT ts hT hdT
  have S3 : Inv (X.suite a ((a, oe) :: (T, oT) :: (X.pn ++ pins))) [] σ' H' { s' with heap := h3 } :=
    ⟨J3.ok.suite _ _, J3.os, J3.bare, J3.base, J3.loc, J3.cell, J3.free, J3.freeC, fun p hp => by
      rw [List.append_nil] at hp
      rcases List.mem_cons.mp hp with z | hp
      · rw [z]
        exact ⟨he3, na, fun z2 => fa (by rw [show a = X.env.locals from z2]; exact locF), fun z2 => fa (fsF _ z2), fun v z2 => by
          have z3 : oe.data = .cell v := z2
          rw [hd] at z3
          cases z3⟩
      · rcases List.mem_cons.mp hp with z | hp
        · rw [z]
          exact ⟨hT, nT, fun z2 => fT (by rw [show T = X.env.locals from z2]; exact locF), fun z2 => fT (fsF _ z2), fun v z2 => by
            have z3 : oT.data = .cell v := z2
            rw [hdT] at z3
            cases z3⟩
        · exact J3.pin p hp, J3.hok, J3.len⟩
  unfold PySem.W.KwExc
  refine wpAny_typeOf_ref he3 ?_
  rw [hz.1]
  obtain ⟨c, rfl, hw⟩ := hw
  -- the exit's call
  have call_ : ∀ (t : V) (tv : Value), RelV t tv → Value.ref a ≠ byPass ∧ codeAny (model X.prog X.w) (X.A.mark (some (.ref a))) (.call (.ref fx) ⟨[.ref x, .ref c, .ref a, tv], []⟩)
      (fun r s5 => match r with | .ok (.ret u) => u = .none ∧ wpAny (model X.prog X.w) X.A (PySem.passOn "with" (.ref a) X.env) Q X.xe s5 | .ok _ => False | .error e' => X.xe e' s5) { s' with heap := h3 } := fun t tv rt => by
    refine ⟨ref_ne_byPass a, ?_⟩
    have hot : L2H.HotC (X.suite a ((a, oe) :: (T, oT) :: (X.pn ++ pins))) := ⟨(a, oe), ⟨rfl, vs, hd, hz.2.2 vs hd⟩, List.mem_cons_self⟩
    have b := hbn { s' with heap := h3 } [.ref x, .ref c, .ref a, tv] S3.kIn rfl
    refine codeAny_mono (run_cool (X := X.suite a ((a, oe) :: (T, oT) :: (X.pn ++ pins))) (A' := X.A.mark (some (.ref a))) (us := [.ref x, .ref c, .ref a, tv]) (vs := [.ref x, .ref c, .ref a, t]) F1 F2 (.inr hot) ⟨(hr.mono hkx).dp, (hr.mono hkx).un⟩ rfl rfl S3 b
      (.cons rfl (.cons rfl (.cons rfl (.cons rt .nil)))) (hw a t)) fun r s6 hq => ?_
    cases r with
    | error e => exact False.elim hq
    | ok fl =>
      cases fl with
      | next => exact False.elim hq
      | brk => exact False.elim hq
      | cont => exact False.elim hq
      | ret u =>
        obtain ⟨v, H6, S6, rv, hv, q6⟩ := S3.after hq
        subst hv
        refine ⟨rv, ?_⟩
        have J6 : Inv X pins σ' H6 s6 := ⟨ok, S6.os, S6.bare, S6.base, S6.loc, S6.cell, S6.free, S6.freeC, fun p hp => S6.pin p (List.mem_append_left _ (List.mem_cons_of_mem _ (List.mem_cons_of_mem _ hp))), S6.hok, S6.len⟩
        have pa := S6.pin (a, oe) (List.mem_append_left _ List.mem_cons_self)
        have pT := S6.pin (T, oT) (List.mem_append_left _ (List.mem_cons_of_mem _ List.mem_cons_self))
        have ga : s6.heap.get? a = some oe := pa.1
        have gT : s6.heap.get? T = some oT := pT.1
        have na6 : H6 a = none := pa.2.1
        have nT6 : H6 T = none := pT.2.1
        have far : ∀ b o, sI.heap.get? b = some o → b ≠ a ∧ b ≠ T := fun b o e => by
          by_cases hb : b ∈ frs X.stack
          · rw [hs] at hb
            exact ⟨fun z => fa (by rw [← z]; exact hb), fun z => fT (by rw [← z]; exact hb)⟩
          · have q := nb b o e hb
            exact ⟨fun z => by
              rw [z, k2] at q
              exact (nomatch q), fun z => by
              rw [z, hnT] at q
              cases q⟩
        have far0 : ∀ b o, X.s_0.heap.get? b = some o → b ≠ a ∧ b ≠ T := fun b o e => by
          obtain ⟨o', q⟩ := J.base.there b o e (by rw [hex]; simp)
          exact far b o' q
        have farP : ∀ p ∈ X.pn ++ pins, p.1 ≠ a ∧ p.1 ≠ T := fun p hp => far p.1 p.2 (J.pin p hp).1
        obtain ⟨G, g1, g2⟩ := restrict s6.heap fun b => !(decide (b = a) || decide (b = T))
        have gIn : ∀ b o, G.get? b = some o → s6.heap.get? b = some o ∧ b ≠ a ∧ b ≠ T := fun b o e => by
          cases q : (!(decide (b = a) || decide (b = T))) with
          | false =>
            rw [g2 b q] at e
            cases e
          | true =>
            rw [g1 b q] at e
            simp only [Bool.not_eq_true', Bool.or_eq_false_iff, decide_eq_false_iff_not] at q
            exact ⟨e, q.1, q.2⟩
        have gOf : ∀ b o, b ≠ a → b ≠ T → s6.heap.get? b = some o → G.get? b = some o := fun b o h1 h2 e => by
          rw [g1 b (by simp [h1, h2])]
          exact e
        have I6 : Inv X pins σ' H6 { s6 with heap := G } := J6.less (fun b o e => (gIn b o e).1) gOf ⟨oe, vs, ga, hd⟩ ⟨oT, ts, gT, hdT⟩ na6 nT6 far0 farP
        have B6in : ∀ b o, (PySem.W.hideAll G (frs X.stack)).get? b = some o → s6.heap.get? b = some o := fun b o e => (gIn b o (PySem.W.of_hideAll _ e)).1
        have Bno : ∀ b, (b = a ∨ b = T) → (PySem.W.hideAll G (frs X.stack)).get? b = none := fun b hb => by
          cases q : (PySem.W.hideAll G (frs X.stack)).get? b with
          | none => rfl
          | some o =>
            obtain ⟨_, n1, n2⟩ := gIn b o (PySem.W.of_hideAll _ q)
            rcases hb with z | z
            · exact absurd z n1
            · exact absurd z n2
        have fl6 : HandSPX.FlyingZ (PySem.W.hideAll G (frs X.stack)) (X.env :: X.outer) a (L2N.Zn (.ref c) d) s6.heap := by
          refine ⟨B6in, Bno a (.inl rfl), ?_, oe, vs, T, oT, ts, ga, hz, hd, hv1, Bno T (.inr rfl), hTe, gT, hdT, ht3⟩
          have ff := funFrames_none (B := PySem.W.hideAll G (frs X.stack)) J6.stack fun b hb => PySem.W.hideAll_none _ hb
          rw [← hs]
          exact ff
        unfold PySem.passOn
        refine wpAny_bind (wpAny_field ga hd hv1 ?_)
        rw [if_neg (show ¬ ((Value.ref T == Value.none) = true) from by simp)]
        have goOn : wpAny (model X.prog X.w) X.A (setFlight (.ref a) X.env.frame) (fun _ s7 => wpAny (model X.prog X.w) X.A (throw (.ref a) : Sem Flow) Q X.xe s7) X.xe s6 := by
          rw [hf]
          refine HandSPX.setFlight_upZ fl6 fun h7 hh7 up7 => wpAny_throw (tk _ _ ?_)
          refine ⟨a, PySem.W.hideAll G (frs X.stack), { s6 with heap := G }, pins, σ', H6, .ref c, d, rfl, I6, fun b o e hb => PySem.W.hideAll_get _ e hb, ?_, .inr (.inr (by rw [← hs] at hh7; exact hh7)), na6, rfl, J6.bare, q6⟩
          exact Heap.UpToSlots.trans (Heap.UpToSlots.of_keeps fun b o e => (gIn b o e).1) up7
        first
          | exact wpAny_bind (wpAny_pure (wpAny_bind goOn))
          | exact wpAny_bind goOn
  unfold tracebackOf
  refine wpAny_bind (wpAny_field he3 hd hv1 ?_)
  obtain ⟨v1, ht1⟩ : ∃ v1, ts[1]? = some v1 := by
    have q := (Array.getElem?_eq_some_iff.mp ht3).1
    exact ⟨_, Array.getElem?_eq_some_iff.mpr ⟨by omega, rfl⟩⟩
  dsimp only
  refine wpAny_bind (wpAny_field hT hdT ht1 ?_)
  by_cases hn : (v1 == Value.none) = true
  · rw [if_pos hn]
    exact wpAny_pure (call_ .non .none rfl)
  · rw [if_neg hn]
    exact wpAny_pure (call_ (.ref T) (.ref T) rfl)
/-- THE RULE: with ctx as y: body, the manager an instance of C with __enter__ and __exit__ of the text -/
theorem ps_with (hs : X.stack = X.env :: X.outer) (hf : X.env.frame = some X.env.locals) (hex : X.ex = []) (tk : L2N.Takes X Wout) (hc : X.calm = true) (he : PE X ctx tc) (GE : MG X.prog X.w X.K X.mg X.base C ke "__enter__" ["self"] spE)
    (GX : MG X.prog X.w X.K X.mg X.base C kx "__exit__" ["self", "kind", "value", "trace"] spX) (hr : L2H.RoomH j X.A) (hke : ke ≤ j) (hkx : kx ≤ j) (hN : X.N.Nodup) (hi : X.N[i]? = some y) (hy : X.env.scope.names.lookup y = some .local)
    (hb : ∀ (W : L2.WX) (pn : List (Addr × Obj)) (xe : Value → Shared → Prop), L2N.Takes (X.tr pn xe) W → PassesOwn (model X.prog X.w) X.A X.env xe → PSs (X.tr pn xe) body (tb W)) :
    PS X (.With [⟨ctx, some (.Name y py)⟩] body pos) (tWith C i spE spX Wout tc tb) := by
  obtain ⟨fe, fde, E1, E2, me, hbe⟩ := GE.ex
  obtain ⟨fx, fdx, F1, F2, mx, hbx⟩ := GX.ex
  refine ⟨fun pins s σ H D I h => ?_⟩
  have ok := I.ok
  refine PySem.W.kw_execN (thn (he.run pins s σ H _ I h) fun u s1 ⟨v, H1, I1, r1, x, dx, fs, ev, hx, q⟩ => ?_)
  subst ev
  obtain rfl : u = Value.ref x := r1
  obtain ⟨mA, O, _, _, _, _⟩ := ins_get I1.hok hx
  obtain ⟨od, J, _⟩ := O.look
  unfold PySem.W.KwIn
  refine PySem.W.kw_coreX I1.kIn J me.at_ me.fn mx.at_ mx.fn ?_
  refine thn (call_cool (us := [.ref x]) (vs := [.ref x]) E1 E2 (.inl hc) (hr.mono hke) rfl rfl I1 hbe (.cons rfl .nil) q) fun u2 s2 ⟨v2, H2, I2, r2, q2⟩ => ?_
  refine wpAny_assign_Name (store_ok I2 hN hi (.inl hy) r2 (fun s3 I3 => ?_) (.inr hy))
  have out : ∀ {σ4 : St} {H4 : Hp} {s4 : Shared} {P' : Hp → Prop} {Q : Shared → Prop}, Inv X pins σ4 H4 s4 → spX [.ref x, .non, .non, .non] H4 (fun _ H5 => P' H5) E0 → (∀ H5 s5, Inv X pins σ4 H5 s5 → P' H5 → Q s5) →
      wpAny (model X.prog X.w) X.A (call (.ref fx) [.ref x, .none, .none, .none]) (fun _ s5 => Q s5) X.xe s4 := fun {σ4 H4 s4 P' Q} I4 h4 k =>
    thn (call_cool (us := [.ref x, .none, .none, .none]) (vs := [.ref x, .non, .non, .non]) F1 F2 (.inl hc) (hr.mono hkx) rfl rfl I4 hbx (.cons rfl (.cons rfl (.cons rfl (.cons rfl .nil)))) h4) fun u5 s5 ⟨v5, H5, I5, r5, q5⟩ => k H5 s5 I5 q5
  refine wpAny_mono ((hb (wWith x spX Wout) (X.pn ++ pins) (fun e s₄ => wpAny (model X.prog X.w) X.A (noteFrame e X.env) (fun _ s₅ => wpAny (model X.prog X.w) X.A (setFlight e none) (fun _ s₆ => PySem.W.KwExc X.prog X.w X.A X.xe X.env x fx (SP X pins D) e s₆) X.xe s₅) X.xe s₄)
    (fun u s' xx => with_exc hs hf hex ok tk F1 F2 hbx hr hkx xx) PassesOwn.looking).run [] s3 _ H2 (dWith x spX D) (I3.toTry _) q2) (fun f s4 hsp => ?_) (fun e s4 z => z)
  cases f with
  | next =>
    obtain ⟨σ4, H4, I4, q4⟩ := hsp
    exact out (I4.ofTry ok) q4 fun H5 s5 I5 q5 => ⟨σ4, H5, I5, q5⟩
  | brk =>
    obtain ⟨σ4, H4, I4, q4⟩ := hsp
    exact out (I4.ofTry ok) q4 fun H5 s5 I5 q5 => ⟨σ4, H5, I5, q5⟩
  | cont =>
    obtain ⟨σ4, H4, I4, q4⟩ := hsp
    exact out (I4.ofTry ok) q4 fun H5 s5 I5 q5 => ⟨σ4, H5, I5, q5⟩
  | ret u4 =>
    obtain ⟨v4, σ4, H4, I4, r4, q4⟩ := hsp
    exact out (I4.ofTry ok) q4 fun H5 s5 I5 q5 => ⟨v4, σ4, H5, I5, r4, q5⟩
end
end K74
end
-- K74R7
section
set_option maxRecDepth 100000
set_option maxHeartbeats 4000000
/-! The same where the errors' contexts are not told. -/
namespace L2
open PySem PySem.Spec PyProof.Rows HandSPX
/-- the clauses' wishes, slot i the name's -/
def wManyAsC (K : PySem.W.Frag) (Wout : WX) (D : Ends) (i : Nat) : List (Value × (Addr → Value → Option Addr → TS)) → WX
  | [] => Wout
  | (c, ts) :: r => fun cls d σ H => ∃ b, PySem.W.exmOne K cls c = some b ∧ (b = true → ∀ a, H a = none → ts a cls d { nx := fun σ' H' => D.nx (σ'.set i none) H', rt := D.rt, bk := fun σ' H' => D.bk (σ'.set i none) H', ct := fun σ' H' => D.ct (σ'.set i none) H' } (σ.set i (some (.ref a))) H) ∧
    (b = false → wManyAsC K Wout D i r cls d σ H)
inductive HdsAsC (X : Cx) (n : Str) : List ExceptHandler → List (Value × (Addr → Value → Option Addr → TS)) → Prop
  | nil : HdsAsC X n [] []
  | cons {x : Str} {c : Value} {ts : Addr → Value → Option Addr → TS} {b₀ : Stmt} {suite : List Stmt} {np pos' : Pos} {hds : List ExceptHandler} {l : List (Value × (Addr → Value → Option Addr → TS))} (hc : Names X x c)
      (hsu : ∀ (a : Addr) (oe : Obj) (cls : Value) (d : Option Addr) (pn : List (Addr × Obj)), Zc cls d oe → (∃ vs, oe.data = .fields vs) → PSs (X.suite a ((a, oe) :: pn)) (b₀ :: suite) (ts a cls d)) (r : HdsAsC X n hds l) :
      HdsAsC X n (.ExceptHandler (some (.Name x np)) (some n) (b₀ :: suite) pos' :: hds) ((c, ts) :: l)
section
variable {X : Cx} {n : Str} {i : Nat} {body : List Stmt} {h₀ : ExceptHandler} {hds : List ExceptHandler} {l : List (Value × (Addr → Value → Option Addr → TS))} {pos : Pos} {tb : WX → TS} {Wout : WX}
theorem ps_try_manyAs (hs : X.stack = X.env :: X.outer) (hf : X.env.frame = some X.env.locals) (hN : X.N.Nodup) (hi : X.N[i]? = some n) (hln : X.env.kindOf n = some .local) (tk : Takes X Wout)
    (hb : ∀ (W : WX) (pn : List (Addr × Obj)) (xe : Value → Shared → Prop), Takes (X.tr pn xe) W → PassesOwn (model X.prog X.w) X.A X.env xe → PSs (X.tr pn xe) body (tb W))
    (hh : HdsAsC X n (h₀ :: hds) l) : PS X (.Try body (h₀ :: hds) [] [] pos) (fun D σ H => tb (fun cls d σ H => σ.length = X.N.length → wManyAsC X.K Wout D i l cls d σ H) D σ H) := by
  refine ⟨fun pins s σ H D I h => ?_⟩
  have ok := I.ok
  have hloc : Loc X.env.scope n := .inl hln
  have hfr : X.A.frames = some (X.env :: X.outer) := by rw [ok.frames, hs]
  refine wpAny_Try_except ?_
  refine wpAny_mono ((hb (fun cls d σ H => σ.length = X.N.length → wManyAsC X.K Wout D i l cls d σ H) (X.pn ++ pins) (fun e s₁ => wpAny (model X.prog X.w) X.A (noteFrame e X.env) (fun _ s₂ => wpAny (model X.prog X.w) X.A (setFlight e none) (fun _ s₃ =>
    wpAny (model X.prog X.w) X.A (handleBy e X.env (h₀ :: hds)) (SP X pins D) X.xe s₃) X.xe s₂) X.xe s₁) (fun u s' xx => ?_) PassesOwn.looking).run [] s σ H D (I.toTry _) h) (fun f s1 hsp => ?_) (fun e s1 he => he)
  · -- the catch
    obtain ⟨a, B, sI, pins', σ', H', cls, d, rfl, J', nb, up, sky, na, os, ag, w⟩ := xx
    have J : Inv X pins σ' H' sI := J'.ofTry ok
    replace w := w J.len
    have sky' : Sky B (X.env :: X.outer) a (Zc cls d) X.env.locals s'.heap := by rw [← hs]; exact sky
    show wpAny (model X.prog X.w) X.A (noteFrame (.ref a) X.env) _ _ _
    refine Sky.land Zc.steady hfr hf sky' fun h3 fl3 up3 => ?_
    have J3 : Inv X pins σ' H' { s' with heap := h3 } := J.landed nb fl3.1 (up.trans up3) os ag
    obtain ⟨oe3, vs3, he3, hz3, hd3⟩ := fl3.there
    have notFr : ∀ {h : Heap} {o : Obj} {vs : Array Value}, h.FunFrames B (X.env :: X.outer) → h.get? a = some o → o.data = .fields vs → a ∉ frs (X.env :: X.outer) := fun {h o vs} ff e dd hm => by
      obtain ⟨_, o', e', hnf⟩ := ff.mem hm
      rw [e] at e'; cases e'
      exact hnf _ dd
    have nfr := notFr fl3.2.2.1 he3 hd3
    have nL : a ≠ X.env.locals := fun z => nfr (List.mem_filterMap.mpr ⟨X.env, List.mem_cons_self, by rw [hf, z]⟩)
    have nF : a ∉ X.fs := fun hm => by
      obtain ⟨e, he, q⟩ := List.mem_filterMap.mp hm
      exact nfr (List.mem_filterMap.mpr ⟨e, List.mem_cons_of_mem _ he, q⟩)
    have S3 := J3.suite he3 hd3 na nL nF
    have go : ∀ {hds' : List ExceptHandler} {l' : List (Value × (Addr → Value → Option Addr → TS))}, HdsAsC X n hds' l' → wManyAsC X.K Wout D i l' cls d σ' H' →
        wpAny (model X.prog X.w) X.A (handleBy (.ref a) X.env hds') (SP X pins D) X.xe { s' with heap := h3 } := by
      intro hds' l' hk
      induction hk with
      | nil =>
        intro w
        refine wpAny_handleBy_nil ?_
        obtain ⟨k1, k2, k3, oe, vs, T, oT, ts', he, hz, hd, h1, hr⟩ := id fl3
        unfold PySem.passOn
        refine wpAny_bind (wpAny_field he hd h1 ?_)
        rw [if_neg (show ¬ ((Value.ref T == Value.none) = true) from by simp)]
        have fin : wpAny (model X.prog X.w) X.A (setFlight (.ref a) X.env.frame) (fun _ s4 => wpAny (model X.prog X.w) X.A (throw (.ref a) : Sem Flow) (SP X pins D) X.xe s4) X.xe { s' with heap := h3 } := by
          rw [hf]
          refine HandSPX.setFlight_upZ fl3 fun h4 hh4 up4 => wpAny_throw (tk _ _ ?_)
          exact ⟨a, B, sI, pins, σ', H', cls, d, rfl, J, nb, (up.trans up3).trans up4, .inr (.inr (by rw [hs]; exact hh4)), na, os, ag, w⟩
        first
          | exact wpAny_bind (wpAny_pure (wpAny_bind fin))
          | exact wpAny_bind fin
      | @cons x c ts b₀ suite np pos' hds2 l2 hc hsu r ih =>
        intro w
        obtain ⟨b, hb1, hyes, hno⟩ := w
        refine wpAny_handleBy_cons (codeAny_handlers_test ?_) (by intro q; cases q)
        have LT : PySem.W.Looks (model X.prog X.w) h3 (typeOf (.ref a)) cls := fun A Q E s k q => wpAny_typeOf_ref (k _ _ he3) (by rw [hz3.1]; exact q)
        have LM := PySem.W.exm_one (M := model X.prog X.w) (J3.kIn) LT hb1
        have test : ∀ {Q : Value → Shared → Prop} {E : Value → Shared → Prop}, Q c { s' with heap := h3 } → wpAny (model X.prog X.w) (X.A.mark (some (.ref a))) (eval (.Name x np) X.env) Q E { s' with heap := h3 } := fun {Q E} q => by
          obtain ⟨hg, hdbg, hm | ⟨hm, hv, hnn⟩⟩ := hc
          · exact ld_glob (X := X.suite a ((a, oe3) :: (X.pn ++ pins))) S3 hg hm q hdbg
          · exact ld_blt (X := X.suite a ((a, oe3) :: (X.pn ++ pins))) S3 hg hm hv q hnn hdbg
        refine test (LM.here ?_)
        cases b with
        | true =>
          refine codeAny_handlers_suite_as ?_
          refine HandSPX.lands_againZ fl3 fun h4 fl4 up4 => ?_
          have J4 : Inv X pins σ' H' { s' with heap := h4 } := J.landed nb fl4.1 ((up.trans up3).trans up4) os ag
          obtain ⟨oe4, vs4, he4, hz4, hd4⟩ := fl4.there
          have S4 := J4.suite he4 hd4 na nL nF
          refine store_ok (X := X.suite a ((a, oe4) :: (X.pn ++ pins))) (v := .ref a) S4 hN hi hloc rfl (fun s5 S5 => ?_) (.inr hln)
          refine wpAny_mono ((hsu a oe4 cls d (X.pn ++ pins) hz4 ⟨_, hd4⟩).run [] s5 _ H' _ S5 (hyes rfl a na)) (fun f s6 hsp => ?_) (fun _ _ z => False.elim z)
          have end_ : ∀ {σ6 : St} {H6 : Hp} {Q : Shared → Prop}, Inv (X.suite a ((a, oe4) :: (X.pn ++ pins))) [] σ6 H6 s6 → (∀ s7, Inv X pins (σ6.set i none) H6 s7 → Q s7) →
              wpAny (model X.prog X.w) X.A (do bindName X.env n .none; unbindBehindTheSuite X.env n pos') (fun _ s7 => Q s7) X.xe s6 := fun {σ6 H6 Q} S6 hq => gone_ok (S6.unsuite ok) hN hi hln hq
          cases f with
          | next =>
            obtain ⟨σ6, H6, S6, q6⟩ := hsp
            exact end_ S6 fun s7 J7 => ⟨_, _, J7, q6⟩
          | brk =>
            obtain ⟨σ6, H6, S6, q6⟩ := hsp
            exact end_ S6 fun s7 J7 => ⟨_, _, J7, q6⟩
          | cont =>
            obtain ⟨σ6, H6, S6, q6⟩ := hsp
            exact end_ S6 fun s7 J7 => ⟨_, _, J7, q6⟩
          | ret u =>
            obtain ⟨v6, σ6, H6, S6, r6, q6⟩ := hsp
            exact end_ S6 fun s7 J7 => ⟨_, _, _, J7, r6, q6⟩
        | false =>
          show wpAny _ X.A (handleBy (.ref a) X.env hds2) _ _ _
          exact ih (hno rfl)
    exact go hh w
  · cases f with
    | next =>
      obtain ⟨σ', H', J', q⟩ := hsp
      exact wpAny_execs_nil ⟨σ', H', J'.ofTry ok, q⟩
    | brk =>
      obtain ⟨σ', H', J', q⟩ := hsp
      exact ⟨σ', H', J'.ofTry ok, q⟩
    | cont =>
      obtain ⟨σ', H', J', q⟩ := hsp
      exact ⟨σ', H', J'.ofTry ok, q⟩
    | ret u =>
      obtain ⟨v, σ', H', J', r, q⟩ := hsp
      exact ⟨v, σ', H', J'.ofTry ok, r, q⟩
end
/-- an error whose context is None is an error -/
theorem cx_of_n {P : Program} {w : World} {outer : List Env} {H : Hp} {s : Shared} {E : XK} {u : Value} {s' : Shared} (c : L2N.CX P w outer H s E u s') : CX P w outer H s E u s' := by
  obtain ⟨a, B, H', cls, d, e, fl, r⟩ := c
  obtain ⟨k1, k2, k3, oe, vs, T, oT, ts', he, hz, q⟩ := fl
  exact ⟨a, B, H', cls, d, e, ⟨k1, k2, k3, oe, vs, T, oT, ts', he, hz.zc, q⟩, r⟩
theorem passes_n {X : Cx} {W : WX} {E : XK} (tk : Takes X W) (hW : ∀ cls d σ H, E cls d H → W cls d σ H) : Passes (L2N.CX X.prog X.w) X E :=
  fun pins σ H s e s' I c => passes_call tk hW pins σ H s e s' I (cx_of_n c)
end L2
end
-- K74R8
section
set_option maxRecDepth 100000
set_option maxHeartbeats 4000000
/-! A method whose first statement is super().m(..). -/
namespace K74
open PySem PySem.Spec PyProof.Rows L2 NdefX
open PySem.W (ks_superIn fnX envX typeIn fnIn nsIn mroIn clsIn)
/-- a method of the class D, with the cell __class__ at cc -/
structure FunS (P : Program) (K : PySem.W.Frag) (x qual : Str) (st : Stmt) (D cc f : Addr) (fd : FuncData) : Prop where
  ex : ∃ (oc : Value) (od : Option Addr) (kV doc pm : Value) (an : Option Addr) (cda : Addr) (ct : Value) (osl : Array (Option Value)),
    fd = fnX x qual (defArgs st) (defBody st) (defScope st) [("__class__", cc)] .none kV doc pm an (.ref cda) ct ∧ K.lookup f = some ⟨oc, od, .func fd, osl⟩ ∧ PySem.W.codeIn K (.ref cda) qual = true ∧
      ∃ (ccl : Value) (cdd : Option Addr) (vs : Array Value) (ccs : Array (Option Value)) (file : Str) (tf : Tok), K.lookup cda = some ⟨ccl, cdd, .fields vs, ccs⟩ ∧ vs[2]? = some (.str file tf) ∧ ((P.main.file : Str) == file) = true
  cell : ∃ (cl : Value) (cld : Option Addr) (csl : Array (Option Value)), K.lookup cc = some ⟨cl, cld, .cell (some (.ref D)), csl⟩
  top : (P.main.scope.names.lookup ("super" : Str)).isSome = false
/-- super().m of an instance of C, in a method of D, is the def at f2 -/
structure SupOf (K : PySem.W.Frag) (C D : Addr) (m : Str) (f2 : Addr) : Prop where
  cls : ∃ cdD, clsIn K D = some cdD
  sub : mroIn K C (.ref D) = some true
  at_ : ks_superIn K C D m = some (some (.ref f2))
  ty : typeIn K (.ref f2) = some (.type "function")
  fi : fnIn K f2 = true
  op : nsIn K PySem.cStatics "thirdparty.any" = some none
  nm : (m == ("__class__" : Str)) = false
abbrev nfOf (x qual : Str) (st : Stmt) (cc cda : Addr) : NF := ⟨x, qual, defArgs st, defBody st, defScope st, [("__class__", cc)], cda⟩
section
variable {P : Program} {w : World} {K : PySem.W.Frag} {mg : Str → Option Value} {base : Heap}
theorem sup_base {X : Cx} {pins : List (Addr × Obj)} {σ : L2.St} {H : Hp} {s : Shared} {x qual : Str} {st : Stmt} {C D cc cda f f2 a dx : Addr} {fs : List (Str × V)} {fd : FuncData} {body : List Stmt} {m : Str} {p0 p1 : Pos} {ar : Arg} {vs : Array Value} {file : Str} {tf : Tok} {oc ccl cl : Value} {od cdd cld : Option Addr} {osl ccs csl : Array (Option Value)} {whole : Sem Value} {Q : Value → Shared → Prop}
    (I : Inv X pins σ H s) (he : X.env = envF (nfOf x qual st cc cda) f X.env.locals) (U : SupOf X.K C D m f2)
    (lk : X.K.lookup f = some ⟨oc, od, .func fd, osl⟩) (hp : (fd.params.posonlyargs ++ fd.params.args).head? = some ar) (lc : X.K.lookup cda = some ⟨ccl, cdd, .fields vs, ccs⟩) (hvs : vs[2]? = some (.str file tf)) (hfile : ((X.prog.main.file : Str) == file) = true)
    (lcc : X.K.lookup cc = some ⟨cl, cld, .cell (some (.ref D)), csl⟩) (htop : (X.prog.main.scope.names.lookup ("super" : Str)).isSome = false) (hsup : X.mg "super" = none)
    (hks : (defScope st).names.lookup ("super" : Str) = some .globalImplicit) (hkc : (defScope st).names.lookup ("__class__" : Str) = some .free) (hka : (defScope st).names.lookup ar.arg = some .local)
    (hN : X.N[0]? = some ar.arg) (hs : σ[0]? = some (some (.ref a))) (ha : H a = some (.ins C dx fs))
    (h : ∀ so s', Inv X ((so, PySem.W.ks_superObj D a C) :: pins) σ H s' → Q (.ref so) s') :
    _root_.PySem.wpAt (model X.prog X.w) X.A (.func body X.env) (attributeBase (.Call (.Name "super" p0) [] [] p1) m X.env whole) Q X.xe s := by
  obtain ⟨cdD, hD⟩ := U.cls
  have KX := I.kIn
  obtain ⟨oD, hD1, hD2⟩ : ∃ oD, s.heap.get? D = some oD ∧ oD.data = .cls cdD := by
    unfold clsIn at hD
    split at hD
    · rename_i c d cd' sl ho
      cases hD
      exact ⟨_, KX _ _ ho, rfl⟩
    · cases hD
  obtain ⟨mm, hns, hl⟩ := I.loc
  have kk : ∀ y, X.env.kindOf y = (defScope st).names.lookup y := fun y => by rw [he] <;> rfl
  have ok := I.ok
  refine ks_wpAt_super_base (by rw [kk]; exact hks) (by rw [kk]; exact hkc) U.nm (by rw [he]) (KX _ _ lk) rfl hp (by rw [he]) (KX _ _ lc) rfl hvs hfile htop ?_
  obtain ⟨mb, hb1, hb2⟩ := I.mod.blt
  refine PySem.W.ks_loadName_global ok.kind (by rw [kk]; exact hks) (Calls.loadGlobal_builtin (by rw [ok.glob]; exact I.mod.glob.keeps I.bk) hsup (by rw [ok.blt]; exact hb1.keeps I.bk) ((hb2 _ (by decide)).trans (by rfl : bootBuiltins "super" = some (.type "super"))) ⟨rfl, ?_⟩)
  refine wpAny_loadName_free ok.kind (by rw [kk]; exact hkc) (by rw [he]; rfl) ⟨_, KX _ _ lcc, rfl⟩ ?_
  obtain ⟨u, ru, lu⟩ := hl 0 ar.arg _ hN hs (.inl (by rw [he]; exact hka))
  obtain rfl : u = Value.ref a := ru
  rcases lu with ⟨l1, l2⟩ | ⟨l1, _⟩
  · refine wpAny_loadName_local ok.kind l1 hns l2 ?_
    obtain ⟨hh, g, d, t, os⟩ := s
    refine ks_wpAny_isType_cls hD1 hD2 ⟨rfl, ?_⟩
    obtain ⟨_, _, _, hx, _⟩ := I.hok a _ ha
    refine ks_wpAny_call_super hD1 hD2 hx rfl (fun c e => nomatch e) (PySem.W.looks_mroIn KX U.sub) (fun h' e k => ?_)
    exact h _ _ (ClX.pin_new (t' := t) I k (Nat.le_refl _) e (fun v z => nomatch z))
  · rw [kk, hka] at l1
    rcases l1 with l1 | l1 <;> cases l1
theorem clsK_ne {X : Cx} {pins : List (Addr × Obj)} {σ : L2.St} {H : Hp} {s : Shared} {C a dx : Addr} {fs : List (Str × V)} {cd : ClassData} (I : Inv X pins σ H s) (ha : H a = some (.ins C dx fs)) (hc : clsIn X.K C = some cd) : a ≠ C := by
  rintro rfl
  obtain ⟨_, _, _, hx, _⟩ := I.hok a _ ha
  unfold clsIn at hc
  split at hc
  · rename_i c d cd' sl ho
    have e := I.kIn _ _ ho
    rw [hx] at e
    cases e
  · cases hc
theorem sup_meth {X : Cx} {A : Around} {pins : List (Addr × Obj)} {σ : L2.St} {H : Hp} {s : Shared} {C D so f2 a dx : Addr} {fs : List (Str × V)} {m : Str} {pl : Sem Bool} {E : Value → Shared → Prop} {Q : Value × List Value → Shared → Prop}
    (I : Inv X ((so, PySem.W.ks_superObj D a C) :: pins) σ H s) (U : SupOf X.K C D m f2) (ha : H a = some (.ins C dx fs))
    (h : ∀ q s', s.heap.objs.size ≤ q → Inv X ((q, PySem.W.methodObj (.ref f2) (.ref a)) :: pins) σ H s' → Q (.ref q, []) s') : wpAny (model X.prog X.w) A (getMethod (.ref so) m pl) Q E s := by
  have KX := I.kIn
  have hso := ClX.pin_at I
  have hm := U.at_
  cases hc : clsIn X.K C with
  | none => unfold ks_superIn at hm; rw [hc] at hm; cases hm
  | some cd =>
    unfold ks_superIn at hm
    rw [hc] at hm
    obtain ⟨of, hof, hofc⟩ : ∃ of, s.heap.get? f2 = some of ∧ of.cls = .type "function" := by
      have ht' : (X.K.lookup f2).map (·.cls) = some (.type "function") := U.ty
      cases z : X.K.lookup f2 with
      | none => rw [z] at ht'; cases ht'
      | some of => rw [z] at ht'; exact ⟨of, KX _ _ z, Option.some.inj ht'⟩
    have ne := clsK_ne I ha hc
    have I2 := ClX.met_new (g := f2) (C := a) (ClX.unpin I)
    obtain ⟨hh, g, d, t, os⟩ := s
    refine ks_wpAny_getMethod_super hso (PySem.W.looks_opaque KX U.op) (l₀ := cd.mro) ?_ rfl KX hm hof hofc ne U.nm ?_
    · exact fun A Q E s k q => wpAny_bind ((PySem.W.looks_clsIn KX hc) A _ E s k (wpAny_pure q))
    · exact h _ _ (Nat.le_refl _) I2
abbrev plSup (o : Expr) : Env → Sem Bool := fun env => do return (← importBound o env).getD true
/-- THE RULE for a method whose body is super().m(e, ..), rest -/
theorem fn_ofS {CX : CXT} {x qual : Str} {st : Stmt} {C D cc f f2 : Addr} {fd : FuncData} {N ps : List Str} {k j : Nat} {sp sp2 : Sp} {p0 p1 apos pos spos : Pos} {m : Str} {e : Expr} {es : List Expr} {rest : List Stmt}
    (F : FunS P K x qual st D cc f fd) (S : NScope N (("self" : Str) :: ps) ["__class__"] (defScope st)) (hN : N[0]? = some ("self" : Str)) (hb : defBody st = .Expr (.Call (.Attribute (.Call (.Name "super" p0) [] [] p1) m apos) (e :: es) [] pos) spos :: rest)
    (hp : ((defArgs st).posonlyargs ++ (defArgs st).args).head?.map (·.arg) = some ("self" : Str)) (hks : (defScope st).names.lookup ("super" : Str) = some .globalImplicit) (hsup : mg "super" = none) (U : SupOf K C D m f2) (G : FnR P w K mg base CX0 j f2 sp2) (hj : j ≤ k)
    (len : ∀ vs H Q E, sp vs H Q E → vs.length = (("self" : Str) :: ps).length)
    (hbody : ∀ (cda : Addr) (A : Around) (outer : List Env) (s : Shared) (H : Hp) (vs : List V) (Q : VK) (E : XK), Room k (A.deeper (envF (nfOf x qual st cc cda) f s.heap.objs.size)) → sp vs H Q E →
      ∃ a dx fs vs' ta tr, vs = .ref a :: vs' ∧ H a = some (.ins C dx fs) ∧ PA (ncx CX P w K mg base N (nfOf x qual st cc cda) f A outer s H E) (e :: es) ta ∧ PSs (ncx CX P w K mg base N (nfOf x qual st cc cda) f A outer s H E) rest tr ∧
        ta (startF N vs [some (.ref D)]) H fun us H1 => sp2 (.ref a :: us) H1 (fun _ H2 => tr { nx := fun _ H' => Q .non H', rt := Q } (startF N vs [some (.ref D)]) H2) E0)
    (hst : ∀ env, starEach (e :: es) env = (false, eval e env) :: starEach es env := by intro _; rfl) (hpl : ∀ env, (backTo pos (starEach es env)).any (·.1) = false := by intro _; rfl)
    (hsw : ∀ env, swapsWith (.Call (.Attribute (.Call (.Name "super" p0) [] [] p1) m apos) (e :: es) [] pos) none spos.line env = pure false := by intro _; rfl) (hin : ∀ L cda, interactive (envF (nfOf x qual st cc cda) f L) = false := by intro _ _; rfl)
    (hev : ∀ env, eval (.Call (.Attribute (.Call (.Name "super" p0) [] [] p1) m apos) (e :: es) [] pos) env = (do
      let ov ← attributeBase (.Call (.Name "super" p0) [] [] p1) m env (eval (.Call (.Name "super" p0) [] [] p1) env)
      standAt apos.atName
      let (f, first) ← holding [ov] (getMethod ov m (plSup (.Call (.Name "super" p0) [] [] p1) env))
      callWith pos f first (backTo pos (starEach (e :: es) env)) []) := by intro _; rfl) :
    FnOk P w K mg base CX (k + 1) f fd (("self" : Str) :: ps) sp := by
  obtain ⟨oc, od, kV, doc, pm, an, cda, ct, osl, rfl, lk, hcd, ccl, cdd, vs0, ccs, file, tf, lc, hvs, hfile⟩ := F.ex
  obtain ⟨cl, cld, csl, lcc⟩ := F.cell
  refine ⟨len, fun A outer s H args us vs Q E hr e0 hbd r hsp => ?_⟩
  have hl := len _ _ _ _ hsp
  have KX : K.In s.heap := e0.mod.kin.keeps fun b o e => (e0.bs b o e).1
  have lim : s.heap.NoLimit := e0.mod.nolimit.keeps fun b o e => (e0.bs b o e).1
  refine codeAny_call_function hr.depth (KX _ _ lk) rfl S.co S.gen rfl (PySem.W.codeRec_of KX hcd) (hbd _ _ _ _ ?_)
  refine wpAny_newFunctionEnv S.nocell (fun ⟨n, _⟩ hy => S.par n (List.of_mem_zip hy).1) (fun h₁ hns hsb => ⟨lim.fresh _ hsb, ?_⟩) S.kind
  have kp : ∀ b o, s.heap.get? b = some o → h₁.get? b = some o := fun b o e => hsb.extBut b o (Nat.ne_of_lt (Heap.lt_size e)) (Heap.get?_push_of_some _ e)
  have Cs : CellsAt [("__class__", cc)] ["__class__"] [some (.ref D)] s.heap H := by
    have hc0 : ∀ y c, List.lookup y [(("__class__" : Str), cc)] = some c → y = "__class__" ∧ c = cc := fun y c e => by
      have q := PySem.mem_of_lookup e
      simp at q
      exact q
    have ic : s.heap.IsCell cc (some (.ref D)) := ⟨_, KX _ _ lcc, rfl⟩
    refine ⟨rfl, fun y c e => ?_, fun y z c e1 e2 => (hc0 y c e1).1.trans (hc0 z c e2).1.symm, fun i y e => ?_⟩
    · obtain ⟨_, rfl⟩ := hc0 y c e
      exact ⟨(e0.bs _ _ (e0.mod.kin _ _ lcc)).2, _, ic⟩
    · rcases i with _ | i
      · cases e
        exact ⟨cc, rfl, fun v ev => by cases ev; exact ⟨.ref D, rfl, ic⟩⟩
      · cases e
  obtain ⟨a, dx, fs, vs', ta, tr, rfl, ha, hA, hR, hq⟩ := hbody cda A outer s H vs Q E (hr.deeper _) hsp
  have I : Inv (ncx CX P w K mg base N (nfOf x qual st cc cda) f A outer s H E) [] (startF N (.ref a :: vs') [some (.ref D)]) H { s with heap := h₁, toks := s.toks + ((("self" : Str) :: ps).zip us).length } := inv_startN (F := nfOf x qual st cc cda) S hr.hd e0 hl r Cs hns kp
  show codeAny _ _ (.func (defBody st) (envF (nfOf x qual st cc cda) f s.heap.objs.size)) _ _
  refine ks_codeAny_funcAt ?_
  have fin : ∀ {σ' : L2.St} {H' : Hp} {v : V} {u : Value} {s' : Shared}, Inv (ncx CX P w K mg base N (nfOf x qual st cc cda) f A outer s H E) [] σ' H' s' → L2.RelV v u → Q v H' → CE outer P w H s Q u s' :=
    fun {σ' H' v u s'} J rv q => ⟨v, H', J.os, J.bare, J.base, J.hok, rv, q⟩
  rw [hb]
  refine ks_wpAt_execs_cons (ks_wpAt_Expr_any ?_ (hin _ _) (hsw _))
  refine ks_wpAt_MethodCall ?_ (hev _)
  obtain ⟨ar, har, harg⟩ := Option.map_eq_some_iff.mp hp
  refine sup_base (X := ncx CX P w K mg base N (nfOf x qual st cc cda) f A outer s H E) I rfl U lk har lc hvs hfile lcc F.top hsup hks (S.frk _ (by simp)) (by rw [harg]; exact S.par _ (by simp)) (by rw [harg]; exact hN) (by rfl) ha fun so s1 I1 => ?_
  refine sup_meth (X := ncx CX P w K mg base N (nfOf x qual st cc cda) f A outer s H E) I1 U ha fun q s2 hsz I2 => ?_
  refine ClX.callwith_cm I2 (ClX.base_none I1 hsz) U.fi (thn (hA.run pos _ s2 _ H _ I2 hq) fun us2 s3 ⟨vs3, H3, I3, rv, q3⟩ => ⟨⟨ClX.pin_at I3, I3.kIn⟩, ?_⟩) (hst _) (hpl _)
  refine thn (ClX.run_cm G ((hr.deeper _).mono hj) pass0 I3 rv q3) fun u s4 ⟨v, H4, I4, _, q4⟩ => ?_
  refine wpAt_of_wpAny (wpAny_mono (hR.run [] s4 _ H4 _ I4 q4) (fun fl s' hs => ?_) fun e s' hs => hs)
  cases fl with
  | ret u =>
    obtain ⟨v, σ', H', J, rv, q⟩ := hs
    exact fin J rv q
  | next =>
    obtain ⟨σ', H', J, q⟩ := hs
    exact fin (v := V.non) (u := Value.none) J rfl q
  | brk =>
    obtain ⟨_, _, _, q⟩ := hs
    exact False.elim q
  | cont =>
    obtain ⟨_, _, _, q⟩ := hs
    exact False.elim q
end
end K74
end
-- K74M
section
set_option maxRecDepth 100000
set_option maxHeartbeats 4000000
/-! Tables: plain mathematics of partial maps. -/
namespace K74
open PySem PySem.Spec PyProof.Rows L2
abbrev Tbl := List (Int × Int)
def lk (l : Tbl) (s : Int) : Option Int := (l.find? fun p => decide (p.1 = s)).map (·.2)
def kz (l : Tbl) : List (Key × V) := l.map fun p => (Sum.inl p.1, V.int p.2)
theorem lk_nil {s : Int} : lk [] s = none := rfl
theorem lk_cons (p : Int × Int) (r : Tbl) (s : Int) : lk (p :: r) s = if p.1 = s then some p.2 else lk r s := by
  unfold lk
  by_cases e : p.1 = s
  · rw [List.find?_cons_of_pos (by simpa using e), if_pos e]; rfl
  · rw [List.find?_cons_of_neg (by simpa using e), if_neg e]
theorem valV_kz (l : Tbl) (s : Int) : valV (kz l) (Sum.inl s) = (lk l s).map V.int := by
  induction l with
  | nil => rfl
  | cons p r ih =>
    show valV ((Sum.inl p.1, V.int p.2) :: kz r) (Sum.inl s) = _
    rw [lk_cons]
    by_cases e : p.1 = s
    · rw [valV_pos (by simp [e]), if_pos e]; rfl
    · rw [valV_neg (by simpa using e), if_neg e, ih]
theorem kz_len (l : Tbl) : (kz l).length = l.length := by simp [kz]
theorem kz_append (l m : Tbl) : kz (l ++ m) = kz l ++ kz m := by simp [kz]
theorem lk_mem {l : Tbl} {s t : Int} (h : lk l s = some t) : (s, t) ∈ l := by
  induction l with
  | nil => simp [lk] at h
  | cons p r ih =>
    rw [lk_cons] at h
    split at h
    · next e =>
      obtain ⟨a, b⟩ := p
      simp at h e
      subst e h
      exact List.mem_cons_self
    · exact List.mem_cons_of_mem _ (ih h)
theorem lk_of {l : Tbl} {s t : Int} (hn : (l.map (·.1)).Nodup) (h : (s, t) ∈ l) : lk l s = some t := by
  induction l with
  | nil => simp at h
  | cons p r ih =>
    rw [lk_cons]
    rw [List.map_cons, List.nodup_cons] at hn
    rcases List.mem_cons.mp h with e | e
    · subst e; simp
    · rw [if_neg, ih hn.2 e]
      intro z
      exact hn.1 (List.mem_map.mpr ⟨(s, t), e, z.symm⟩)
theorem lk_none {l : Tbl} {s : Int} : lk l s = none ↔ s ∉ l.map (·.1) := by
  induction l with
  | nil => simp [lk]
  | cons p r ih =>
    rw [lk_cons, List.map_cons, List.mem_cons]
    by_cases e : p.1 = s
    · simp [e]
    · rw [if_neg e, ih]
      constructor
      · rintro h (z | z)
        · exact e z.symm
        · exact h z
      · exact fun h z => h (.inr z)
theorem lk_append (l m : Tbl) (s : Int) : lk (l ++ m) s = (lk l s).or (lk m s) := by
  induction l with
  | nil => simp [lk_nil]
  | cons p r ih =>
    rw [List.cons_append, lk_cons, lk_cons]
    by_cases e : p.1 = s
    · simp [e]
    · simp [e, ih]

/-- all numbers below n, no number twice -/
structure Good (n : Nat) (l : Tbl) : Prop where
  rng : ∀ p ∈ l, (0 ≤ p.1 ∧ p.1 < n) ∧ 0 ≤ p.2 ∧ p.2 < n
  src : (l.map (·.1)).Nodup
  tgt : (l.map (·.2)).Nodup
abbrev Asc (l : Tbl) : Prop := l.Pairwise fun p q => p.1 < q.1
/-- a map's own table -/
structure GA (n : Nat) (l : Tbl) : Prop extends Good n l where
  asc : Asc l
theorem asc_src {l : Tbl} (h : Asc l) : (l.map (·.1)).Nodup := by
  unfold List.Nodup
  rw [List.pairwise_map]
  exact h.imp fun h => by omega
theorem asc_ext : ∀ {l m : Tbl}, Asc l → Asc m → (∀ p, p ∈ l ↔ p ∈ m) → l = m
  | [], [], _, _, _ => rfl
  | [], q :: m, _, _, h => absurd ((h q).mpr List.mem_cons_self) (by simp)
  | p :: l, [], _, _, h => absurd ((h p).mp List.mem_cons_self) (by simp)
  | p :: l, q :: m, hl, hm, h => by
    have hl' := List.pairwise_cons.mp hl
    have hm' := List.pairwise_cons.mp hm
    have e : p = q := by
      rcases List.mem_cons.mp ((h p).mp List.mem_cons_self) with e | e
      · exact e
      · rcases List.mem_cons.mp ((h q).mpr List.mem_cons_self) with e' | e'
        · exact e'.symm
        · have a1 := hl'.1 q e'
          have a2 := hm'.1 p e
          omega
    subst e
    refine congrArg (p :: ·) (asc_ext hl'.2 hm'.2 fun r => ?_)
    constructor
    · intro hr
      rcases List.mem_cons.mp ((h r).mp (List.mem_cons_of_mem _ hr)) with e | e
      · subst e
        have := hl'.1 r hr
        omega
      · exact e
    · intro hr
      rcases List.mem_cons.mp ((h r).mpr (List.mem_cons_of_mem _ hr)) with e | e
      · subst e
        have := hm'.1 r hr
        omega
      · exact e
theorem asc_lk {l m : Tbl} (hl : Asc l) (hm : Asc m) (h : ∀ s, lk l s = lk m s) : l = m := by
  refine asc_ext hl hm fun p => ⟨fun hp => ?_, fun hp => ?_⟩
  · have a := lk_of (s := p.1) (t := p.2) (asc_src hl) hp
    rw [h] at a
    exact lk_mem a
  · have a := lk_of (s := p.1) (t := p.2) (asc_src hm) hp
    rw [← h] at a
    exact lk_mem a
theorem Good.lk_rng {n : Nat} {l : Tbl} (g : Good n l) {s t : Int} (h : lk l s = some t) : (0 ≤ s ∧ s < n) ∧ 0 ≤ t ∧ t < n := g.rng _ (lk_mem h)
theorem Good.inj {n : Nat} {l : Tbl} (g : Good n l) {s s' t : Int} (h : lk l s = some t) (h' : lk l s' = some t) : s = s' := by
  have a := lk_mem h
  have b := lk_mem h'
  obtain ⟨i, hi, ei⟩ := List.mem_iff_getElem.mp a
  obtain ⟨j, hj, ej⟩ := List.mem_iff_getElem.mp b
  have e : i = j := by
    have h1 : (l.map (·.2))[i]'(by simpa using hi) = (l.map (·.2))[j]'(by simpa using hj) := by simp [ei, ej]
    exact (List.getElem_inj (List.nodup_iff_pairwise_ne.mp g.tgt |> fun _ => g.tgt)).mp h1
  subst e
  rw [ei] at ej
  exact (Prod.mk.inj ej).1
/-- a table is good by what it answers -/
theorem nodup_tgt : ∀ {l : Tbl}, (l.map (·.1)).Nodup → (∀ s s' t, lk l s = some t → lk l s' = some t → s = s') → (l.map (·.2)).Nodup
  | [], _, _ => by simp
  | p :: r, hs, h => by
    have hs' := hs
    rw [List.map_cons, List.nodup_cons] at hs'
    rw [List.map_cons, List.nodup_cons]
    refine ⟨fun hm => ?_, nodup_tgt hs'.2 fun s s' t a b => ?_⟩
    · obtain ⟨q, hq, e⟩ := List.mem_map.mp hm
      have a1 : lk (p :: r) q.1 = some p.2 := by rw [← e]; exact lk_of hs (List.mem_cons_of_mem _ hq)
      have a2 : lk (p :: r) p.1 = some p.2 := lk_of hs List.mem_cons_self
      have := h _ _ _ a1 a2
      exact hs'.1 (List.mem_map.mpr ⟨q, hq, this⟩)
    · refine h s s' t ?_ ?_
      · exact lk_of hs (List.mem_cons_of_mem _ (lk_mem a))
      · exact lk_of hs (List.mem_cons_of_mem _ (lk_mem b))
theorem good_lk {n : Nat} {l : Tbl} (hs : (l.map (·.1)).Nodup) (hr : ∀ s t, lk l s = some t → (0 ≤ s ∧ s < n) ∧ 0 ≤ t ∧ t < n) (hi : ∀ s s' t, lk l s = some t → lk l s' = some t → s = s') : Good n l :=
  ⟨fun p hp => hr p.1 p.2 (lk_of hs hp), hs, nodup_tgt hs hi⟩

theorem nodup_len : ∀ (n : Nat) (m : List Int), m.Nodup → (∀ x ∈ m, 0 ≤ x ∧ x < n) → m.length ≤ n
  | 0, m, _, h => by
    cases m with
    | nil => exact Nat.le_refl _
    | cons x r =>
      have := h x List.mem_cons_self
      omega
  | n + 1, m, hn, h => by
    have a := nodup_len n (m.erase (n : Int)) (hn.erase _) fun x hx => by
      obtain ⟨h1, h2⟩ := (List.Nodup.mem_erase_iff hn).mp hx
      have := h x h2
      omega
    by_cases e : (n : Int) ∈ m
    · rw [List.length_erase_of_mem e] at a
      omega
    · rw [List.erase_of_not_mem e] at a
      omega
theorem Good.len {n : Nat} {l : Tbl} (g : Good n l) : l.length ≤ n := by
  have := nodup_len n (l.map (·.1)) g.src fun x hx => by
    obtain ⟨p, hp, rfl⟩ := List.mem_map.mp hx
    exact (g.rng p hp).1
  simpa using this
/-- what Map(n, l) keeps -/
def canon (n : Nat) (l : Tbl) : Tbl := (List.range n).filterMap fun (s : Nat) => (lk l (s : Int)).map fun t => ((s : Int), t)
theorem canon_succ (n : Nat) (l : Tbl) : canon (n + 1) l = canon n l ++ ((lk l (n : Int)).map fun t => ((n : Int), t)).toList := by
  unfold canon
  rw [List.range_succ, List.filterMap_append]
  congr 1
theorem canon_asc (n : Nat) (l : Tbl) : Asc (canon n l) := by
  unfold canon Asc
  rw [List.pairwise_filterMap]
  refine (List.pairwise_lt_range (n := n)).imp fun {a b} hab p hp q hq => ?_
  obtain ⟨t, ht, rfl⟩ := Option.map_eq_some_iff.mp hp
  obtain ⟨u, hu, rfl⟩ := Option.map_eq_some_iff.mp hq
  simpa using hab
theorem mem_canon {n : Nat} {l : Tbl} {p : Int × Int} : p ∈ canon n l ↔ (0 ≤ p.1 ∧ p.1 < n) ∧ lk l p.1 = some p.2 := by
  unfold canon
  rw [List.mem_filterMap]
  constructor
  · rintro ⟨s, hs, h⟩
    obtain ⟨t, ht, rfl⟩ := Option.map_eq_some_iff.mp h
    have := List.mem_range.mp hs
    exact ⟨⟨by simp, by simpa using this⟩, ht⟩
  · rintro ⟨⟨h0, h1⟩, h⟩
    refine ⟨p.1.toNat, List.mem_range.mpr (by omega), ?_⟩
    have e : ((p.1.toNat : Nat) : Int) = p.1 := by omega
    rw [e, h]
    rfl
theorem canon_no (n : Nat) (l : Tbl) : lk (canon n l) (n : Int) = none := by
  rw [lk_none]
  intro h
  obtain ⟨p, hp, e⟩ := List.mem_map.mp h
  have := (mem_canon.mp hp).1.2
  omega
theorem canon_len (n : Nat) (l : Tbl) : (canon n l).length ≤ n := by
  unfold canon
  have := List.length_filterMap_le (fun (s : Nat) => (lk l (s : Int)).map fun t => ((s : Int), t)) (List.range n)
  simpa using this
theorem lk_canon {n : Nat} {l : Tbl} (hr : ∀ s t, lk l s = some t → 0 ≤ s ∧ s < n) (s : Int) : lk (canon n l) s = lk l s := by
  cases e : lk l s with
  | none =>
    rw [lk_none]
    intro h
    obtain ⟨p, hp, rfl⟩ := List.mem_map.mp h
    have := (mem_canon.mp hp).2
    rw [e] at this
    cases this
  | some t => exact lk_of (asc_src (canon_asc n l)) (mem_canon.mpr ⟨hr _ _ e, e⟩)
theorem canon_ga {n : Nat} {l : Tbl} (g : Good n l) : GA n (canon n l) := by
  have e := lk_canon (n := n) (l := l) fun s t h => (g.lk_rng h).1
  refine ⟨good_lk (asc_src (canon_asc n l)) (fun s t h => ?_) (fun s s' t a b => ?_), canon_asc n l⟩
  · rw [e] at h
    exact g.lk_rng h
  · rw [e] at a b
    exact g.inj a b
theorem canon_self {n : Nat} {l : Tbl} (g : GA n l) : canon n l = l :=
  asc_lk (canon_asc n l) g.asc fun s => lk_canon (fun s t h => (g.lk_rng h).1) s
theorem canon_eq {n : Nat} {l m : Tbl} (h : ∀ s, lk l s = lk m s) : canon n l = canon n m := by
  unfold canon
  congr 1
  funext s
  rw [h]
theorem canon_of {n : Nat} {l m : Tbl} (g : GA n m) (h : ∀ s, lk l s = lk m s) : canon n l = m := (canon_eq h).trans (canon_self g)

/-- one * other -/
def prodT (a b : Tbl) : Tbl := a.filterMap fun p => (lk b p.2).map fun t => (p.1, t)
theorem prod_asc {a b : Tbl} (h : Asc a) : Asc (prodT a b) := by
  unfold prodT Asc
  rw [List.pairwise_filterMap]
  refine h.imp fun {p q} hab x hx y hy => ?_
  obtain ⟨t, ht, rfl⟩ := Option.map_eq_some_iff.mp hx
  obtain ⟨u, hu, rfl⟩ := Option.map_eq_some_iff.mp hy
  exact hab
theorem prod_src {a b : Tbl} (h : (a.map (·.1)).Nodup) : ((prodT a b).map (·.1)).Nodup := by
  unfold prodT
  unfold List.Nodup at *
  rw [List.pairwise_map] at *
  rw [List.pairwise_filterMap]
  refine h.imp fun {p q} hab x hx y hy => ?_
  obtain ⟨t, ht, rfl⟩ := Option.map_eq_some_iff.mp hx
  obtain ⟨u, hu, rfl⟩ := Option.map_eq_some_iff.mp hy
  exact hab
theorem lk_prod {a b : Tbl} (h : (a.map (·.1)).Nodup) (s : Int) : lk (prodT a b) s = (lk a s).bind (lk b) := by
  cases e : (lk a s).bind (lk b) with
  | none =>
    rw [lk_none]
    intro hm
    obtain ⟨p, hp, rfl⟩ := List.mem_map.mp hm
    obtain ⟨q, hq, h2⟩ := List.mem_filterMap.mp hp
    obtain ⟨t, ht, rfl⟩ := Option.map_eq_some_iff.mp h2
    rw [lk_of h hq] at e
    rw [Option.bind_some, ht] at e
    cases e
  | some t =>
    obtain ⟨u, hu, ht⟩ := Option.bind_eq_some_iff.mp e
    exact lk_of (prod_src h) (List.mem_filterMap.mpr ⟨(s, u), lk_mem hu, by rw [ht]; rfl⟩)
theorem prod_good {n : Nat} {a b : Tbl} (ga : Good n a) (gb : Good n b) : Good n (prodT a b) := by
  refine good_lk (prod_src ga.src) (fun s t h => ?_) (fun s s' t h h' => ?_)
  · rw [lk_prod ga.src] at h
    obtain ⟨u, hu, ht⟩ := Option.bind_eq_some_iff.mp h
    exact ⟨(ga.lk_rng hu).1, (gb.lk_rng ht).2⟩
  · rw [lk_prod ga.src] at h h'
    obtain ⟨u, hu, ht⟩ := Option.bind_eq_some_iff.mp h
    obtain ⟨u', hu', ht'⟩ := Option.bind_eq_some_iff.mp h'
    obtain rfl := gb.inj ht ht'
    exact ga.inj hu hu'
theorem prod_ga {n : Nat} {a b : Tbl} (ga : GA n a) (gb : Good n b) : GA n (prodT a b) := ⟨prod_good ga.toGood gb, prod_asc ga.asc⟩
def fullT (n : Nat) : Tbl := (List.range n).map fun (s : Nat) => ((s : Int), (s : Int))
theorem full_asc (n : Nat) : Asc (fullT n) := by
  unfold fullT Asc
  rw [List.pairwise_map]
  exact (List.pairwise_lt_range (n := n)).imp fun {a b} h => by simpa using h
theorem lk_full (n : Nat) (s : Int) : lk (fullT n) s = if 0 ≤ s ∧ s < n then some s else none := by
  by_cases h : 0 ≤ s ∧ s < n
  · rw [if_pos h]
    refine lk_of (asc_src (full_asc n)) (List.mem_map.mpr ⟨s.toNat, List.mem_range.mpr (by omega), ?_⟩)
    have e : ((s.toNat : Nat) : Int) = s := by omega
    rw [e]
  · rw [if_neg h, lk_none]
    intro hm
    obtain ⟨p, hp, rfl⟩ := List.mem_map.mp hm
    obtain ⟨i, hi, rfl⟩ := List.mem_map.mp hp
    have := List.mem_range.mp hi
    exact h ⟨by simp, by simpa using this⟩
theorem full_ga (n : Nat) : GA n (fullT n) := by
  refine ⟨good_lk (asc_src (full_asc n)) (fun s t h => ?_) (fun s s' t a b => ?_), full_asc n⟩
  · rw [lk_full] at h
    split at h
    · next e => cases h; exact ⟨e, e⟩
    · cases h
  · rw [lk_full] at a b
    split at a <;> split at b <;> simp_all
def invT (l : Tbl) : Tbl := l.map fun p => (p.2, p.1)
theorem inv_good {n : Nat} {l : Tbl} (g : Good n l) : Good n (invT l) := by
  refine ⟨fun p hp => ?_, ?_, ?_⟩
  · obtain ⟨q, hq, rfl⟩ := List.mem_map.mp hp
    have := g.rng q hq
    exact ⟨this.2, this.1⟩
  · have := g.tgt
    simpa [invT, List.map_map, Function.comp_def] using this
  · have := g.src
    simpa [invT, List.map_map, Function.comp_def] using this
theorem lk_inv {n : Nat} {l : Tbl} (g : Good n l) {s t : Int} : lk (invT l) t = some s ↔ lk l s = some t := by
  constructor
  · intro h
    obtain ⟨q, hq, e⟩ := List.mem_map.mp (lk_mem h)
    obtain ⟨a, b⟩ := q
    obtain ⟨rfl, rfl⟩ := Prod.mk.inj e
    exact lk_of g.src hq
  · intro h
    exact lk_of (inv_good g).src (List.mem_map.mpr ⟨(s, t), lk_mem h, rfl⟩)
end K74
end
-- K74T
section
set_option maxRecDepth 100000
set_option maxHeartbeats 4000000
/-! The text by places; what the walk asks of it. -/
namespace K74
open PySem PySem.Spec PyProof.Rows L2
def top (i : Nat) : Stmt := PySem.Challenge.pw_chainmaps_k74_whole_attempts_restore.main.body.getD i (.Pass ⟨0, 0, 0, 0⟩)
def sub (i j : Nat) : Stmt := inClass (top i) j
def nameOf : Stmt → Str
  | .FunctionDef n _ _ _ _ _ _ _ _ _ => n
  | .ClassDef n _ _ _ _ _ _ _ _ _ _ => n
  | _ => ""
abbrev sIsInteger : Stmt := top 16
abbrev sInRange : Stmt := top 17
abbrev sCheckSize : Stmt := top 18
abbrev sCommonSize : Stmt := top 21

/-- the classes' addresses -/
def cM (K : PySem.W.Frag) : Addr := He.ga K "Map"
def cT (K : PySem.W.Frag) : Addr := He.ga K "Trial"
def cS (K : PySem.W.Frag) : Addr := He.ga K "Session"
def cK (K : PySem.W.Frag) : Addr := He.ga K "KeepingSession"
/-- what a class of the text must be -/
structure CF (K : PySem.W.Frag) (C : Addr) : Prop where
  cl : Cls K C
  kc : PySem.W.findIn K (.ref C) "__class__" = some (some (.builtin "object.__class__"))
  mo : PySem.W.mroIn K C (.type "object") = some true
/-- made by an __init__ -/
def MkF (K : PySem.W.Frag) (C : Addr) (qual : Str) (st : Stmt) : Prop := ∃ f fd, Fun K "__init__" qual st f fd ∧ Mk K C f
def PrF (K : PySem.W.Frag) (C : Addr) (x qual : Str) (st : Stmt) : Prop := ∃ f p fd, Fun K x qual st f fd ∧ PropOf K C x p f
def CmF (K : PySem.W.Frag) (C : Addr) (x qual : Str) (st : Stmt) : Prop := ∃ (mc : Value) (p g : Addr) (fd : FuncData), Fun K x qual st g fd ∧ ClX.CRead K C mc ∧ ClX.CMet K C mc x p g
/-- built-in names that the text leaves alone -/
def freeNames : List Str := ["isinstance", "int", "bool", "dict", "str", "list", "tuple", "range", "len", "all", "abs", "enumerate", "min", "max", "super"]
def defPlaces : List Nat := [16, 17, 18, 20, 21, 22, 23, 27, 28, 30, 31, 32, 35, 36, 41, 42, 43, 44, 45, 46, 47, 48, 49, 50, 51, 52, 53, 54, 55, 56, 57, 58, 59, 60, 61, 62]
def mapMeths : List (Nat × Str) := [(8, "Map.__mul__"), (10, "Map.power"), (24, "Map.__len__"), (25, "Map.__eq__")]
def mapProps : List (Nat × Str) := [(6, "Map.size"), (7, "Map.arrows")]
def trialMeths : List (Nat × Str) := [(1, "Trial.__enter__"), (2, "Trial.__exit__")]
def sesMeths : List (Nat × Str) := [(2, "Session.log"), (3, "Session.check_next"), (4, "Session.change_to"), (5, "Session.apply"), (6, "Session.raise_to"), (7, "Session.do_steps"), (8, "Session.undo"), (9, "Session.at"), (10, "Session.attempt"), (11, "Session.fresh"), (12, "Session.clone"), (13, "Session.__eq__"), (14, "Session.__len__")]
/-- those that KeepingSession has from Session -/
def keepMeths : List (Nat × Str) := [(2, "Session.log"), (4, "Session.change_to"), (5, "Session.apply"), (6, "Session.raise_to"), (7, "Session.do_steps"), (8, "Session.undo"), (9, "Session.at"), (10, "Session.attempt"), (12, "Session.clone"), (13, "Session.__eq__"), (14, "Session.__len__")]
def sesFields : List Str := ["own_present", "own_log", "own_earlier", "own_least"]

structure Txt (K : PySem.W.Frag) (mg : Str → Option Value) : Prop where
  zn : ∀ x ∈ freeNames, mg x = none
  maxSize : ∃ t, mg "MAX_SIZE" = some (.int 300 t)
  maxName : ∃ t, mg "MAX_NAME" = some (.int 8 t)
  gM : mg "Map" = some (.ref (cM K))
  gT : mg "Trial" = some (.ref (cT K))
  gS : mg "Session" = some (.ref (cS K))
  gK : mg "KeepingSession" = some (.ref (cK K))
  fM : CF K (cM K)
  fT : CF K (cT K)
  fS : CF K (cS K)
  fK : CF K (cK K)
  od : PySem.W.specialIn K (.builtin "object.__class__") "__get__" = some (some (.builtin "getset_descriptor.__get__"))
  ot : PySem.W.takesIn K (.builtin "object.__class__") = some true
  nM : ∀ x ∈ (["own_size", "own_arrows"] : List Str), NoAttr K (cM K) x
  nT : ∀ x ∈ (["session", "kept_map", "kept_log", "kept_maps"] : List Str), NoAttr K (cT K) x
  nS : ∀ x ∈ sesFields, NoAttr K (cS K) x
  nK : ∀ x ∈ sesFields, NoAttr K (cK K) x
  fn : ∀ i ∈ defPlaces, GF K mg (nameOf (top i)) (top i)
  iM : MkF K (cM K) "Map.__init__" (sub 24 0)
  iT : MkF K (cT K) "Trial.__init__" (sub 37 0)
  iS : MkF K (cS K) "Session.__init__" (sub 38 0)
  mM : ∀ p ∈ mapMeths, MF K (cM K) (nameOf (sub 24 p.1)) p.2 (sub 24 p.1)
  pM : ∀ p ∈ mapProps, PrF K (cM K) (nameOf (sub 24 p.1)) p.2 (sub 24 p.1)
  idM : CmF K (cM K) "identity" "Map.identity" (sub 24 1)
  mT : ∀ p ∈ trialMeths, MF K (cT K) (nameOf (sub 37 p.1)) p.2 (sub 37 p.1)
  mS : ∀ p ∈ sesMeths, MF K (cS K) (nameOf (sub 38 p.1)) p.2 (sub 38 p.1)
  mSK : ∀ p ∈ keepMeths, MF K (cK K) (nameOf (sub 38 p.1)) p.2 (sub 38 p.1)
  pS : PrF K (cS K) "present" "Session.present" (sub 38 1)
  pSK : PrF K (cK K) "present" "Session.present" (sub 38 1)
  freshK : MF K (cK K) "fresh" "KeepingSession.fresh" (sub 39 3)
  firstM : PySem.W.selfFirst K (cM K) = true
  eqM : PySem.W.notFirst K (cM K) (.ref (cM K)) = true
  neM : PySem.W.findIn K (.ref (cM K)) "__ne__" = some (some (.builtin "object.__ne__"))
  kindK : PySem.W.kitOne K (.ref (cK K)) (.ref (cS K)) = some true
theorem Txt.z {K : PySem.W.Frag} {mg : Str → Option Value} (T : Txt K mg) (x : Str) (h : x ∈ freeNames := by decide +kernel) : mg x = none := T.zn x h

section
variable {P : Program} {w : World} {K : PySem.W.Frag} {mg : Str → Option Value} {base : Heap}

def spIsInteger : Sp := fun vs H Q _ => ∃ i : Int, vs = [.int i] ∧ Q (.bl true) H
def spInRange : Sp := fun vs H Q _ => ∃ i lo hi : Int, vs = [.int i, .int lo, .int hi] ∧ Q (.bl (decide (lo ≤ i) && decide (i ≤ hi))) H
def spCheckSize : Sp := fun vs H Q _ => ∃ n : Int, vs = [.int n] ∧ 1 ≤ n ∧ n ≤ 300 ∧ Q .non H

theorem sc_is_integer : FnScope ["value"] ["value"] (defScope sIsInteger) := ⟨rfl, rfl, rfl, by decide +kernel, rfl, by decide +kernel, by decide +kernel⟩
theorem g_is_integer (T : Txt K mg) : GG P w K mg base 1 "is_integer" ["value"] spIsInteger := by
  refine gg_of (T.fn 16 (by decide)) sc_is_integer (fun vs H Q E h => ?_) (fun f cdv A outer s H vs Q E c pn cool hr h => ?_) fun _ _ _ _ _ _ us hl => match us, hl with | [_], _ => rfl
  · obtain ⟨i, rfl, _⟩ := h
    rfl
  · obtain ⟨i, rfl, k⟩ := h
    refine ⟨_, pss_one (ps_ret (pe_and (pe_callB call_isi (by rfl) (T.z "isinstance") (by decide +kernel) (pa_cons (pv 0) (pa_cons (pe_bltn (v := .ty "int") (by rfl) (T.z "int") (by decide +kernel) rfl) pa_nil)))
      (pe_one (pe_not (pe_callB call_isi (by rfl) (T.z "isinstance") (by decide +kernel) (pa_cons (pv 0) (pa_cons (pe_bltn (v := .ty "bool") (by rfl) (T.z "bool") (by decide +kernel) rfl) pa_nil))))))), ?_⟩
    refine ⟨_, rfl, _, _, _, _, true, rfl, .ty "int", .base (.int i), kit_ty (by decide +kernel), true, rfl, ?_⟩
    refine iteT ?_
    refine ⟨_, rfl, _, _, _, _, false, rfl, .ty "bool", .base (.int i), kit_ty (by decide +kernel), false, rfl, ?_⟩
    exact k
theorem sc_in_range : FnScope ["value", "least", "most"] ["value", "least", "most"] (defScope sInRange) := ⟨rfl, rfl, rfl, by decide +kernel, rfl, by decide +kernel, by decide +kernel⟩
theorem g_in_range (T : Txt K mg) : GG P w K mg base 2 "in_range" ["value", "least", "most"] spInRange := by
  have G := g_is_integer (P := P) (w := w) (base := base) T
  refine gg_of (T.fn 17 (by decide)) sc_in_range (fun vs H Q E h => ?_) (fun f cdv A outer s H vs Q E c pn cool hr h => ?_) fun _ _ _ _ _ _ us hl => match us, hl with | [_, _, _], _ => rfl
  · obtain ⟨_, _, _, rfl, _⟩ := h
    rfl
  · obtain ⟨i, lo, hi, rfl, k⟩ := h
    refine ⟨_, pss_one (ps_ret (pe_and (pe_gg G cool hr (pa_cons (pv 0) pa_nil)) (pe_one (pe_chain op_le op_le (pv 1) (pv 0) (pv 2))))), ?_⟩
    refine ⟨_, rfl, i, rfl, true, rfl, iteT ?_⟩
    refine ⟨_, rfl, _, rfl, _, _, rfl, rfl, _, rfl, ?_⟩
    refine ite2 (fun h1 => ?_) (fun h1 => ?_)
    · refine ⟨_, rfl, _, _, rfl, rfl, ?_⟩
      have e : (decide (lo ≤ i) && decide (i ≤ hi)) = decide (i ≤ hi) := by rw [h1, Bool.true_and]
      rw [e] at k
      exact k
    · have e : (decide (lo ≤ i) && decide (i ≤ hi)) = false := by rw [eq_false_of_ne_true h1, Bool.false_and]
      rw [e] at k
      exact k
theorem sc_check_size : FnScope ["size"] ["size"] (defScope sCheckSize) := ⟨rfl, rfl, rfl, by decide +kernel, rfl, by decide +kernel, by decide +kernel⟩
theorem g_check_size (T : Txt K mg) : GG P w K mg base 3 "check_size" ["size"] spCheckSize := by
  have G := g_in_range (P := P) (w := w) (base := base) T
  obtain ⟨tk, hms⟩ := T.maxSize
  refine gg_of (T.fn 18 (by decide)) sc_check_size (fun vs H Q E h => ?_) (fun f cdv A outer s H vs Q E c pn cool hr h => ?_) fun _ _ _ _ _ _ us hl => match us, hl with | [_], _ => rfl
  · obtain ⟨_, rfl, _⟩ := h
    rfl
  · obtain ⟨n, rfl, h1, h2, k⟩ := h
    refine ⟨_, pss_one (ps_if (pt_not (pt_val (pe_gg G cool hr (pa_cons (pv 0) (pa_cons pe_int (pa_cons (pe_glob (v := .int 300) rfl hms ⟨_, rfl⟩) pa_nil)))))) (pss_one ps_never) pss_nil), ?_⟩
    refine ⟨_, rfl, n, 1, 300, rfl, _, rfl, ?_⟩
    rw [decide_eq_true h1, decide_eq_true h2]
    exact iteF k
end
end K74
end
-- K74H
section
set_option maxRecDepth 100000
set_option maxHeartbeats 4000000
/-! What stands in the heap; what a def leaves as it was. -/
namespace K74
open PySem PySem.Spec PyProof.Rows L2
/-- the kinds of objects that the law's defs change -/
def mutO : HO → Bool
  | .lst (.int _ :: _) => true
  | .lst (.str _ :: _) => true
  | .ins _ _ (_ :: _ :: _ :: _) => true
  | .dK ((.inr _, _) :: _) => true
  | .tbl _ => true
  | _ => false
/-- what stands, S apart, and what never changes -/
def Fr (S : List Addr) (H H' : Hp) : Prop := ∀ a o, H a = some o → (mutO o = true → a ∉ S) → H' a = some o
theorem Fr.refl {S : List Addr} {H : Hp} : Fr S H H := fun _ _ h _ => h
theorem Fr.trans {S : List Addr} {H H' H'' : Hp} (f : Fr S H H') (g : Fr S H' H'') : Fr S H H'' := fun a o h k => g a o (f a o h k) k
theorem Fr.mono {S S' : List Addr} {H H' : Hp} (f : Fr S H H') (h : ∀ a ∈ S, a ∈ S') : Fr S' H H' := fun a o e k => f a o e fun m z => k m (h a z)
theorem Fr.new {S : List Addr} {H H' : Hp} {p : Addr} {o : HO} (f : Fr S H H') (h : H p = none) : Fr S H (upd H' p o) := fun a u e k => by
  rw [upd_ne (ne_of_none e h)]
  exact f a u e k
theorem Fr.newer {S : List Addr} {H H' : Hp} {p : Addr} {o : HO} (f : Fr S H H') (h : H' p = none) : Fr S H (upd H' p o) := fun a u e k => by
  have := f a u e k
  rw [upd_ne (ne_of_none this h)]
  exact this
theorem Fr.set {S : List Addr} {H H' : Hp} {p : Addr} {o u : HO} (f : Fr S H H') (hp : p ∈ S) (h : H p = some u) (m : mutO u = true) : Fr S H (upd H' p o) := fun a v e k => by
  by_cases z : a = p
  · subst z
    rw [h] at e
    cases e
    exact absurd hp (k m)
  · rw [upd_ne z]
    exact f a v e k
/-- a thing that never changes -/
theorem Fr.imm {S : List Addr} {H H' : Hp} {a : Addr} {o : HO} (f : Fr S H H') (h : H a = some o) (m : mutO o = false) : H' a = some o := f a o h fun z => by rw [m] at z; cases z
/-- one more kept back: it was none of what stood -/
theorem Fr.less {S : List Addr} {H0 H H' : Hp} {p : Addr} (f : Fr (p :: S) H H') (g : Fr S H0 H) (hp : H0 p = none) : Fr S H0 H' := fun a o e k => f a o (g a o e k) fun m z => by
  rcases List.mem_cons.mp z with q | q
  · exact ne_of_none e hp q
  · exact k m q
/-- p was put back -/
theorem Fr.back {S : List Addr} {H H' : Hp} {p : Addr} {o : HO} (f : Fr (p :: S) H H') (h : H p = some o) : Fr S H (upd H' p o) := fun a u e k => by
  by_cases z : a = p
  · subst z
    rw [upd_same, ← e, h]
  · rw [upd_ne z]
    refine f a u e fun m q => ?_
    rcases List.mem_cons.mp q with q | q
    · exact z q
    · exact k m q

section
variable {α β : Type} {F : α → β → Prop}
theorem pr_append : ∀ {l : List α} {m : List β} {l' : List α} {m' : List β}, Paired F l m → Paired F l' m' → Paired F (l ++ l') (m ++ m')
  | _, _, _, _, .nil, h => h
  | _, _, _, _, .cons a t, h => .cons a (pr_append t h)
theorem pr_dropLast : ∀ {l : List α} {m : List β}, Paired F l m → Paired F l.dropLast m.dropLast
  | _, _, .nil => .nil
  | _, _, .cons a .nil => .nil
  | _, _, .cons a (.cons b t) => .cons a (pr_dropLast (.cons b t))
theorem pr_get : ∀ {l : List α} {m : List β} {i : Nat} {x : β}, Paired F l m → m[i]? = some x → ∃ y, l[i]? = some y ∧ F y x
  | _, _, 0, _, .cons a t, h => ⟨_, rfl, by cases h; exact a⟩
  | _, _, i + 1, _, .cons a t, h => pr_get (i := i) t h
theorem pr_get' : ∀ {l : List α} {m : List β} {i : Nat} {y : α}, Paired F l m → l[i]? = some y → ∃ x, m[i]? = some x ∧ F y x
  | _, _, 0, _, .cons a t, h => ⟨_, rfl, by cases h; exact a⟩
  | _, _, i + 1, _, .cons a t, h => pr_get' (i := i) t h
theorem pr_snoc {l : List α} {m : List β} {a : α} (h : Paired F (l ++ [a]) m) : ∃ m' c, m = m' ++ [c] ∧ Paired F l m' ∧ F a c := by
  induction l generalizing m with
  | nil =>
    cases h with
    | cons q t => cases t; exact ⟨[], _, rfl, .nil, q⟩
  | cons x r ih =>
    cases h with
    | cons q t =>
      obtain ⟨m', c, rfl, h1, h2⟩ := ih t
      exact ⟨_ :: m', c, rfl, .cons q h1, h2⟩
end

/-- the instance of Map at a -/
def MapAt (K : PySem.W.Frag) (H : Hp) (a : Addr) (n : Nat) (l : Tbl) : Prop := ∃ dx ad, H a = some (.ins (cM K) dx [("own_size", .int n), ("own_arrows", .ref ad)]) ∧ H ad = some (.dK (kz l))
theorem mut_kz (l : Tbl) : mutO (.dK (kz l)) = false := by cases l <;> rfl
theorem MapAt.fr {K : PySem.W.Frag} {S : List Addr} {H H' : Hp} {a : Addr} {n : Nat} {l : Tbl} (m : MapAt K H a n l) (f : Fr S H H') : MapAt K H' a n l :=
  let ⟨dx, ad, h1, h2⟩ := m; ⟨dx, ad, f.imm h1 rfl, f.imm h2 (mut_kz l)⟩
/-- the log's entries -/
def EntAt (H : Hp) (x : V) (e : Str × Str) : Prop := ∃ t, x = .ref t ∧ H t = some (.tup [.str e.1, .str e.2])
theorem EntAt.fr {S : List Addr} {H H' : Hp} {x : V} {e : Str × Str} (m : EntAt H x e) (f : Fr S H H') : EntAt H' x e := let ⟨t, h1, h2⟩ := m; ⟨t, h1, f.imm h2 rfl⟩
def TabAt (H : Hp) (x : V) (l : Tbl) : Prop := ∃ t, x = .ref t ∧ H t = some (.dK (kz l))
theorem TabAt.fr {S : List Addr} {H H' : Hp} {x : V} {l : Tbl} (m : TabAt H x l) (f : Fr S H H') : TabAt H' x l := let ⟨t, h1, h2⟩ := m; ⟨t, h1, f.imm h2 (mut_kz l)⟩
def MapV (K : PySem.W.Frag) (H : Hp) (n : Nat) (x : V) (l : Tbl) : Prop := ∃ t, x = .ref t ∧ MapAt K H t n l
theorem MapV.fr {K : PySem.W.Frag} {S : List Addr} {H H' : Hp} {n : Nat} {x : V} {l : Tbl} (m : MapV K H n x l) (f : Fr S H H') : MapV K H' n x l := let ⟨t, h1, h2⟩ := m; ⟨t, h1, h2.fr f⟩

def RefsO (xs : List V) : Prop := ∀ x ∈ xs, ∃ a, x = .ref a
theorem mut_refs {xs : List V} (h : RefsO xs) : mutO (.lst xs) = false := by
  cases xs with
  | nil => rfl
  | cons x r =>
    obtain ⟨a, rfl⟩ := h x List.mem_cons_self
    rfl
theorem refs_ent {H : Hp} {xs : List V} {log : List (Str × Str)} (p : Paired (EntAt H) xs log) : RefsO xs := by
  induction p with
  | nil => exact fun x h => by cases h
  | cons a t ih =>
    intro x h
    rcases List.mem_cons.mp h with e | e
    · obtain ⟨t, rfl, _⟩ := a
      exact ⟨t, e⟩
    · exact ih x e
theorem refs_tab {H : Hp} {xs : List V} {tabs : List Tbl} (p : Paired (TabAt H) xs tabs) : RefsO xs := by
  induction p with
  | nil => exact fun x h => by cases h
  | cons a t ih =>
    intro x h
    rcases List.mem_cons.mp h with e | e
    · obtain ⟨t, rfl, _⟩ := a
      exact ⟨t, e⟩
    · exact ih x e
theorem pr_fr {β : Type} {F G : V → β → Prop} (h : ∀ x y, F x y → G x y) {l : List V} {m : List β} (p : Paired F l m) : Paired G l m := Paired.mapP p h

/-- a pool of draws -/
def PoolAt (H : Hp) (p : Addr) : Prop := ∃ a b : Int, H p = some (.lst [.int a, .int b]) ∧ 0 ≤ a ∧ 0 ≤ b ∧ b < 2147483648
theorem PoolAt.fr {S : List Addr} {H H' : Hp} {p : Addr} (m : PoolAt H p) (f : Fr S H H') (h : p ∉ S) : PoolAt H' p := let ⟨a, b, h1, h2⟩ := m; ⟨a, b, f _ _ h1 fun _ => h, h2⟩

/-- what of a session's object never changes: its class, its dict, what it keeps at least -/
structure SI where
  C : Addr
  dx : Addr
  least : Option Nat
def SI.ex (I : SI) : List (Str × V) := match I.least with | none => [] | some m => [("own_least", .int m)]
def SI.Ok (K : PySem.W.Frag) (I : SI) : Prop := match I.least with | none => I.C = cS K | some _ => I.C = cK K
def SI.fs (I : SI) (pr lg ea : Addr) : List (Str × V) := ("own_present", .ref pr) :: ("own_log", .ref lg) :: ("own_earlier", .ref ea) :: I.ex
/-- a session: the maps as tables, the last the present one; its log -/
structure SessD (K : PySem.W.Frag) (H : Hp) (n : Nat) (pr lg ea : Addr) (tabs : List Tbl) (log : List (Str × Str)) : Prop where
  lg : ∃ xs, H lg = some (.tup xs) ∧ Paired (EntAt H) xs log
  ea : ∃ ys, H ea = some (.tup ys) ∧ Paired (MapV K H n) (ys ++ [.ref pr]) tabs
theorem SessD.fr {K : PySem.W.Frag} {S : List Addr} {H H' : Hp} {n : Nat} {pr lg ea : Addr} {tabs : List Tbl} {log : List (Str × Str)} (m : SessD K H n pr lg ea tabs log) (f : Fr S H H') : SessD K H' n pr lg ea tabs log :=
  let ⟨⟨xs, h1, h2⟩, ⟨ys, h3, h4⟩⟩ := m
  ⟨⟨xs, f.imm h1 rfl, pr_fr (fun _ _ z => z.fr f) h2⟩, ⟨ys, f.imm h3 rfl, pr_fr (fun _ _ z => z.fr f) h4⟩⟩
def SessAt (K : PySem.W.Frag) (H : Hp) (s : Addr) (I : SI) (n : Nat) (tabs : List Tbl) (log : List (Str × Str)) : Prop :=
  I.Ok K ∧ ∃ pr lg ea, H s = some (.ins I.C I.dx (I.fs pr lg ea)) ∧ SessD K H n pr lg ea tabs log
theorem SessAt.fr {K : PySem.W.Frag} {S : List Addr} {H H' : Hp} {s : Addr} {I : SI} {n : Nat} {tabs : List Tbl} {log : List (Str × Str)} (m : SessAt K H s I n tabs log) (f : Fr S H H') (h : s ∉ S) : SessAt K H' s I n tabs log :=
  let ⟨k, pr, lg, ea, h1, h2⟩ := m; ⟨k, pr, lg, ea, f _ _ h1 fun _ => h, h2.fr f⟩
def mdl (n : Nat) (tl ll : Addr) : List (Key × V) := [(Sum.inr "size", .int n), (Sum.inr "tables", .ref tl), (Sum.inr "log", .ref ll)]
structure ModD (H : Hp) (tl ll : Addr) (tabs : List Tbl) (log : List (Str × Str)) : Prop where
  tl : ∃ xs, H tl = some (.lst xs) ∧ Paired (TabAt H) xs tabs
  ll : ∃ ys, H ll = some (.lst ys) ∧ Paired (EntAt H) ys log
theorem ModD.fr {S : List Addr} {H H' : Hp} {tl ll : Addr} {tabs : List Tbl} {log : List (Str × Str)} (m : ModD H tl ll tabs log) (f : Fr S H H') : ModD H' tl ll tabs log :=
  let ⟨⟨xs, h1, h2⟩, ⟨ys, h3, h4⟩⟩ := m
  ⟨⟨xs, f.imm h1 (mut_refs (refs_tab h2)), pr_fr (fun _ _ z => z.fr f) h2⟩, ⟨ys, f.imm h3 (mut_refs (refs_ent h4)), pr_fr (fun _ _ z => z.fr f) h4⟩⟩
/-- the law's model of a session -/
def ModAt (H : Hp) (m : Addr) (n : Nat) (tabs : List Tbl) (log : List (Str × Str)) : Prop := ∃ tl ll, H m = some (.dK (mdl n tl ll)) ∧ ModD H tl ll tabs log
theorem ModAt.fr {S : List Addr} {H H' : Hp} {m : Addr} {n : Nat} {tabs : List Tbl} {log : List (Str × Str)} (k : ModAt H m n tabs log) (f : Fr S H H') (h : m ∉ S) : ModAt H' m n tabs log :=
  let ⟨tl, ll, h1, h2⟩ := k; ⟨tl, ll, f _ _ h1 fun _ => h, h2.fr f⟩
/-- what both hold is in order: at most b turns -/
structure Hist (n b : Nat) (tabs : List Tbl) (log : List (Str × Str)) : Prop where
  n1 : 1 ≤ n
  n5 : n ≤ 5
  len : tabs.length = log.length + 1
  le : log.length ≤ b
  ga : ∀ l ∈ tabs, GA n l
  ent : ∀ e ∈ log, PyData.strOk e.1 = true ∧ PyData.strOk e.2 = true
/-- session and model say the same -/
def Cpl (K : PySem.W.Frag) (H : Hp) (s m : Addr) (I : SI) (n b : Nat) : Prop := ∃ tabs log, SessAt K H s I n tabs log ∧ ModAt H m n tabs log ∧ Hist n b tabs log
theorem Cpl.fr {K : PySem.W.Frag} {S : List Addr} {H H' : Hp} {s m : Addr} {I : SI} {n b : Nat} (k : Cpl K H s m I n b) (f : Fr S H H') (hs : s ∉ S) (hm : m ∉ S) : Cpl K H' s m I n b :=
  let ⟨tabs, log, h1, h2, h3⟩ := k; ⟨tabs, log, h1.fr f hs, h2.fr f hm, h3⟩
end K74
end
-- K74A
section
set_option maxRecDepth 100000
set_option maxHeartbeats 4000000
/-! Maps: checked, made, read. -/
namespace K74
open PySem PySem.Spec PyProof.Rows L2
/-- a dict comprehension over a walk: Pv by the turn and the heap (the new dict at D within) -/
theorem dc_it {J : It} {n : Nat} {G : Hp → Prop} {Y : Nat → Hp → V → Hp → Prop} (w : Walk J n G Y) {g : TG} {tt : TT} {tk tv : TE} {vs : List Nat} {σ : L2.St} {H1 : Hp} {D : Addr} {Qd : Hp → Prop} (Pv : Nat → Hp → Prop) (h0 : Pv 0 (upd H1 D (.dK []))) (hG : ∀ i H, i ≤ n → Pv i H → G H)
    (hs : ∀ i x H H', i < n → Pv i H → Y i H x H' → g x (wipe σ vs) H' fun σ2 H2 => wipe σ2 vs = wipe σ vs ∧ tt σ2 H2 fun b H3 =>
      if b = true then tk σ2 H3 fun y H4 => tv σ2 H4 fun z H5 => ∃ kvs k, y = kV k ∧ H5 D = some (.dK kvs) ∧ kvs.length < sizeLine ∧ Pv (i + 1) (upd H5 D (.dK (putK kvs k z))) else Pv (i + 1) H3) (hd : ∀ H, Pv n H → Qd H) :
    ∃ W : Nat → Nat → Hp → Prop, (∃ m, W 0 m (upd H1 D (.dK []))) ∧ ∀ i m H, W i m H →
      (J.stop i H ∧ Qd H) ∨ (J.go i H ∧ ∃ Nx : Hp → Prop, (∀ H', Nx H' → ∃ m', m' < m ∧ W (i + 1) m' H') ∧ ∀ x H', J.yld i H x H' → g x (wipe σ vs) H' fun σ2 H2 => wipe σ2 vs = wipe σ vs ∧ tt σ2 H2 fun b H3 =>
        if b = true then tk σ2 H3 fun y H4 => tv σ2 H4 fun z H5 => ∃ kvs k, y = kV k ∧ H5 D = some (.dK kvs) ∧ kvs.length < sizeLine ∧ Nx (upd H5 D (.dK (putK kvs k z))) else Nx H3) := by
  refine ⟨fun i m H => m = n - i ∧ i ≤ n ∧ Pv i H, ⟨n, by simp, Nat.zero_le _, h0⟩, ?_⟩
  rintro i m H ⟨rfl, hi, p⟩
  have q := hG i H hi p
  by_cases hlt : i < n
  · exact .inr ⟨w.goes i H hlt q, Pv (i + 1), fun H' p' => ⟨n - (i + 1), by omega, rfl, hlt, p'⟩, fun x H' y => hs i x H H' hlt p (w.yields i H x H' hlt q y)⟩
  · have e : i = n := by omega
    subst e
    exact .inl ⟨w.stops H q, hd H p⟩
theorem walk_rg0 {n : Nat} : Walk (Itr 0 n) n (fun _ => True) (YFn fun i => .int (i : Int)) :=
  walk_range.mono (fun _ h => h) fun i H x H' _ _ y => ⟨y.1, by rw [y.2]; show V.int _ = V.int _; rw [Int.zero_add]⟩
theorem huH {k : Nat} {A : Around} (hr : L2H.RoomH k A) : A.units + 1 < cLine := by
  have := hr.un
  omega
/-- all that was tracked stands, p apart -/
def SameX (p : Addr) (H H' : Hp) : Prop := ∀ a o, a ≠ p → H a = some o → H' a = some o
theorem tgt_new {n : Nat} {l : Tbl} (g : Good n l) {i : Nat} (hi : i < l.length) : l[i].2 ∉ (l.take i).map (·.2) := by
  intro h
  obtain ⟨p, hp, e⟩ := List.mem_map.mp h
  obtain ⟨j, hj, rfl⟩ := List.mem_iff_getElem.mp hp
  have hj' : j < i := by simp at hj; omega
  have a := g.tgt
  unfold List.Nodup at a
  rw [List.pairwise_map, List.pairwise_iff_getElem] at a
  have := a j i (by omega) hi hj'
  rw [List.getElem_take] at e
  exact this e
section
variable {P : Program} {w : World} {K : PySem.W.Frag} {mg : Str → Option Value} {base : Heap}
abbrev sAreArrows : Stmt := top 20
def spAreArrows : Sp := fun vs H Q _ => ∃ (n : Nat) (d : Addr) (l : Tbl), vs = [.int n, .ref d] ∧ H d = some (.dK (kz l)) ∧ Good n l ∧ n ≤ 300 ∧ ∀ H', Same H H' → Q (.bl true) H'
theorem sc_are_arrows : FnScope ["size", "arrows", "targets", "source", "target"] ["size", "arrows"] (defScope sAreArrows) := ⟨rfl, rfl, rfl, by decide +kernel, rfl, by decide +kernel, by decide +kernel⟩
theorem g_are_arrows (T : Txt K mg) : GG P w K mg base 3 "are_arrows" ["size", "arrows"] spAreArrows := by
  have G := g_in_range (P := P) (w := w) (base := base) T
  refine gg_of (T.fn 20 (by decide)) sc_are_arrows (fun vs H Q E h => ?_) (fun f cdv A outer s H vs Q E c pn cool hr h => ?_) fun _ _ _ _ _ _ us hl => match us, hl with | [_, _], _ => rfl
  · obtain ⟨n, d, l, rfl, _⟩ := h
    rfl
  · obtain ⟨n, d, l, rfl, hd, g, hn, k⟩ := h
    have hz : l.length ≤ 1000 := by have := g.len; omega
    refine ⟨_, pss_cons (ps_if (pt_not (pt_val (pe_callB call_isi (by rfl) (T.z "isinstance") (by decide +kernel) (pa_cons (pv 1) (pa_cons (pe_bltn (v := .ty "dict") (by rfl) (T.z "dict") (by decide +kernel) rfl) pa_nil))))) (pss_one ps_never) pss_nil)
      (pss_cons (ps_set (i := 2) sc_are_arrows.nd rfl (Or.inl rfl) pe_dnewK)
      (pss_cons (ps_lock (ps_forItems cool PassesOwn.never (pv 1) (pg_tupC cool (pgs_cons (pg_name (i := 3) sc_are_arrows.nd rfl (Or.inl rfl)) (pgs_cons (pg_name (i := 4) sc_are_arrows.nd rfl (Or.inl rfl)) pgs_nil)))
        (pss_cons (ps_if (PW.pt (pw_or (pt_not (pt_val (pe_gg G cool hr (pa_cons (pv 3) (pa_cons pe_int (pa_cons (pe_op op_sub (pv 0) pe_int) pa_nil))))))
            (pw_or (pt_not (pt_val (pe_gg G cool hr (pa_cons (pv 4) (pa_cons pe_int (pa_cons (pe_op op_sub (pv 0) pe_int) pa_nil)))))) (pw_or1 (pt_cmp (pc_din (huH hr) (pv 4) (pv 2))))))) (pss_one ps_never) pss_nil)
          (pss_one (ps_dput (huH hr) (pv 2) (pv 4) pe_bl rfl)))))
      (pss_one (ps_ret pe_bl)))), ?_⟩
    refine ⟨_, rfl, _, _, _, _, true, rfl, .ty "dict", .base (.dK hd), kit_ty (by decide +kernel), true, rfl, ?_⟩
    refine iteF ?_
    intro t ht
    have hdt : d ≠ t := ne_of_none hd ht
    refine ⟨d, _, (upd_ne hdt).trans hd, trivial, fun od => ?_⟩
    refine ⟨_, rfl, d, od, kz l, rfl, upd_same, ?_⟩
    refine for_it walk_items (fun i σ H' => ∃ a b ts, σ = [some (.int n), some (.ref d), some (.ref t), a, b] ∧ H' d = some (.frz od (.dK (kz l))) ∧ H' t = some (.dK ts) ∧ (∀ y : Int, y ∉ (l.take i).map (·.2) → valV ts (Sum.inl y) = none) ∧ ts.length ≤ i ∧ SameX d H H') ?_ ?_ ?_ ?_
    · refine ⟨_, _, [], rfl, upd_same, ?_, fun _ _ => rfl, Nat.le_refl _, fun a o ha ho => ?_⟩
      · rw [upd_ne hdt.symm, upd_same]
      · rw [upd_ne ha, upd_ne (ne_of_none ho ht)]
        exact ho
    · rintro i σ H' _ ⟨_, _, _, _, h1, _⟩
      exact h1
    · rintro i x σ H1 H2 hi ⟨a, b, ts, rfl, h1, h2, h3, h4, h5⟩ ⟨T', x1, y1, rfl, hT, rfl, hx, hy⟩
      have hli : i < l.length := by simpa [kz_len] using hi
      have ei : (kz l)[i]? = some (Sum.inl (l[i]).1, V.int (l[i]).2) := by simp [kz, hli]
      simp only [ei, Option.map_some, Option.some.injEq] at hx hy
      subst hx hy
      obtain ⟨⟨r1, r2⟩, r3, r4⟩ := g.rng l[i] (List.getElem_mem hli)
      have tT : t ≠ T' := ne_of_none h2 hT
      have dT : d ≠ T' := ne_of_none h1 hT
      refine ⟨T', _, rfl, SqT.of upd_same, rfl, ?_⟩
      refine ⟨_, _, rfl, _, _, rfl, rfl, ?_⟩
      refine ⟨_, rfl, _, rfl, _, _, rfl, rfl, _, _, _, rfl, _, rfl, ?_⟩
      rw [show (decide (0 ≤ l[i].1) && decide (l[i].1 ≤ (n : Int) - 1)) = true by simp; omega]
      refine iteF ?_
      refine ⟨_, rfl, _, rfl, _, _, rfl, rfl, _, _, _, rfl, _, rfl, ?_⟩
      rw [show (decide (0 ≤ l[i].2) && decide (l[i].2 ≤ (n : Int) - 1)) = true by simp; omega]
      refine iteF ?_
      have e0 : valV ts (Sum.inl l[i].2) = none := h3 _ (tgt_new g hli)
      have u0 : (upd H1 T' (.tup [V.int l[i].1, V.int l[i].2])) t = some (.dK ts) := (upd_ne tT).trans h2
      refine ⟨_, rfl, _, rfl, _, _, rfl, DGet.k (k := Sum.inl l[i].2) u0, _, rfl, ?_⟩
      rw [e0]
      refine iteF ?_
      refine ⟨_, rfl, _, rfl, _, _, rfl, DPut.k (k := Sum.inl l[i].2) u0 (Nat.lt_of_le_of_lt (by omega) (small1000 hz)), ?_⟩
      refine ⟨_, _, _, rfl, ?_, upd_same, fun y hy => ?_, ?_, fun a o ha ho => ?_⟩
      · rw [upd_ne hdt, upd_ne dT]
        exact h1
      · rw [valV_put]
        rw [List.take_succ_eq_append_getElem hli, List.map_append] at hy
        rw [if_neg (fun z => by cases z; simp at hy), h3 y (fun z => hy (List.mem_append_left _ z))]
      · have := length_putK ts (Sum.inl l[i].2) (.bl true)
        omega
      · have ho' := h5 a o ha ho
        rw [upd_ne (ne_of_none ho ht), upd_ne (ne_of_none ho' hT)]
        exact ho'
    · rintro σ H' ⟨a, b, ts, rfl, h1, h2, h3, h4, h5⟩
      refine ⟨h1, ?_⟩
      refine k _ fun a o ho => ?_
      by_cases e : a = d
      · subst e
        rw [upd_same, ← ho, hd]
      · rw [upd_ne e]
        exact h5 a o e ho
abbrev sMapInit : Stmt := sub 24 0
def spMapInit (K : PySem.W.Frag) : Sp := fun vs H Q _ => ∃ (x dx : Addr) (n : Nat) (d : Addr) (l : Tbl), vs = [.ref x, .int n, .ref d] ∧ H x = some (.ins (cM K) dx []) ∧ H d = some (.dK (kz l)) ∧ Good n l ∧ 1 ≤ n ∧ n ≤ 300 ∧
  ∀ H' ad, SameX x H H' → H' x = some (.ins (cM K) dx [("own_size", .int n), ("own_arrows", .ref ad)]) → H' ad = some (.dK (kz (canon n l))) → Q .non H'
theorem sc_map_init : FnScope ["self", "size", "arrows", "source"] ["self", "size", "arrows"] (defScope sMapInit) := ⟨rfl, rfl, rfl, by decide +kernel, rfl, by decide +kernel, by decide +kernel⟩
theorem k_Map (T : Txt K mg) : KG P w K mg base (cM K) 4 "Map" ["self", "size", "arrows"] (spMapInit K) := by
  have G := g_in_range (P := P) (w := w) (base := base) T
  have G2 := g_are_arrows (P := P) (w := w) (base := base) T
  obtain ⟨tk, hms⟩ := T.maxSize
  obtain ⟨f, fd, F, M⟩ := T.iM
  suffices z : FnOk P w K mg base CX0 4 f fd ["self", "size", "arrows"] (spMapInit K) ∧ L2H.FnH P w K mg base CX0 4 f fd ["self", "size", "arrows"] (spMapInit K) from
    ⟨f, fd, z.1, z.2, M, F.binds fun _ _ _ _ _ _ us hl => match us, hl with | [_, _, _], _ => rfl, T.gM⟩
  refine fun_both F sc_map_init (fun vs H Q E h => ?_) (fun cdv A outer s H vs Q E c pn cool hr h => ?_)
  · obtain ⟨_, _, _, _, _, rfl, _⟩ := h
    rfl
  · obtain ⟨x, dx, n, d, l, rfl, hx, hd, g, n1, n2, k⟩ := h
    refine ⟨_, pss_cons (ps_if (pt_not (pt_val (pe_gg G cool hr (pa_cons (pv 1) (pa_cons pe_int (pa_cons (pe_glob (v := .int 300) rfl hms ⟨_, rfl⟩) pa_nil)))))) (pss_one ps_never) pss_nil)
      (pss_cons (ps_if (pt_not (pt_val (pe_gg G2 cool hr (pa_cons (pv 1) (pa_cons (pv 2) pa_nil))))) (pss_one ps_never) pss_nil)
      (pss_cons (ps_fld (pv 0) (pv 1) rfl)
      (pss_one (ps_fld (pv 0) (pe_dcRange (own := [("source", 3)]) (g := gName 3) cool sc_map_init.nd (T.z "range") (pa_cons (pv 1) pa_nil) (blkOk_by (own := [("source", 3)]) (N := ["self", "size", "arrows", "source"]) (sc := defScope sMapInit) (by decide +kernel))
        (fun _ _ _ _ _ => pg_name (i := 3) sc_map_init.nd rfl (Or.inl rfl)) (fun _ _ _ _ _ => pts_one (pt_cmp (pc_din (huH hr) (pv 3) (pv 2)))) (fun _ _ _ _ _ => pv 3) (fun _ _ _ _ _ => pe_dget (huH hr) (pv 2) (pv 3) (fun _ _ => rfl))) rfl)))), ?_⟩
    refine ⟨_, rfl, n, 1, 300, rfl, _, rfl, ?_⟩
    rw [show (decide (1 ≤ (n : Int)) && decide ((n : Int) ≤ 300)) = true by simp; omega]
    refine iteF ?_
    refine ⟨_, rfl, _, rfl, n, d, l, rfl, hd, g, n2, fun H1 s1 => ⟨_, rfl, ?_⟩⟩
    refine iteF ?_
    refine ⟨_, rfl, _, rfl, x, _, dx, _, rfl, s1 _ _ hx, T.fM.cl, T.nM _ (by decide +kernel), by decide, ?_⟩
    have hxd : d ≠ x := ne_of hd hx (by intro z; cases z)
    refine ⟨_, rfl, n, rfl, by omega, by omega, fun D hD => ?_⟩
    have hD1 : H1 D = none := by
      have e : D ≠ x := fun z => by subst z; rw [upd_same] at hD; cases hD
      rwa [upd_ne e] at hD
    have e5 : ((n : Int)).toNat = n := Int.toNat_natCast n
    rw [e5]
    have hdD : d ≠ D := ne_of_none (s1 _ _ hd) hD1
    have hxD : x ≠ D := ne_of_none (s1 _ _ hx) hD1
    refine dc_it walk_rg0 (fun i H' => H' D = some (.dK (kz (canon i l))) ∧ SameX D (upd H1 x (.ins (cM K) dx [("own_size", .int n)])) H') ?_ (fun _ _ _ _ => trivial) ?_ ?_
    · refine ⟨upd_same, fun a o ha ho => ?_⟩
      rw [upd_ne ha]
      exact ho
    · rintro i _ _ H2 hi ⟨p1, p2⟩ ⟨rfl, rfl⟩
      have hd2 : H2 d = some (.dK (kz l)) := p2 _ _ hdD ((upd_ne hxd).trans (s1 _ _ hd))
      refine ⟨rfl, _, rfl, _, rfl, d, _, rfl, DGet.k (k := Sum.inl (i : Int)) hd2, _, rfl, ?_⟩
      rw [valV_kz]
      cases e : lk l (i : Int) with
      | none =>
        refine iteF ⟨?_, p2⟩
        rw [p1, canon_succ, e]
        simp
      | some t =>
        refine iteT ⟨_, rfl, _, rfl, _, rfl, d, .int t, rfl, ?_, _, Sum.inl (i : Int), rfl, p1, ?_, ?_, ?_⟩
        · have := DGet.k (k := Sum.inl (i : Int)) hd2
          rw [valV_kz, e] at this
          exact this
        · rw [kz_len]
          exact Nat.lt_of_le_of_lt (canon_len i l) (small1000 (by omega))
        · rw [upd_same, putK_new _ (by rw [valV_kz, canon_no]; rfl), canon_succ, e]
          simp [kz]
        · intro a o ha ho
          rw [upd_ne ha]
          exact p2 a o ha ho
    · rintro H2 ⟨p1, p2⟩
      refine ⟨_, rfl, x, _, dx, _, rfl, p2 _ _ hxD upd_same, T.fM.cl, T.nM _ (by decide +kernel), by show 1 < 1000; decide, ?_⟩
      refine k _ D (fun a o ha ho => ?_) upd_same ((upd_ne hxD.symm).trans p1)
      rw [upd_ne ha]
      exact p2 a o (ne_of_none (s1 _ _ ho) hD1) ((upd_ne ha).trans (s1 _ _ ho))
end
end K74
end
-- K74B
section
set_option maxRecDepth 100000
set_option maxHeartbeats 4000000
/-! Maps: read, compared, multiplied. -/
namespace K74
open PySem PySem.Spec PyProof.Rows L2
section
variable {P : Program} {w : World} {K : PySem.W.Frag} {mg : Str → Option Value} {base : Heap}
theorem SameX.fr {H H' : Hp} {x dx : Addr} {o u : HO} (s : SameX x (upd (upd H dx o) x u) H') (h1 : H x = none) (h2 : H dx = none) (S : List Addr) : Fr S H H' := fun a v e _ => by
  have a1 : a ≠ x := ne_of_none e h1
  exact s a v a1 (by rw [upd_ne a1, upd_ne (ne_of_none e h2)]; exact e)
/-- Map(n, d) -/
theorem mk_map {H : Hp} {n : Nat} {d : Addr} {l : Tbl} {Q : VK} (hd : H d = some (.dK (kz l))) (g : Good n l) (n1 : 1 ≤ n) (n2 : n ≤ 300) (h : ∀ H' a, Fr [] H H' → H a = none → MapAt K H' a n (canon n l) → Q (.ref a) H') :
    ∀ y dy, H y = none → H dy = none → dy ≠ y → spMapInit K [.ref y, .int n, .ref d] (upd (upd H dy (.own y)) y (.ins (cM K) dy [])) (fun v H2 => v = .non ∧ Q (.ref y) H2) E0 := fun y dy hy hdy ne =>
  ⟨y, dy, n, d, l, rfl, upd_same, by rw [upd_ne (ne_of_none hd hy), upd_ne (ne_of_none hd hdy)]; exact hd, g, n1, n2, fun H' ad s h1 h2 => ⟨rfl, h H' y (s.fr hy hdy []) hy ⟨dy, ad, h1, h2⟩⟩⟩
theorem pr_of {C : Addr} {k : Nat} {x qual : Str} {st : Stmt} {N : List Str} {sp : Sp} (F : PrF K C x qual st) (S : FnScope N ["self"] (defScope st)) (len : ∀ vs H Q E, sp vs H Q E → vs.length = 1)
    (hbody : ∀ (f : Addr) (cdv : Value) (A : Around) (outer : List Env) (s : Shared) (H : Hp) (vs : List V) (Q : VK) (E : XK) (c : Bool) (pn : List (Addr × Obj)), Cool (cxG CX0 P w K mg base N qual (defScope st) f cdv A outer s H E c pn).nox → L2H.RoomH k (A.deeper (envOfC qual (defScope st) s.heap.objs.size f cdv)) → sp vs H Q E →
      ∃ t, PSs (cxG CX0 P w K mg base N qual (defScope st) f cdv A outer s H E c pn).nox (defBody st) t ∧ t { nx := fun _ H' => Q .non H', rt := Q } (start N vs) H)
    (hb : ∀ (kV doc pm : Value) (an : Option Addr) (cdv ct : Value) (us : List Value), us.length = 1 → bindArgs (PySem.W.fnOf x qual (defArgs st) (defBody st) (defScope st) .none kV doc pm an cdv ct) ⟨us, []⟩ = pure ((["self"] : List Str).zip us)) : PG1 P w K mg base C (k + 1) x sp := by
  obtain ⟨f, p, fd, F, hp⟩ := F
  obtain ⟨h1, h2⟩ := fun_both (P := P) (w := w) (mg := mg) (base := base) F S len (hbody f)
  exact ⟨f, p, fd, h1, h2, hp, F.binds hb⟩
abbrev sMapSize : Stmt := sub 24 6
abbrev sMapArrows : Stmt := sub 24 7
abbrev sMapMul : Stmt := sub 24 8
abbrev sMapLen : Stmt := sub 24 24
abbrev sMapEq : Stmt := sub 24 25
def spMapSize (K : PySem.W.Frag) : Sp := fun vs H Q _ => ∃ (a : Addr) (n : Nat) (l : Tbl), vs = [.ref a] ∧ MapAt K H a n l ∧ Q (.int n) H
def spMapArrows (K : PySem.W.Frag) : Sp := fun vs H Q _ => ∃ (a : Addr) (n : Nat) (l : Tbl), vs = [.ref a] ∧ MapAt K H a n l ∧ ∀ p, H p = none → Q (.ref p) (upd H p (.dK (kz l)))
def spMapLen (K : PySem.W.Frag) : Sp := fun vs H Q _ => ∃ (a : Addr) (n : Nat) (l : Tbl), vs = [.ref a] ∧ MapAt K H a n l ∧ Q (.int l.length) H
def spMapEq (K : PySem.W.Frag) : Sp := fun vs H Q _ => ∃ (a b : Addr) (n : Nat) (l : Tbl), vs = [.ref a, .ref b] ∧ MapAt K H a n l ∧ MapAt K H b n l ∧ (l.map (·.1)).Nodup ∧ Q (.bl true) H
theorem sc_map_size : FnScope ["self"] ["self"] (defScope sMapSize) := ⟨rfl, rfl, rfl, by decide +kernel, rfl, by decide +kernel, by decide +kernel⟩
theorem p_size (T : Txt K mg) : PG1 P w K mg base (cM K) 1 "size" (spMapSize K) := by
  refine pr_of (T.pM (6, "Map.size") (by decide +kernel)) sc_map_size (fun vs H Q E h => ?_) (fun f cdv A outer s H vs Q E c pn cool hr h => ?_) fun _ _ _ _ _ _ us hl => match us, hl with | [_], _ => rfl
  · obtain ⟨_, _, _, rfl, _⟩ := h
    rfl
  · obtain ⟨a, n, l, rfl, ⟨dx, ad, h1, h2⟩, k⟩ := h
    exact ⟨_, pss_one (ps_ret (pe_fld (pv 0) rfl)), _, rfl, a, _, dx, _, _, rfl, h1, T.fM.cl, T.nM _ (by decide +kernel), rfl, k⟩
theorem sc_map_arrows : FnScope ["self"] ["self"] (defScope sMapArrows) := ⟨rfl, rfl, rfl, by decide +kernel, rfl, by decide +kernel, by decide +kernel⟩
theorem p_arrows (T : Txt K mg) : PG1 P w K mg base (cM K) 1 "arrows" (spMapArrows K) := by
  refine pr_of (T.pM (7, "Map.arrows") (by decide +kernel)) sc_map_arrows (fun vs H Q E h => ?_) (fun f cdv A outer s H vs Q E c pn cool hr h => ?_) fun _ _ _ _ _ _ us hl => match us, hl with | [_], _ => rfl
  · obtain ⟨_, _, _, rfl, _⟩ := h
    rfl
  · obtain ⟨a, n, l, rfl, ⟨dx, ad, h1, h2⟩, k⟩ := h
    exact ⟨_, pss_one (ps_ret (pe_callTy call_dictD (by rfl) (T.z "dict") (by decide +kernel) (pa_cons (pe_fld (pv 0) rfl) pa_nil))), _, rfl, a, _, dx, _, _, rfl, h1, T.fM.cl, T.nM _ (by decide +kernel), rfl, ad, _, rfl, .inl h2, k⟩
theorem sc_map_len : FnScope ["self"] ["self"] (defScope sMapLen) := ⟨rfl, rfl, rfl, by decide +kernel, rfl, by decide +kernel, by decide +kernel⟩
theorem m_len (T : Txt K mg) : MG P w K mg base (cM K) 1 "__len__" ["self"] (spMapLen K) := by
  refine mg_of (T.mM (24, "Map.__len__") (by decide +kernel)) sc_map_len (fun vs H Q E h => ?_) (fun f cdv A outer s H vs Q E c pn cool hr h => ?_) fun _ _ _ _ _ _ us hl => match us, hl with | [_], _ => rfl
  · obtain ⟨_, _, _, rfl, _⟩ := h
    rfl
  · obtain ⟨a, n, l, rfl, ⟨dx, ad, h1, h2⟩, k⟩ := h
    refine ⟨_, pss_one (ps_ret (pe_callB call_lenD (by rfl) (T.z "len") PySem.boot_len (pa_cons (pe_fld (pv 0) rfl) pa_nil))), _, rfl, a, _, dx, _, _, rfl, h1, T.fM.cl, T.nM _ (by decide +kernel), rfl, ad, _, rfl, h2, ?_⟩
    rw [kz_len]
    exact k
theorem sc_map_eq : FnScope ["self", "other"] ["self", "other"] (defScope sMapEq) := ⟨rfl, rfl, rfl, by decide +kernel, rfl, by decide +kernel, by decide +kernel⟩
theorem isM (T : Txt K mg) {H : Hp} {a : Addr} {n : Nat} {l : Tbl} (m : MapAt K H a n l) : TyX K H (.ref a) (.ref (cM K)) := let ⟨dx, ad, h1, h2⟩ := m; .base (.ins h1 T.fM.cl T.fM.kc T.od T.ot T.fM.mo)
theorem kitSelf {C : Addr} : PySem.W.kitOne K (.ref C) (.ref C) = some true := by unfold PySem.W.kitOne; rw [if_pos (beq_self_eq_true _)]
theorem m_eq (T : Txt K mg) : MG P w K mg base (cM K) 1 "__eq__" ["self", "other"] (spMapEq K) := by
  refine mg_of (T.mM (25, "Map.__eq__") (by decide +kernel)) sc_map_eq (fun vs H Q E h => ?_) (fun f cdv A outer s H vs Q E c pn cool hr h => ?_) fun _ _ _ _ _ _ us hl => match us, hl with | [_, _], _ => rfl
  · obtain ⟨_, _, _, _, rfl, _⟩ := h
    rfl
  · obtain ⟨a, b, n, l, rfl, ma, mb, nd, k⟩ := h
    refine ⟨_, pss_cons (ps_if (pt_not (pt_val (pe_callB call_isi (by rfl) (T.z "isinstance") (by decide +kernel) (pa_cons (pv 1) (pa_cons (pe_glob (v := .ref (cM K)) rfl T.gM rfl) pa_nil))))) (pss_one ps_never) pss_nil)
      (pss_one (ps_ret (pe_and (pe_cmpR op_eq (pe_fld (pv 0) rfl) (pe_fld (pv 1) rfl) (nomark _)) (pe_one (pe_cmpR (op_eq_dictA (Nat.lt_of_succ_lt (huH hr))) (pe_fld (pv 0) rfl) (pe_fld (pv 1) rfl) (nomark _)))))), ?_⟩
    refine ⟨_, rfl, _, _, _, _, true, rfl, .own _, isM T mb, kitSelf, true, rfl, ?_⟩
    refine iteF ?_
    obtain ⟨dx, ad, h1, h2⟩ := ma
    obtain ⟨dx', ad', h1', h2'⟩ := mb
    refine ⟨_, rfl, a, _, dx, _, _, rfl, h1, T.fM.cl, T.nM _ (by decide +kernel), rfl, _, rfl, b, _, dx', _, _, rfl, h1', T.fM.cl, T.nM _ (by decide +kernel), rfl, rfl, _, rfl, ?_⟩
    rw [decide_eq_true (show (V.int (n : Int)) = V.int n from rfl)]
    refine iteT ?_
    refine ⟨_, rfl, a, _, dx, _, _, rfl, h1, T.fM.cl, T.nM _ (by decide +kernel), rfl, _, rfl, b, _, dx', _, _, rfl, h1', T.fM.cl, T.nM _ (by decide +kernel), rfl, ad, ad', _, _, rfl, rfl, h2, h2', rfl, fun p hp => ?_, k⟩
    obtain ⟨q, hq, rfl⟩ := List.mem_map.mp hp
    refine ⟨?_, rfl⟩
    rw [valV_kz, lk_of (s := q.1) (t := q.2) nd hq]
    rfl
end
end K74
end
-- K74C
section
set_option maxRecDepth 100000
set_option maxHeartbeats 4000000
/-! Maps: checked, multiplied; the identity. -/
namespace K74
open PySem PySem.Spec PyProof.Rows L2
theorem src_new {l : Tbl} (h : (l.map (·.1)).Nodup) {i : Nat} (hi : i < l.length) : l[i].1 ∉ (l.take i).map (·.1) := by
  intro z
  obtain ⟨p, hp, e⟩ := List.mem_map.mp z
  obtain ⟨j, hj, rfl⟩ := List.mem_iff_getElem.mp hp
  have hj' : j < i := by simp at hj; omega
  unfold List.Nodup at h
  rw [List.pairwise_map, List.pairwise_iff_getElem] at h
  have := h j i (by omega) hi hj'
  rw [List.getElem_take] at e
  exact this e
theorem kz_get {l : Tbl} {i : Nat} (hi : i < l.length) : (kz l)[i]? = some (Sum.inl (l[i]).1, V.int (l[i]).2) := by simp [kz, hi]
theorem prod_succ {l m : Tbl} {i : Nat} (hi : i < l.length) : prodT (l.take (i + 1)) m = prodT (l.take i) m ++ ((lk m l[i].2).map fun t => (l[i].1, t)).toList := by
  unfold prodT
  rw [List.take_succ_eq_append_getElem hi, List.filterMap_append]
  congr 1
theorem prod_no {l m : Tbl} (h : (l.map (·.1)).Nodup) {i : Nat} (hi : i < l.length) : lk (prodT (l.take i) m) l[i].1 = none := by
  rw [lk_none]
  intro z
  obtain ⟨p, hp, e⟩ := List.mem_map.mp z
  obtain ⟨q, hq, e2⟩ := List.mem_filterMap.mp hp
  obtain ⟨t, _, rfl⟩ := Option.map_eq_some_iff.mp e2
  exact src_new h hi (List.mem_map.mpr ⟨q, hq, e⟩)
theorem prod_len {l m : Tbl} : (prodT l m).length ≤ l.length := List.length_filterMap_le _ _
section
variable {X : Cx} {C f : Addr} {j k : Nat} {fd : FuncData} {ps : List Str} {sp : Sp}
theorem call_calm {A' : Around} {pins : List (Addr × Obj)} {σ : L2.St} {H : Hp} {s : Shared} {Q : VK} {us : List Value} {vs : List V} {E : Value → Shared → Prop} (F1 : FnOk X.prog X.w X.K X.mg X.base CX0 k f fd ps sp) (hr : Room k A') (hfr : A'.frames = X.A.frames) (I : Inv X pins σ H s)
    (hb : Binds X.K fd ps []) (r : Vals vs us) (h : sp vs H Q E0) : wpAny (model X.prog X.w) A' (call (.ref f) us) (EP X pins σ Q) E s := by
  have hl : us.length = ps.length := by rw [← r.length]; exact F1.len _ _ _ _ h
  have b := hb s us I.kIn (by rw [List.append_nil]; exact hl)
  rw [List.append_nil] at b
  have e := I.env0
  have e0 : Env0 X.prog X.w X.K X.mg X.base A' X.stack s H := ⟨by rw [hfr]; exact e.frames, e.mod, e.bs, e.bsz, e.funs, e.frf, e.hok, e.bare⟩
  refine wpAny_call (codeAny_mono (F1.run A' X.stack s H ⟨us, []⟩ us vs Q E0 hr e0 b r h) fun r s' hq => ?_)
  cases r with
  | error e => exact False.elim hq
  | ok fl =>
    cases fl with
    | ret u => exact I.after hq
    | next => exact False.elim hq
    | brk => exact False.elim hq
    | cont => exact False.elim hq
theorem op_mulC (G : MC X.prog X.w X.K X.mg X.base CX0 C k "__mul__" ps sp) (hf : PySem.W.selfFirst X.K C = true) (hr : Room k X.A) :
    OpR X (binaryOp .Mult) (fun x y H Q => ∃ a b dx dy fs gs, x = .ref a ∧ y = .ref b ∧ H a = some (.ins C dx fs) ∧ H b = some (.ins C dy gs) ∧ sp [x, y] H Q E0) := by
  obtain ⟨g, fd, F1, hm, hb⟩ := G.ex
  intro pins s σ H x y u v Q I rx ry h
  obtain ⟨a, b, dx, dy, fs, gs, rfl, rfl, ea, eb, q⟩ := h
  obtain rfl : u = Value.ref a := rx
  obtain rfl : v = Value.ref b := ry
  obtain ⟨mA, O, _, _, _, _⟩ := ins_get I.hok ea
  obtain ⟨od, J, _⟩ := O.look
  obtain ⟨mB, O', _, _, _, _⟩ := ins_get I.hok eb
  obtain ⟨od', J', _⟩ := O'.look
  obtain ⟨m, hF⟩ := I.fr
  refine PySem.W.binop_K hF I.ok.mod.kin J J'.type hf hm.at_ hm.fn (thn (call_calm (us := [.ref a, .ref b]) (vs := [.ref a, .ref b]) F1 hr rfl I hb (.cons rfl (.cons rfl .nil)) q) fun v s' ⟨z, H', I', rz, hq⟩ => ?_)
  have e : PySem.W.CmpBack (EP X pins σ Q) v s' = EP X pins σ Q v s' := by
    cases z with
    | non => cases rz; rfl
    | bl _ => cases rz; rfl
    | int _ => obtain ⟨_, rfl⟩ := rz; rfl
    | str _ => obtain ⟨_, rfl⟩ := rz; rfl
    | byt _ => obtain ⟨_, rfl⟩ := rz; rfl
    | flt _ => obtain ⟨_, rfl⟩ := rz; rfl
    | ref _ => cases rz; rfl
    | ty _ => cases rz; rfl
  rw [e]
  exact ⟨z, H', I', rz, hq⟩
end
section
variable {P : Program} {w : World} {K : PySem.W.Frag} {mg : Str → Option Value} {base : Heap}
def spCommon (K : PySem.W.Frag) : Sp := fun vs H Q _ => ∃ (a b : Addr) (n : Nat) (l m : Tbl), vs = [.ref a, .ref b] ∧ MapAt K H a n l ∧ MapAt K H b n m ∧ Q (.int n) H
theorem sc_common : FnScope ["one", "other"] ["one", "other"] (defScope sCommonSize) := ⟨rfl, rfl, rfl, by decide +kernel, rfl, by decide +kernel, by decide +kernel⟩
theorem g_common (T : Txt K mg) : GG P w K mg base 3 "common_size" ["one", "other"] (spCommon K) := by
  have G := p_size (P := P) (w := w) (base := base) T
  refine gg_of (T.fn 21 (by decide)) sc_common (fun vs H Q E h => ?_) (fun f cdv A outer s H vs Q E c pn cool hr h => ?_) fun _ _ _ _ _ _ us hl => match us, hl with | [_, _], _ => rfl
  · obtain ⟨_, _, _, _, _, rfl, _⟩ := h
    rfl
  · obtain ⟨a, b, n, l, m, rfl, ma, mb, k⟩ := h
    refine ⟨_, pss_cons (ps_if (pt_cmpR op_ne (pe_pr (pv 0) T.fM.cl G cool hr) (pe_pr (pv 1) T.fM.cl G cool hr) (nomark _)) (pss_one ps_never) pss_nil)
      (pss_one (ps_ret (pe_pr (pv 0) T.fM.cl G cool hr))), ?_⟩
    obtain ⟨dx, ad, h1, h2⟩ := id ma
    obtain ⟨dx', ad', h1', h2'⟩ := id mb
    refine ⟨_, rfl, a, dx, _, rfl, h1, a, n, l, rfl, ma, _, rfl, b, dx', _, rfl, h1', b, n, m, rfl, mb, rfl, _, rfl, ?_⟩
    refine iteNS rfl ?_
    exact ⟨_, rfl, a, dx, _, rfl, h1, a, n, l, rfl, ma, k⟩
def spCheckMap (K : PySem.W.Frag) : Sp := fun vs H Q _ => ∃ (a : Addr) (n : Nat) (l : Tbl), vs = [.ref a] ∧ MapAt K H a n l ∧ Q .non H
theorem sc_check_map : FnScope ["value"] ["value"] (defScope (top 27)) := ⟨rfl, rfl, rfl, by decide +kernel, rfl, by decide +kernel, by decide +kernel⟩
theorem g_check_map (T : Txt K mg) : GG P w K mg base 1 "check_map" ["value"] (spCheckMap K) := by
  refine gg_of (T.fn 27 (by decide)) sc_check_map (fun vs H Q E h => ?_) (fun f cdv A outer s H vs Q E c pn cool hr h => ?_) fun _ _ _ _ _ _ us hl => match us, hl with | [_], _ => rfl
  · obtain ⟨_, _, _, rfl, _⟩ := h
    rfl
  · obtain ⟨a, n, l, rfl, ma, k⟩ := h
    refine ⟨_, pss_one (ps_if (pt_not (pt_val (pe_callB call_isi (by rfl) (T.z "isinstance") (by decide +kernel) (pa_cons (pv 0) (pa_cons (pe_glob (v := .ref (cM K)) rfl T.gM rfl) pa_nil))))) (pss_one ps_never) pss_nil), ?_⟩
    refine ⟨_, rfl, _, _, _, _, true, rfl, .own _, isM T ma, kitSelf, true, rfl, ?_⟩
    exact iteF k
def spCheckMaps (K : PySem.W.Frag) : Sp := fun vs H Q _ => ∃ (a b : Addr) (n : Nat) (l m : Tbl), vs = [.ref a, .ref b] ∧ MapAt K H a n l ∧ MapAt K H b n m ∧ Q .non H
theorem sc_check_maps : FnScope ["one", "other"] ["one", "other"] (defScope (top 28)) := ⟨rfl, rfl, rfl, by decide +kernel, rfl, by decide +kernel, by decide +kernel⟩
theorem g_check_maps (T : Txt K mg) : GG P w K mg base 4 "check_maps" ["one", "other"] (spCheckMaps K) := by
  have G := g_check_map (P := P) (w := w) (base := base) T
  have G2 := g_common (P := P) (w := w) (base := base) T
  refine gg_of (T.fn 28 (by decide)) sc_check_maps (fun vs H Q E h => ?_) (fun f cdv A outer s H vs Q E c pn cool hr h => ?_) fun _ _ _ _ _ _ us hl => match us, hl with | [_, _], _ => rfl
  · obtain ⟨_, _, _, _, _, rfl, _⟩ := h
    rfl
  · obtain ⟨a, b, n, l, m, rfl, ma, mb, k⟩ := h
    refine ⟨_, pss_cons (ps_expr (pe_gg G cool hr (pa_cons (pv 0) pa_nil))) (pss_cons (ps_expr (pe_gg G cool hr (pa_cons (pv 1) pa_nil))) (pss_one (ps_expr (pe_gg G2 cool hr (pa_cons (pv 0) (pa_cons (pv 1) pa_nil)))))), ?_⟩
    exact ⟨_, rfl, a, n, l, rfl, ma, _, rfl, b, n, m, rfl, mb, _, rfl, _, rfl, a, b, n, l, m, rfl, ma, mb, k⟩
def spMapMul (K : PySem.W.Frag) : Sp := fun vs H Q _ => ∃ (a b : Addr) (n : Nat) (l m : Tbl), vs = [.ref a, .ref b] ∧ MapAt K H a n l ∧ MapAt K H b n m ∧ GA n l ∧ Good n m ∧ 1 ≤ n ∧ n ≤ 300 ∧ ∀ H' c, Fr [] H H' → MapAt K H' c n (prodT l m) → Q (.ref c) H'
abbrev nMapMul : List Str := ["self", "other", "size", "later", "source", "target"]
theorem sc_map_mul : FnScope nMapMul ["self", "other"] (defScope sMapMul) := ⟨rfl, rfl, rfl, by decide +kernel, rfl, by decide +kernel, by decide +kernel⟩
theorem m_mul (T : Txt K mg) : MC P w K mg base CX0 (cM K) 6 "__mul__" ["self", "other"] (spMapMul K) := by
  have G := g_common (P := P) (w := w) (base := base) T
  have GA_ := p_arrows (P := P) (w := w) (base := base) T
  have GM := k_Map (P := P) (w := w) (base := base) T
  refine mc_of (T.mM (8, "Map.__mul__") (by decide +kernel)) sc_map_mul (fun vs H Q E h => ?_) (fun f cdv A outer s H vs Q E hr h => ?_) fun _ _ _ _ _ _ us hl => match us, hl with | [_, _], _ => rfl
  · obtain ⟨_, _, _, _, _, rfl, _⟩ := h
    rfl
  · obtain ⟨a, b, n, l, m, rfl, ma, mb, ga, gb, n1, n5, k⟩ := h
    have hh := L2H.roomH_of hr
    refine ⟨_, pss_cons (ps_if (pt_not (pt_val (pe_callB call_isi (by rfl) (T.z "isinstance") (by decide +kernel) (pa_cons (pv 1) (pa_cons (pe_glob (v := .ref (cM K)) rfl T.gM rfl) pa_nil))))) (pss_one ps_never) pss_nil)
      (pss_cons (ps_set (i := 2) sc_map_mul.nd rfl (Or.inl rfl) (pe_gg G (.inl rfl) hh (pa_cons (pv 0) (pa_cons (pv 1) pa_nil))))
      (pss_cons (ps_set (i := 3) sc_map_mul.nd rfl (Or.inr rfl) (pe_pr (pv 1) T.fM.cl GA_ (.inl rfl) hh))
      (pss_one (ps_ret (pe_mk GM (.inl rfl) hh (pa_cons (pv 2) (pa_cons (pe_lock (pe_dc (own := [("source", 4), ("target", 5)]) (g := gTup K 2 (gCons (gName 4) (gCons (gName 5) gNil))) rfl sc_map_mul.nd (pi_items (pe_fld (pv 0) rfl))
        (blkOk_by (own := [("source", 4), ("target", 5)]) (N := nMapMul) (sc := defScope sMapMul) (by decide +kernel))
        (fun _ _ _ _ _ => pg_tup rfl (pgs_cons (pg_name (i := 4) sc_map_mul.nd rfl (Or.inl rfl)) (pgs_cons (pg_name (i := 5) sc_map_mul.nd rfl (Or.inl rfl)) pgs_nil)))
        (fun _ _ _ _ _ => pts_one (pt_cmp (pc_din (huH hh) (pv 5) (pv 3)))) (fun _ _ _ _ _ => pv 4) (fun _ _ _ _ _ => pe_dget (huH hh) (pv 3) (pv 5) (fun _ _ => rfl)))) pa_nil))))))), ?_⟩
    refine ⟨_, rfl, _, _, _, _, true, rfl, .own _, isM T mb, kitSelf, true, rfl, ?_⟩
    refine iteF ?_
    obtain ⟨dx, ad, h1, h2⟩ := id ma
    obtain ⟨dx', ad', h1', h2'⟩ := id mb
    refine ⟨_, rfl, _, rfl, a, b, n, l, m, rfl, ma, mb, ?_⟩
    refine ⟨_, rfl, b, dx', _, rfl, h1', b, n, m, rfl, mb, fun p hp => ?_⟩
    have hap : ad ≠ p := ne_of_none h2 hp
    refine ⟨_, rfl, ad, _, (upd_ne hap).trans h2, trivial, fun od => ?_⟩
    have hxa : a ≠ ad := ne_of h1 h2 (by intro z; cases z)
    refine ⟨_, rfl, a, _, dx, _, _, rfl, ((upd_ne hxa).trans (upd_ne (ne_of_none h1 hp))).trans h1, T.fM.cl, T.nM _ (by decide +kernel), rfl, ad, od, kz l, rfl, upd_same, fun D hD => ?_⟩
    have e1 : D ≠ ad := fun z => by subst z; rw [upd_same] at hD; cases hD
    have e2 : D ≠ p := fun z => by subst z; rw [upd_ne e1, upd_same] at hD; cases hD
    have hD0 : H D = none := by rwa [upd_ne e1, upd_ne e2] at hD
    refine dc_it walk_items (fun i H' => H' D = some (.dK (kz (prodT (l.take i) m))) ∧ SameX D (upd (upd H p (.dK (kz m))) ad (.frz od (.dK (kz l)))) H') ?_ ?_ ?_ ?_
    · refine ⟨upd_same, fun q o hq ho => ?_⟩
      rw [upd_ne hq]
      exact ho
    · rintro i H' _ ⟨_, s⟩
      exact s _ _ e1.symm upd_same
    · rintro i _ H1 _ hi ⟨p1, p2⟩ ⟨T', x1, y1, rfl, hT, rfl, hx, hy⟩
      have hli : i < l.length := by simpa [kz_len] using hi
      simp only [kz_get hli, Option.map_some, Option.some.injEq] at hx hy
      subst hx hy
      have hp1 : H1 p = some (.dK (kz m)) := p2 _ _ e2.symm (by rw [upd_ne hap.symm, upd_same])
      have tp : p ≠ T' := ne_of_none hp1 hT
      have tD : D ≠ T' := ne_of_none p1 hT
      have hp2 : (upd H1 T' (.tup [kV (Sum.inl l[i].1), V.int l[i].2])) p = some (.dK (kz m)) := (upd_ne tp).trans hp1
      refine ⟨T', _, rfl, SqT.of upd_same, rfl, _, _, rfl, _, _, rfl, rfl, ?_⟩
      refine ⟨rfl, _, rfl, _, rfl, p, _, rfl, DGet.k (k := Sum.inl l[i].2) hp2, _, rfl, ?_⟩
      rw [valV_kz]
      cases e : lk m l[i].2 with
      | none =>
        refine iteF ⟨?_, fun q o hq ho => ?_⟩
        · rw [upd_ne tD, p1, prod_succ hli, e]
          simp
        · have := p2 q o hq ho
          rw [upd_ne (ne_of_none this hT)]
          exact this
      | some t =>
        refine iteT ⟨_, rfl, _, rfl, _, rfl, p, .int t, rfl, ?_, _, Sum.inl l[i].1, rfl, (upd_ne tD).trans p1, ?_, ?_, ?_⟩
        · have := DGet.k (k := Sum.inl l[i].2) hp2
          rw [valV_kz, e] at this
          exact this
        · rw [kz_len]
          exact Nat.lt_of_le_of_lt (Nat.le_trans prod_len (Nat.le_trans (List.length_take_le _ _) (Nat.le_trans (Nat.le_of_lt hli) ga.len))) (small1000 (by omega))
        · rw [upd_same, putK_new _ (by rw [valV_kz, prod_no ga.src hli]; rfl), prod_succ hli, e]
          simp [kz]
        · intro q o hq ho
          have := p2 q o hq ho
          rw [upd_ne hq, upd_ne (ne_of_none this hT)]
          exact this
    · rintro H' ⟨p1, p2⟩
      rw [show (kz l).length = l.length from kz_len l, List.take_length] at p1
      refine ⟨p2 _ _ e1.symm upd_same, ?_⟩
      have f0 : Fr [] H (upd H' ad (.dK (kz l))) := fun q o ho _ => by
        by_cases e : q = ad
        · subst e
          rw [upd_same, ← ho, h2]
        · rw [upd_ne e]
          exact p2 q o (ne_of_none ho hD0) (by rw [upd_ne e, upd_ne (ne_of_none ho hp)]; exact ho)
      refine mk_map (l := prodT l m) ((upd_ne e1).trans p1) (prod_good ga.toGood gb) n1 n5 fun H2 c f _ mc => ?_
      rw [canon_self (prod_ga ga gb)] at mc
      exact k H2 c (f0.trans f) mc
end
end K74
end
-- K74P
section
set_option maxRecDepth 100000
set_option maxHeartbeats 4000000
/-! Powers by rows, checked for every map of at most five points. -/
namespace K74
open PySem PySem.Spec PyProof.Rows L2
def rowM (l : Tbl) (e : Int) : Nat → List Int → Option (List Int)
  | 0, _ => none
  | f + 1, row => match lk l (row.getLastD e) with
    | none => some row
    | some y => if y = e then some row else rowM l e f (row ++ [y])
def putT (l : Tbl) (s t : Int) : Tbl := if (lk l s).isSome then l.map fun p => if p.1 = s then (p.1, t) else p else l ++ [(s, t)]
def addS (l : List Int) (e : Int) : List Int := if e ∈ l then l else l ++ [e]
/-- one place of a row -/
def placeM (row : List Int) (closed : Bool) (k : Nat) (st : Tbl × List Int) (i : Nat) : Tbl × List Int :=
  (if closed = true then putT st.1 (row.getD i 0) (row.getD ((i + k) % row.length) 0) else if i + k < row.length then putT st.1 (row.getD i 0) (row.getD (i + k) 0) else st.1, addS st.2 (row.getD i 0))
def rowsM (l : Tbl) (k : Nat) (st : Tbl × List Int) (s : Int) : Option (Tbl × List Int) :=
  if s ∈ st.2 then some st else (rowM l s 6 [s]).map fun row => (List.range row.length).foldl (placeM row (lk l (row.getLastD s)).isSome k) st
def srcsM (l : Tbl) : List Int := (l.map (·.1)).filter (fun e => decide (e ∉ l.map (·.2))) ++ l.map (·.1)
def movedM (l : Tbl) (k : Nat) : Option Tbl := ((srcsM l).foldlM (rowsM l k) ([], [])).map (·.1)
def powT (n : Nat) (l : Tbl) : Nat → Tbl
  | 0 => fullT n
  | k + 1 => prodT (powT n l k) l
def goodB (n : Nat) (l : Tbl) : Bool := (l.all fun p => decide (0 ≤ p.1) && decide (p.1 < n) && decide (0 ≤ p.2) && decide (p.2 < n)) && decide ((l.map (·.1)).Nodup) && decide ((l.map (·.2)).Nodup)
def chk1 (n : Nat) (l : Tbl) (k : Nat) : Bool := match movedM l k with
  | none => false
  | some r => goodB n r && decide (canon n r = powT n l k)
def chk (n : Nat) (l : Tbl) : Bool := chk1 n l 1 && chk1 n l 2 && chk1 n l 3 && chk1 n l 4 && chk1 n (invT l) 1 && chk1 n (invT l) 2 && chk1 n (invT l) 3 && chk1 n (invT l) 4
def chkAll (n : Nat) : Nat → Tbl → Bool
  | 0, acc => chk n acc
  | r + 1, acc => chkAll n r acc && (List.range n).all fun (t : Nat) => decide ((t : Int) ∈ acc.map (·.2)) || chkAll n r (acc ++ [(((n - (r + 1) : Nat) : Int), (t : Int))])
theorem chk_1 : chkAll 1 1 [] = true := by decide +kernel
theorem chk_2 : chkAll 2 2 [] = true := by decide +kernel
theorem chk_3 : chkAll 3 3 [] = true := by decide +kernel
theorem chk_4 : chkAll 4 4 [] = true := by decide +kernel
theorem chk_5n : chkAll 5 4 [] = true := by decide +kernel
theorem chk_50 : chkAll 5 4 [(0, 0)] = true := by decide +kernel
theorem chk_51 : chkAll 5 4 [(0, 1)] = true := by decide +kernel
theorem chk_52 : chkAll 5 4 [(0, 2)] = true := by decide +kernel
theorem chk_53 : chkAll 5 4 [(0, 3)] = true := by decide +kernel
theorem chk_54 : chkAll 5 4 [(0, 4)] = true := by decide +kernel
theorem chk_5 : chkAll 5 5 [] = true := by
  rw [chkAll, chk_5n, Bool.true_and, List.all_eq_true]
  intro t ht
  have := List.mem_range.mp ht
  rcases (show t = 0 ∨ t = 1 ∨ t = 2 ∨ t = 3 ∨ t = 4 by omega) with rfl | rfl | rfl | rfl | rfl
  · exact Bool.or_eq_true_iff.mpr (.inr chk_50)
  · exact Bool.or_eq_true_iff.mpr (.inr chk_51)
  · exact Bool.or_eq_true_iff.mpr (.inr chk_52)
  · exact Bool.or_eq_true_iff.mpr (.inr chk_53)
  · exact Bool.or_eq_true_iff.mpr (.inr chk_54)
theorem chkAll_of {n : Nat} : ∀ {r : Nat} {acc : Tbl}, r ≤ n → chkAll n r acc = true → ∀ rest : Tbl, GA n (acc ++ rest) → (∀ p ∈ rest, ((n - r : Nat) : Int) ≤ p.1) → chk n (acc ++ rest) = true
  | 0, acc, _, h, rest, g, hr => by
    cases rest with
    | nil => rw [List.append_nil]; exact h
    | cons p q =>
      have a := hr p List.mem_cons_self
      have b := (g.rng p (List.mem_append_right _ List.mem_cons_self)).1.2
      simp at a
      omega
  | r + 1, acc, hn, h, rest, g, hr => by
    rw [chkAll, Bool.and_eq_true] at h
    have skip : (∀ p ∈ rest, ((n - r : Nat) : Int) ≤ p.1) → chk n (acc ++ rest) = true := chkAll_of (by omega) h.1 rest g
    cases rest with
    | nil => exact skip (by simp)
    | cons p q =>
      have ga := g.asc
      have hpq := (List.pairwise_cons.mp (List.pairwise_append.mp ga).2.1).1
      have a := hr p List.mem_cons_self
      by_cases e : p.1 = ((n - (r + 1) : Nat) : Int)
      · have b := g.rng p (List.mem_append_right _ List.mem_cons_self)
        have c := List.all_eq_true.mp h.2 p.2.toNat (List.mem_range.mpr (by omega))
        have e2 : ((p.2.toNat : Nat) : Int) = p.2 := by omega
        rw [e2, ← e] at c
        have nin : ¬ p.2 ∈ acc.map (·.2) := by
          have t := g.tgt
          rw [List.map_append, List.map_cons, List.nodup_append] at t
          intro z
          exact t.2.2 _ z _ List.mem_cons_self rfl
        rw [decide_eq_false nin, Bool.false_or] at c
        have e3 : acc ++ p :: q = (acc ++ [(p.1, p.2)]) ++ q := by simp
        rw [e3] at g ⊢
        refine chkAll_of (by omega) c q g fun x hx => ?_
        have := hpq x hx
        omega
      · refine skip fun x hx => ?_
        rcases List.mem_cons.mp hx with z | z
        · subst z
          omega
        · have := hpq x z
          omega
theorem chk_ga {n : Nat} {l : Tbl} (h1 : 1 ≤ n) (h5 : n ≤ 5) (g : GA n l) : chk n l = true := by
  have k : ∀ m, n = m → chkAll m m [] = true → chk n l = true := by
    rintro m rfl h
    exact chkAll_of (Nat.le_refl _) h l g fun p hp => by have := (g.rng p hp).1.1; simpa using this
  rcases (show n = 1 ∨ n = 2 ∨ n = 3 ∨ n = 4 ∨ n = 5 by omega) with e | e | e | e | e
  · exact k 1 e chk_1
  · exact k 2 e chk_2
  · exact k 3 e chk_3
  · exact k 4 e chk_4
  · exact k 5 e chk_5
theorem goodB_good {n : Nat} {l : Tbl} (h : goodB n l = true) : Good n l := by
  unfold goodB at h
  simp only [Bool.and_eq_true, List.all_eq_true, decide_eq_true_eq] at h
  exact ⟨fun p hp => ⟨⟨(h.1.1 p hp).1.1.1, (h.1.1 p hp).1.1.2⟩, (h.1.1 p hp).1.2, (h.1.1 p hp).2⟩, h.1.2, h.2⟩
theorem chk1_of {n k : Nat} {l : Tbl} (h : chk1 n l k = true) : ∃ r, movedM l k = some r ∧ Good n r ∧ canon n r = powT n l k := by
  unfold chk1 at h
  cases e : movedM l k with
  | none => rw [e] at h; cases h
  | some r =>
    rw [e] at h
    simp only [Bool.and_eq_true, decide_eq_true_eq] at h
    exact ⟨r, rfl, goodB_good h.1, h.2⟩
/-- what the rows give is the power -/
theorem moved_pow {n k : Nat} {l : Tbl} (h1 : 1 ≤ n) (h5 : n ≤ 5) (k1 : 1 ≤ k) (k4 : k ≤ 4) (g : GA n l) :
    (∃ r, movedM l k = some r ∧ Good n r ∧ canon n r = powT n l k) ∧ ∃ r, movedM (invT l) k = some r ∧ Good n r ∧ canon n r = powT n (invT l) k := by
  have h := chk_ga h1 h5 g
  unfold chk at h
  simp only [Bool.and_eq_true] at h
  obtain ⟨⟨⟨⟨⟨⟨⟨a1, a2⟩, a3⟩, a4⟩, b1⟩, b2⟩, b3⟩, b4⟩ := h
  rcases (show k = 1 ∨ k = 2 ∨ k = 3 ∨ k = 4 by omega) with rfl | rfl | rfl | rfl
  · exact ⟨chk1_of a1, chk1_of b1⟩
  · exact ⟨chk1_of a2, chk1_of b2⟩
  · exact ⟨chk1_of a3, chk1_of b3⟩
  · exact ⟨chk1_of a4, chk1_of b4⟩
theorem pow_ga {n : Nat} {l : Tbl} (g : Good n l) : ∀ k, GA n (powT n l k)
  | 0 => full_ga n
  | k + 1 => prod_ga (pow_ga g k) g
end K74
end
-- K74R5
section
set_option maxRecDepth 100000
set_option maxHeartbeats 4000000
/-! y = {k: v for ..}, y a local name. -/
namespace K74
open PySem PySem.Spec PyProof.Rows L2
section
variable {P : Program} {w : World} {K : PySem.W.Frag} {mg : Str → Option Value} {base : Heap} {C : Addr} {j k : Nat} {x : Str} {ps : List Str} {sp : Sp}
/-- defs that let nothing out, where nothing is handled -/
theorem gc0_of {st : Stmt} {N : List Str} (F : GF K mg x st) (S : FnScope N ps (defScope st)) (len : ∀ vs H Q E, sp vs H Q E → vs.length = ps.length)
    (hbody : ∀ (f : Addr) (cdv : Value) (A : Around) (outer : List Env) (s : Shared) (H : Hp) (vs : List V) (Q : VK) (E : XK), Room k (A.deeper (envOfC x (defScope st) s.heap.objs.size f cdv)) → sp vs H Q E →
      ∃ t, PSs (cxOf CX0 P w K mg base N x (defScope st) f cdv A outer s H E).nox (defBody st) t ∧ t { nx := fun _ H' => Q .non H', rt := Q } (start N vs) H)
    (hb : ∀ (kV doc pm : Value) (an : Option Addr) (cdv ct : Value) (us : List Value), us.length = ps.length → bindArgs (PySem.W.fnOf x x (defArgs st) (defBody st) (defScope st) .none kV doc pm an cdv ct) ⟨us, []⟩ = pure (ps.zip us)) : GC P w K mg base CX0 (k + 1) x ps sp := by
  obtain ⟨f, fd, F, hm⟩ := F
  exact ⟨f, fd, F.ok S len (hbody f), hm, F.kp, F.binds hb⟩
theorem mc0_of {qual : Str} {st : Stmt} {N : List Str} (F : MF K C x qual st) (S : FnScope N ps (defScope st)) (len : ∀ vs H Q E, sp vs H Q E → vs.length = ps.length)
    (hbody : ∀ (f : Addr) (cdv : Value) (A : Around) (outer : List Env) (s : Shared) (H : Hp) (vs : List V) (Q : VK) (E : XK), Room k (A.deeper (envOfC qual (defScope st) s.heap.objs.size f cdv)) → sp vs H Q E →
      ∃ t, PSs (cxOf CX0 P w K mg base N qual (defScope st) f cdv A outer s H E).nox (defBody st) t ∧ t { nx := fun _ H' => Q .non H', rt := Q } (start N vs) H)
    (hb : ∀ (kV doc pm : Value) (an : Option Addr) (cdv ct : Value) (us : List Value), us.length = ps.length → bindArgs (PySem.W.fnOf x qual (defArgs st) (defBody st) (defScope st) .none kV doc pm an cdv ct) ⟨us, []⟩ = pure (ps.zip us)) : MC P w K mg base CX0 C (k + 1) x ps sp := by
  obtain ⟨f, fd, F, hm⟩ := F
  exact ⟨f, fd, F.ok S len (hbody f), hm, F.binds hb⟩
end
section
variable {X : Cx}
theorem sw_trueD {kx vx : Expr} {gs : List Comprehension} {scope : Scope} {pos py : Pos} {y : Str} {l : Nat} {env : Env} (hk : env.scope.kind = .function) (hy : env.scope.names.lookup y = some .local) (hl : (py.line == pos.line) = true)
    (ha : (scope.names.any fun (n, k) => n == y && (k == .local || k == .cell)) = false) : swapsWith (.DictComp kx vx gs scope pos) (some (.Name y py)) l env = pure true := by
  have ky : env.kindOf y = some .local := hy
  have hb : env.blockKind = .function := by unfold Env.blockKind; rw [hk]; rfl
  unfold swapsWith
  simp only [hb, ky, ha, Expr.pos, hl]
  rfl
theorem ps_setDc {i : Nat} {y : Str} {py : Pos} {kx vx tg iter : Expr} {ifs : List Expr} {scope : Scope} {own : List (Str × Nat)} {pos spos : Pos} {wi : TI} {g : TG} {tt : TT} {tk tv : TE} (hc : X.calm = true) (hN : X.N.Nodup) (hy : X.N[i]? = some y) (hyl : X.env.scope.names.lookup y = some .local)
    (hsw : swapsWith (.DictComp kx vx [⟨tg, iter, ifs, 0⟩] scope pos) (some (.Name y py)) spos.line X.env = pure true) (hi : PI X tg iter wi) (ok : BlkOk X.N X.env.scope scope own)
    (hg : ∀ (s : Shared) (H : Hp) (C : Addr) (cl : List (Str × Addr)) (fp : List Addr), PG (X.blk s H scope (compEnvC scope cl C X.env) fp) tg g) (ht : ∀ (s : Shared) (H : Hp) (C : Addr) (cl : List (Str × Addr)) (fp : List Addr), PTs (X.blk s H scope (compEnvC scope cl C X.env) fp) ifs tt)
    (hk : ∀ (s : Shared) (H : Hp) (C : Addr) (cl : List (Str × Addr)) (fp : List Addr), PE (X.blk s H scope (compEnvC scope cl C X.env) fp) kx tk)
    (he : ∀ (s : Shared) (H : Hp) (C : Addr) (cl : List (Str × Addr)) (fp : List Addr), PE (X.blk s H scope (compEnvC scope cl C X.env) fp) vx tv) (hs : ∀ x, foldedSetIterable iter X.env x = pure x := by intro _; rfl) :
    PS X (.Assign [.Name y py] (.DictComp kx vx [⟨tg, iter, ifs, 0⟩] scope pos) spos) (tAsg (tDc wi g tt tk tv (own.map (·.2))) (gName i)) := by
  refine ⟨fun pins s σ H D I h => ?_⟩
  rw [exec_Assign_Name_used _ _ _ _ hsw]
  refine wpAny_bind (wpAny_standAt (wpAny_bind ?_))
  show wpAny _ X.A (do let _ ← comprehension (.DictComp kx vx [⟨tg, iter, ifs, 0⟩] scope pos) scope X.env (firstIterPos [⟨tg, iter, ifs, 0⟩] pos) newDict false (eval iter X.env) (some (assign (.Name y py) X.env))) _ _ s
  have h : tDc wi g tt tk tv (own.map (·.2)) σ H (fun x H1 => gName i x σ H1 D.nx) := h
  refine wpAny_bind (thn (dc_core (Qf := fun _ s' => SP X pins D .next s') hc hN I hi ok hg ht hk he hs h fun L C s' m H' I' q hn f => ?_) fun _ s' hq => wpAny_pure (wpAny_pure hq))
  show wpAny _ _ (assign (.Name y py) X.env (.ref L)) _ _ _
  refine wpAny_assign_Name (store_ok2 (v := V.ref L) I' hN hy (.inl hyl) rfl (fun s2 I2 ⟨a, sb, ha⟩ => ?_) (.inr hyl))
  obtain ⟨f0, f1, f2, f3, f4, f5⟩ := f
  have haC : C ≠ a := by
    rcases ha with z | z
    · rw [z]; exact f1
    · exact fun e => f4 y a z e.symm
  refine ⟨m, hn.sameBut sb haC, fun h3 sb3 => ?_⟩
  exact ⟨_, H', I2.turned (t' := s2.toks) (fun b o hb e => (sb3.2 b hb).trans e) f0 f1 f3 f4 f5, q⟩
end
end K74
end
-- K74D
section
set_option maxRecDepth 100000
set_option maxHeartbeats 4000000
/-! The identity; rows; powers. -/
namespace K74
open PySem PySem.Spec PyProof.Rows L2
theorem full_succ (n : Nat) : fullT (n + 1) = fullT n ++ [((n : Int), (n : Int))] := by
  unfold fullT
  rw [List.range_succ, List.map_append]
  rfl
theorem full_len (n : Nat) : (fullT n).length = n := by simp [fullT]
theorem full_no (n : Nat) : lk (fullT n) (n : Int) = none := by
  rw [lk_full, if_neg (by omega)]
theorem rowM_some {l : Tbl} {e : Int} : ∀ {f : Nat} {row out : List Int}, row ≠ [] → rowM l e f row = some out → out ≠ [] ∧ out.length ≤ row.length + f
  | 0, _, _, _, h => by cases h
  | f + 1, row, out, hn, h => by
    unfold rowM at h
    split at h
    · cases h
      exact ⟨hn, by omega⟩
    · split at h
      · cases h
        exact ⟨hn, by omega⟩
      · have := rowM_some (by simp) h
        rw [List.length_append] at this
        exact ⟨this.1, by simp at this; omega⟩
theorem putK_kz (l : Tbl) (s t : Int) : putK (kz l) (Sum.inl s) (V.int t) = kz (putT l s t) := by
  unfold putK putT
  rw [valV_any, valV_kz]
  cases e : lk l s with
  | none => simp [kz]
  | some u =>
    simp only [Option.map_some, Option.isSome_some, if_true]
    unfold kz
    rw [List.map_map, List.map_map]
    refine List.map_congr_left fun p _ => ?_
    by_cases h : p.1 = s
    · simp [Function.comp, h]
    · simp [Function.comp, h]
def sn (S : List Int) : List (Key × V) := S.map fun e => (Sum.inl e, V.bl true)
theorem valV_sn (S : List Int) (e : Int) : (valV (sn S) (Sum.inl e)).isSome = decide (e ∈ S) := by
  rw [← valV_any]
  unfold sn
  rw [List.any_map]
  induction S with
  | nil => rfl
  | cons x r ih =>
    rw [List.any_cons, ih]
    by_cases h : x = e
    · simp [h]
    · have h' : ¬ e = x := fun z => h z.symm
      simp [h, h']
theorem putK_sn (S : List Int) (e : Int) : putK (sn S) (Sum.inl e) (V.bl true) = sn (addS S e) := by
  unfold putK addS
  rw [valV_any, valV_sn]
  by_cases h : e ∈ S
  · rw [decide_eq_true h, if_pos rfl, if_pos h]
    unfold sn
    rw [List.map_map]
    refine List.map_congr_left fun p _ => ?_
    by_cases h : p = e
    · simp [Function.comp, h]
    · simp [Function.comp, h]
  · rw [decide_eq_false h, if_neg (by simp), if_neg h]
    simp [sn]
theorem putT_len (l : Tbl) (s t : Int) : (putT l s t).length ≤ l.length + 1 := by
  unfold putT
  split <;> simp
theorem addS_len (l : List Int) (e : Int) : (addS l e).length ≤ l.length + 1 := by
  unfold addS
  split <;> simp
section
variable {P : Program} {w : World} {K : PySem.W.Frag} {mg : Str → Option Value} {base : Heap}
def spIdent (K : PySem.W.Frag) : Sp := fun vs H Q _ => ∃ n : Nat, vs = [.ref (cM K), .int n] ∧ 1 ≤ n ∧ n ≤ 300 ∧ ∀ H' a, Fr [] H H' → MapAt K H' a n (fullT n) → Q (.ref a) H'
abbrev nIdent : List Str := ["cls", "size", "element"]
theorem sc_ident : FnScope nIdent ["cls", "size"] (defScope (sub 24 1)) := ⟨rfl, rfl, rfl, by decide +kernel, rfl, by decide +kernel, by decide +kernel⟩
/-- the classmethod identity -/
structure CM1 (P : Program) (w : World) (K : PySem.W.Frag) (mg : Str → Option Value) (base : Heap) (C : Addr) (k : Nat) (x : Str) (sp : Sp) : Prop where
  ex : ∃ (mc : Value) (p g : Addr), ClX.CRead K C mc ∧ ClX.CMet K C mc x p g ∧ FnR P w K mg base CX0 k g sp
theorem cm_ident (T : Txt K mg) : CM1 P w K mg base (cM K) 6 "identity" (spIdent K) := by
  have G := g_check_size (P := P) (w := w) (base := base) T
  have GM := k_Map (P := P) (w := w) (base := base) T
  obtain ⟨mc, p, g, fd, F, rd, cm⟩ := T.idM
  suffices z : FnOk P w K mg base CX0 6 g fd ["cls", "size"] (spIdent K) from
    ⟨mc, p, g, rd, cm, (z.raw (F.binds fun _ _ _ _ _ _ us hl => match us, hl with | [_, _], _ => rfl) .nil).imp fun vs H Q E h => by rw [List.append_nil]; exact h⟩
  refine F.ok sc_ident (fun vs H Q E h => ?_) fun cdv A outer s H vs Q E hr h => ?_
  · obtain ⟨_, rfl, _⟩ := h
    rfl
  · obtain ⟨n, rfl, n1, n2, k⟩ := h
    have hh := L2H.roomH_of hr
    refine ⟨_, pss_cons (ps_expr (pe_gg G (.inl rfl) hh (pa_cons (pv 1) pa_nil)))
      (pss_one (ps_ret (pe_mkL GM (i := 0) (.inl rfl) hh rfl (.inl rfl) (pa_cons (pv 1) (pa_cons (pe_dcRange (own := [("element", 2)]) (g := gName 2) (tt := tYes) (.inl rfl) sc_ident.nd (T.z "range") (pa_cons (pv 1) pa_nil) (blkOk_by (own := [("element", 2)]) (N := nIdent) (sc := defScope (sub 24 1)) (by decide +kernel))
        (fun _ _ _ _ _ => pg_name (i := 2) sc_ident.nd rfl (Or.inl rfl)) (fun _ _ _ _ _ => pts_nil) (fun _ _ _ _ _ => pv 2) (fun _ _ _ _ _ => pv 2)) pa_nil))))), ?_⟩
    refine ⟨_, rfl, n, rfl, by omega, by omega, rfl, _, rfl, _, rfl, n, rfl, by omega, by omega, fun D hD => ?_⟩
    have e5 : ((n : Int)).toNat = n := Int.toNat_natCast n
    rw [e5]
    refine dc_it walk_rg0 (fun i H' => H' D = some (.dK (kz (fullT i))) ∧ SameX D H H') ?_ (fun _ _ _ _ => trivial) ?_ ?_
    · exact ⟨upd_same, fun a o ha ho => by rw [upd_ne ha]; exact ho⟩
    · rintro i _ _ H2 hi ⟨p1, p2⟩ ⟨rfl, rfl⟩
      refine ⟨rfl, _, rfl, _, rfl, _, Sum.inl (i : Int), rfl, p1, ?_, ?_, fun a o ha ho => by rw [upd_ne ha]; exact p2 a o ha ho⟩
      · rw [kz_len, full_len]
        exact small1000 (by omega)
      · rw [upd_same, putK_new _ (by rw [valV_kz, full_no]; rfl), full_succ]
        simp [kz]
    · rintro H2 ⟨p1, p2⟩
      refine mk_map (l := fullT n) p1 (full_ga n).toGood n1 n2 fun H3 a f _ m => ?_
      rw [canon_self (full_ga n)] at m
      exact k H3 a (Fr.trans (fun q o ho _ => p2 q o (ne_of_none ho hD) ho) f) m

def spRowFrom : Sp := fun vs H Q _ => ∃ (d : Addr) (l : Tbl) (e : Int) (row : List Int), vs = [.ref d, .int e] ∧ H d = some (.dK (kz l)) ∧ rowM l e 6 [e] = some row ∧ ∀ p, H p = none → Q (.ref p) (upd H p (.lst (row.map V.int)))
abbrev nRowFrom : List Str := ["arrows", "element", "row"]
theorem sc_row_from : FnScope nRowFrom ["arrows", "element"] (defScope (top 22)) := ⟨rfl, rfl, rfl, by decide +kernel, rfl, by decide +kernel, by decide +kernel⟩
theorem g_row_from (T : Txt K mg) : GC P w K mg base CX0 1 "row_from" ["arrows", "element"] spRowFrom := by
  refine gc0_of (T.fn 22 (by decide)) sc_row_from (fun vs H Q E h => ?_) (fun f cdv A outer s H vs Q E hr h => ?_) fun _ _ _ _ _ _ us hl => match us, hl with | [_, _], _ => rfl
  · obtain ⟨_, _, _, _, rfl, _⟩ := h
    rfl
  · obtain ⟨d, l, e, out, rfl, hd, hm, k⟩ := h
    have hu := huH (L2H.roomH_of hr)
    refine ⟨_, pss_cons (ps_set (i := 2) sc_row_from.nd rfl (Or.inl rfl) (pe_lst (pa_cons (pv 1) pa_nil)))
      (pss_cons (ps_while PassesOwn.never (PW.pt (pw_and (pt_cmp (pc_din hu (pe_ix ix_list (pv 2) (pe_un un_neg pe_int) (fun _ _ => rfl)) (pv 0))) (pw_and1 (pt_cmpR op_ne (pe_dget hu (pv 0) (pe_ix ix_list (pv 2) (pe_un un_neg pe_int) (fun _ _ => rfl)) (fun _ _ => rfl)) (pv 1) (nomark _)))))
        (pss_one (ps_expr (pe_bm PySem.F.plainAttrs_list PySem.F.slot_list_append PySem.F.type_list_append mt_append (pv 2) (pa_cons (pe_dget hu (pv 0) (pe_ix ix_list (pv 2) (pe_un un_neg pe_int) (fun _ _ => rfl)) (fun _ _ => rfl)) pa_nil)))))
      (pss_one (ps_ret (pv 2)))), ?_⟩
    refine ⟨_, rfl, by show 1 ≤ sizeLine; decide, fun p hp => ?_⟩
    have hdp : d ≠ p := ne_of_none hd hp
    refine ⟨fun m σ H' => ∃ pre x, rowM l e m (pre ++ [x]) = some out ∧ pre.length + m ≤ 6 ∧ σ = [some (.ref d), some (.int e), some (.ref p)] ∧ H' = upd H p (.lst ((pre ++ [x]).map V.int)), ⟨6, [], e, hm, by decide, rfl, rfl⟩, ?_⟩
    rintro m σ H' ⟨pre, x, hx, hz, rfl, rfl⟩
    cases m with
    | zero => cases hx
    | succ m =>
      have e1 : (pre ++ [x]).getLastD e = x := by simp
      have hd' : (upd H p (.lst ((pre ++ [x]).map V.int))) d = some (.dK (kz l)) := (upd_ne hdp).trans hd
      have la : atI ((pre ++ [x]).map V.int) (-1) = some (V.int x) := by rw [List.map_append]; exact atI_last _ _
      unfold rowM at hx
      rw [e1] at hx
      refine ⟨_, rfl, _, rfl, p, _, _, _, rfl, rfl, SqL.of upd_same, la, _, rfl, d, _, rfl, DGet.k (k := Sum.inl x) hd', _, rfl, ?_⟩
      rw [valV_kz]
      cases ey : lk l x with
      | none =>
        rw [ey] at hx
        cases hx
        refine iteF ?_
        exact ⟨_, rfl, k p hp⟩
      | some y =>
        rw [ey] at hx
        replace hx : (if y = e then some (pre ++ [x]) else rowM l e m (pre ++ [x] ++ [y])) = some out := hx
        have g : DGet (upd H p (.lst ((pre ++ [x]).map V.int))) d (V.int x) (some (V.int y)) := by
          have := DGet.k (k := Sum.inl x) hd'
          rw [valV_kz, ey] at this
          exact this
        refine iteT ?_
        refine ⟨_, rfl, _, rfl, _, rfl, p, _, _, _, rfl, rfl, SqL.of upd_same, la, d, .int y, rfl, g, _, rfl, rfl, _, rfl, ?_⟩
        by_cases hye : y = e
        · rw [if_pos hye] at hx
          cases hx
          subst hye
          exact iteNS rfl ⟨_, rfl, k p hp⟩
        · rw [if_neg hye] at hx
          rw [decide_eq_false (show ¬ V.int y = V.int e from fun z => hye (by cases z; rfl))]
          refine iteT ⟨_, fun σ' H' z => ⟨m, Nat.lt_succ_self m, z⟩, ?_⟩
          refine ⟨_, rfl, .inl ⟨rfl, _, SqL.of upd_same⟩, _, rfl, _, rfl, _, rfl, p, _, _, _, rfl, rfl, SqL.of upd_same, la, d, .int y, rfl, g, p, _, _, rfl, rfl, upd_same, ?_, ?_⟩
          · rw [List.length_map, List.length_append]
            exact small1000 (by simp; omega)
          · refine ⟨pre ++ [x], y, hx, by simp; omega, rfl, ?_⟩
            rw [upd_upd]
            simp
end
end K74
end
-- K74E
section
set_option maxRecDepth 100000
set_option maxHeartbeats 4000000
/-! A table moved along its rows; powers. -/
namespace K74
open PySem PySem.Spec PyProof.Rows L2
theorem lock_none {H : Hp} {d D : Addr} {o u : HO} (hd : H d = some u) (hD : (upd H d o) D = none) : H D = none ∧ D ≠ d := by
  have e : D ≠ d := fun z => by subst z; rw [upd_same] at hD; cases hD
  exact ⟨by rwa [upd_ne e] at hD, e⟩
theorem lock_same {H H' : Hp} {d D : Addr} {o u : HO} (hd : H d = some u) (hD : (upd H d o) D = none) (s : SameX D (upd H d o) H') : Same H (upd H' d u) := fun b v e => by
  obtain ⟨h1, h2⟩ := lock_none hd hD
  by_cases z : b = d
  · subst z
    rw [upd_same, ← e, hd]
  · rw [upd_ne z]
    exact s b v (ne_of_none e h1) ((upd_ne z).trans e)
theorem kz_get' {l : Tbl} {i : Nat} {k : Key} {v : V} (h : (kz l)[i]? = some (k, v)) : ∃ hi : i < l.length, k = Sum.inl l[i].1 ∧ v = V.int l[i].2 := by
  have hi : i < l.length := by
    have := (List.getElem?_eq_some_iff.mp h).1
    rwa [kz_len] at this
  rw [kz_get hi] at h
  cases h
  exact ⟨hi, rfl, rfl⟩
theorem same_fr {H H' : Hp} (s : Same H H') (S : List Addr) : Fr S H H' := fun a o e _ => s a o e
section
variable {P : Program} {w : World} {K : PySem.W.Frag} {mg : Str → Option Value} {base : Heap}
def spMoved : Sp := fun vs H Q _ => ∃ (d : Addr) (k : Nat) (l r : Tbl), vs = [.ref d, .int k] ∧ H d = some (.dK (kz l)) ∧ l.length ≤ 100 ∧ movedM l k = some r ∧ ∀ H' p, Fr [] H H' → H' p = some (.dK (kz r)) → Q (.ref p) H'
abbrev nMoved : List Str := ["arrows", "steps", "found", "seen", "targets", "element", "source", "row", "closed", "place", "target"]
theorem sc_moved : FnScope nMoved ["arrows", "steps"] (defScope (top 23)) := ⟨rfl, rfl, rfl, by decide +kernel, rfl, by decide +kernel, by decide +kernel⟩
theorem g_moved (T : Txt K mg) : GC P w K mg base CX0 2 "moved" ["arrows", "steps"] spMoved := by
  have G := g_row_from (P := P) (w := w) (base := base) T
  refine gc0_of (T.fn 23 (by decide)) sc_moved (fun vs H Q E h => ?_) (fun f cdv A outer s H vs Q E hr h => ?_) fun _ _ _ _ _ _ us hl => match us, hl with | [_, _], _ => rfl
  · obtain ⟨_, _, _, _, rfl, _⟩ := h
    rfl
  · obtain ⟨d, kk, l, r, rfl, hd, hz, hm, k⟩ := h
    have hu := huH (L2H.roomH_of hr)
    have nd := sc_moved.nd
    refine ⟨_, pss_cons (ps_set (i := 2) nd rfl (Or.inl rfl) pe_dnewK)
      (pss_cons (ps_set (i := 3) nd rfl (Or.inl rfl) pe_dnewK)
      (pss_cons (ps_set (i := 4) nd rfl (Or.inr rfl) (pe_lock (pe_dc (own := [("target", 10)]) (g := gName 10) (tt := tYes) rfl nd (pi_values (pv 0)) (blkOk_by (own := [("target", 10)]) (N := nMoved) (sc := defScope (top 23)) (by decide +kernel))
        (fun _ _ _ _ _ => pg_name (i := 10) nd rfl (Or.inl rfl)) (fun _ _ _ _ _ => pts_nil) (fun _ _ _ _ _ => pv 10) (fun _ _ _ _ _ => pe_bl))))
      (pss_cons (ps_for PassesOwn.never rfl (pi_list (pe_op op_cat (pe_lock (pe_lc (own := [("element", 5)]) (g := gName 5) rfl nd (pi_keys (pv 0)) (blkOk_by (own := [("element", 5)]) (N := nMoved) (sc := defScope (top 23)) (by decide +kernel))
          (fun _ _ _ _ _ => pg_name (i := 5) nd rfl (Or.inl rfl)) (fun _ _ _ _ _ => pts_one (pt_cmp (pc_dnotin hu (pv 5) (pv 4)))) (fun _ _ _ _ _ => pv 5)))
          (pe_callTy (call_listD rfl) (by rfl) (T.z "list") (by decide +kernel) (pa_cons (pv 0) pa_nil)))) (pg_name (i := 6) nd rfl (Or.inl rfl))
        (pss_one (ps_if (pt_cmp (pc_dnotin hu (pv 6) (pv 3)))
          (pss_cons (ps_set (i := 7) nd rfl (Or.inl rfl) (pe_gc G hr pass0 (pa_cons (pv 0) (pa_cons (pv 6) pa_nil))))
          (pss_cons (ps_set (i := 8) nd rfl (Or.inl rfl) (pe_cmp (pc_din hu (pe_ix ix_list (pv 7) (pe_un un_neg pe_int) (fun _ _ => rfl)) (pv 0)) rfl))
          (pss_one (ps_for PassesOwn.never rfl (pi_enum (by rfl) (T.z "enumerate") (pa_cons (pv 7) pa_nil)) (pg_tup rfl (pgs_cons (pg_name (i := 9) nd rfl (Or.inl rfl)) (pgs_cons (pg_name (i := 5) nd rfl (Or.inl rfl)) pgs_nil)))
            (pss_cons (ps_dput hu (pv 3) (pv 5) pe_bl rfl)
            (pss_one (ps_if (pt_val (pv 8))
              (pss_one (ps_dput hu (pv 2) (pv 5) (pe_ix ix_list (pv 7) (pe_op op_modN (pe_op op_add (pv 9) (pv 1)) (pe_callB call_len_seq (by rfl) (T.z "len") PySem.boot_len (pa_cons (pv 7) pa_nil))) (fun _ _ => rfl)) rfl))
              (pss_one (ps_if (pt_cmpR op_lt (pe_op op_add (pv 9) (pv 1)) (pe_callB call_len_seq (by rfl) (T.z "len") PySem.boot_len (pa_cons (pv 7) pa_nil)) (nomark _))
                (pss_one (ps_dput hu (pv 2) (pv 5) (pe_ix ix_list (pv 7) (pe_op op_add (pv 9) (pv 1)) (fun _ _ => rfl)) rfl)) pss_nil)))))))))
          pss_nil)))
      (pss_one (ps_ret (pv 2)))))), ?_⟩
    intro df hdf ds hds
    have ndf : d ≠ df := ne_of_none hd hdf
    have hdd : (upd (upd H df (.dK [])) ds (.dK [])) d = some (.dK (kz l)) := by
      rw [upd_ne (ne_of_none ((upd_ne ndf).trans hd) hds), upd_ne ndf]
      exact hd
    refine ⟨d, _, hdd, trivial, fun od => ?_⟩
    have hfs : df ≠ ds := ne_of_none upd_same hds
    have a0 : Same H (upd (upd H df (.dK [])) ds (.dK [])) := fun b o e => by
      have := ne_of_none e hdf
      rw [upd_ne (ne_of_none ((upd_ne this).trans e) hds), upd_ne this]
      exact e
    have a1 : (upd (upd H df (.dK [])) ds (.dK [])) df = some (.dK []) := by rw [upd_ne hfs, upd_same]
    have a2 : (upd (upd H df (.dK [])) ds (.dK [])) ds = some (.dK []) := upd_same
    have n2 : H ds = none := by rwa [upd_ne hfs.symm] at hds
    generalize upd (upd H df (.dK [])) ds (.dK []) = H1 at hdd a0 a1 a2 ⊢
    refine ⟨_, rfl, d, od, kz l, rfl, upd_same, fun D hD => ?_⟩
    obtain ⟨hD1, neD⟩ := lock_none hdd hD
    refine dc_it walk_values (fun i H' => ∃ ts, H' D = some (.dK ts) ∧ (∀ y : Int, (valV ts (Sum.inl y)).isSome = decide (y ∈ (l.take i).map (·.2))) ∧ ts.length ≤ i ∧ SameX D (upd H1 d (.frz od (.dK (kz l)))) H') ?_ ?_ ?_ ?_
    · exact ⟨[], upd_same, fun y => rfl, Nat.le_refl _, fun a o ha ho => by rw [upd_ne ha]; exact ho⟩
    · rintro i H' _ ⟨ts, _, _, _, s⟩
      exact s _ _ neD.symm upd_same
    · rintro i x _ H' hi ⟨ts, p1, p2, p3, p4⟩ ⟨rfl, key, hk⟩
      obtain ⟨hil, rfl, rfl⟩ := kz_get' hk
      refine ⟨rfl, _, rfl, _, Sum.inl l[i].2, rfl, p1, ?_, _, upd_same, fun y => ?_, ?_, fun a o ha ho => by rw [upd_ne ha]; exact p4 a o ha ho⟩
      · exact small1000 (by omega)
      · rw [valV_put, List.take_succ_eq_append_getElem hil, List.map_append]
        by_cases e : y = l[i].2
        · rw [if_pos (by rw [e])]
          simp [e]
        · rw [if_neg (fun z => e (by cases z; rfl)), p2]
          simp [e]
      · have := length_putK ts (Sum.inl l[i].2) (.bl true)
        omega
    · rintro H' ⟨ts, p1, p2, p3, p4⟩
      rw [kz_len] at p2 p3
      rw [List.take_length] at p2
      refine ⟨p4 _ _ neD.symm upd_same, ?_⟩
      have b0 := lock_same hdd hD p4
      have b1 : (upd H' d (.dK (kz l))) D = some (.dK ts) := (upd_ne neD).trans p1
      generalize upd H' d (.dK (kz l)) = H2 at b0 b1 ⊢
      have b2 : H2 d = some (.dK (kz l)) := b0 _ _ hdd
      refine ⟨d, _, b2, trivial, fun od2 => ?_⟩
      refine ⟨_, rfl, d, od2, rfl, .inl ⟨kz l, upd_same, fun D2 hD2 => ?_⟩⟩
      obtain ⟨hD3, neD2⟩ := lock_none b2 hD2
      have DD : D ≠ D2 := ne_of_none b1 hD3
      refine lc_it walk_keys (fun i H' => H' D2 = some (.lst ((((l.take i).map (·.1)).filter fun e => decide (e ∉ l.map (·.2))).map V.int)) ∧ SameX D2 (upd H2 d (.frz od2 (.dK (kz l)))) H') ?_ ?_ ?_ ?_
      · exact ⟨upd_same, fun a o ha ho => by rw [upd_ne ha]; exact ho⟩
      · rintro i H' _ ⟨_, s⟩
        exact s _ _ neD2.symm upd_same
      · rintro i x _ H' hi ⟨q1, q2⟩ ⟨rfl, key, v, hk, rfl⟩
        obtain ⟨hil, rfl, rfl⟩ := kz_get' hk
        have hDs : H' D = some (.dK ts) := q2 _ _ DD ((upd_ne neD).trans b1)
        refine ⟨rfl, _, rfl, _, rfl, D, _, rfl, DGet.k (k := Sum.inl l[i].1) hDs, _, rfl, ?_⟩
        rw [p2]
        by_cases e : l[i].1 ∈ l.map (·.2)
        · rw [decide_eq_true e]
          refine iteF ⟨?_, q2⟩
          rw [q1, List.take_succ_eq_append_getElem hil, List.map_append, List.filter_append]
          simp [e]
        · rw [decide_eq_false e]
          refine iteT ⟨_, rfl, _, q1, ?_, ?_, fun a o ha ho => by rw [upd_ne ha]; exact q2 a o ha ho⟩
          · rw [List.length_map]
            refine Nat.lt_of_le_of_lt (List.length_filter_le _ _) (small1000 ?_)
            rw [List.length_map]
            have := List.length_take_le i l
            omega
          · rw [upd_same, List.take_succ_eq_append_getElem hil, List.map_append, List.filter_append]
            simp [e, kV]
      · rintro H' ⟨q1, q2⟩
        rw [kz_len, List.take_length] at q1
        refine ⟨q2 _ _ neD2.symm upd_same, ?_⟩
        have c0 := lock_same b2 hD2 q2
        have c1 : (upd H' d (.dK (kz l))) D2 = some (.lst ((((l.map (·.1)).filter fun e => decide (e ∉ l.map (·.2)))).map V.int)) := (upd_ne neD2).trans q1
        have s3 : Same H1 (upd H' d (.dK (kz l))) := b0.trans c0
        generalize upd H' d (.dK (kz l)) = H3 at c0 c1 s3 ⊢
        have c2 : H3 d = some (.dK (kz l)) := c0 _ _ b2
        refine ⟨_, rfl, d, _, rfl, .inl c2, fun p4 hp4 => ?_⟩
        have nD4 : D2 ≠ p4 := ne_of_none c1 hp4
        refine ⟨D2, p4, _, _, rfl, rfl, (upd_ne nD4).trans c1, upd_same, ?_, fun p5 hp5 => ?_⟩
        · have h1 := List.length_filter_le (fun e => decide (e ∉ l.map (·.2))) (l.map (·.1))
          rw [List.length_map] at h1
          rw [List.length_map, List.length_map, kz_len]
          exact Nat.le_of_lt (small1000 (by omega))
        refine ⟨p5, rfl, ⟨_, SqL.of upd_same⟩, ?_⟩
        have e6 : (((l.map (·.1)).filter fun e => decide (e ∉ l.map (·.2))).map V.int) ++ (kz l).map (fun kv => kV kv.1) = (srcsM l).map V.int := by
          unfold srcsM kz
          rw [List.map_append, List.map_map, List.map_map]
          rfl
        rw [e6]
        have hlen : (srcsM l).length ≤ 200 := by
          unfold srcsM
          have h1 := List.length_filter_le (fun e => decide (e ∉ l.map (·.2))) (l.map (·.1))
          rw [List.length_map] at h1
          rw [List.length_append, List.length_map]
          omega
        have s5 : Same H1 (upd (upd H3 p4 (.lst ((kz l).map fun kv => kV kv.1))) p5 (.lst ((srcsM l).map V.int))) := fun b o e => by
          have := s3 b o e
          rw [upd_ne (ne_of_none ((upd_ne (ne_of_none this hp4)).trans this) hp5), upd_ne (ne_of_none this hp4)]
          exact this
        have f1 := s5 _ _ a1
        have f2 := s5 _ _ a2
        have f5 : (upd (upd H3 p4 (.lst ((kz l).map fun kv => kV kv.1))) p5 (.lst ((srcsM l).map V.int))) p5 = some (.lst ((srcsM l).map V.int)) := upd_same
        have sH := a0.trans s5
        generalize upd (upd H3 p4 (.lst ((kz l).map fun kv => kV kv.1))) p5 (.lst ((srcsM l).map V.int)) = H5 at s5 f1 f2 f5 sH ⊢
        obtain ⟨⟨r', S'⟩, hfold, hr'⟩ := Option.map_eq_some_iff.mp hm
        obtain rfl : r' = r := hr'
        have df5 : df ≠ p5 := ne_of f1 f5 (by intro z; cases z)
        have ds5 : ds ≠ p5 := ne_of f2 f5 (by intro z; cases z)
        refine for_it (walk_list (xs := (srcsM l).map V.int)) (fun i σ H' => ∃ F S x5 x6 x7 x8 x9, σ = [some (.ref d), some (.int kk), some (.ref df), some (.ref ds), some (.ref D), x5, x6, x7, x8, x9, none] ∧ ((srcsM l).drop i).foldlM (rowsM l kk) (F, S) = some (r', S') ∧ H' df = some (.dK (kz F)) ∧ H' ds = some (.dK (sn S)) ∧
          H' p5 = some (.lst ((srcsM l).map V.int)) ∧ Same H H' ∧ F.length ≤ 7 * i ∧ S.length ≤ 7 * i) ?_ ?_ ?_ ?_
        · exact ⟨[], [], _, _, _, _, _, rfl, hfold, f1, f2, f5, sH, Nat.zero_le _, Nat.zero_le _⟩
        · rintro i σ H' _ ⟨_, _, _, _, _, _, _, _, _, _, _, h5, _⟩
          exact SqL.of h5
        · rintro i x σ _ H' hi ⟨F, S, x5, x6, x7, x8, x9, rfl, g1, g2, g3, g4, g5, g6, g7⟩ ⟨rfl, hx⟩
          have hi' : i < (srcsM l).length := by simpa using hi
          rw [List.getElem?_map, List.getElem?_eq_getElem hi'] at hx
          obtain rfl : V.int (srcsM l)[i] = x := Option.some.inj hx
          rw [List.drop_eq_getElem_cons hi', List.foldlM_cons] at g1
          generalize (srcsM l)[i] = e at g1
          refine ⟨_, rfl, _, rfl, ds, _, rfl, DGet.k (k := Sum.inl e) g3, _, rfl, ?_⟩
          rw [valV_sn]
          by_cases he : e ∈ S
          · rw [decide_eq_true he]
            have e7 : rowsM l kk (F, S) e = some (F, S) := if_pos he
            rw [e7] at g1
            exact iteF ⟨F, S, _, _, _, _, _, rfl, g1, g2, g3, g4, g5, by omega, by omega⟩
          · rw [decide_eq_false he]
            have e7 : rowsM l kk (F, S) e = (rowM l e 6 [e]).map fun row => (List.range row.length).foldl (placeM row (lk l (row.getLastD e)).isSome kk) (F, S) := if_neg he
            rw [e7] at g1
            cases hrow : rowM l e 6 [e] with
            | none => rw [hrow] at g1; cases g1
            | some row =>
              rw [hrow] at g1
              replace g1 : ((srcsM l).drop (i + 1)).foldlM (rowsM l kk) ((List.range row.length).foldl (placeM row (lk l (row.getLastD e)).isSome kk) (F, S)) = some (r', S') := g1
              obtain ⟨rne, rlen⟩ := rowM_some (by simp) hrow
              replace rlen : row.length ≤ 7 := rlen
              obtain ⟨pre, la, rfl⟩ : ∃ pre la, row = pre ++ [la] := ⟨row.dropLast, row.getLast rne, (List.dropLast_concat_getLast rne).symm⟩
              rw [show (pre ++ [la]).getLastD e = la by simp] at g1
              refine iteT ⟨_, rfl, _, rfl, d, l, e, _, rfl, g5 _ _ hd, hrow, fun p6 hp6 => ?_⟩
              have nd6 : d ≠ p6 := ne_of_none (g5 _ _ hd) hp6
              have nf6 : df ≠ p6 := ne_of_none g2 hp6
              have ns6 : ds ≠ p6 := ne_of_none g3 hp6
              have n56 : p5 ≠ p6 := ne_of_none g4 hp6
              refine ⟨_, rfl, _, rfl, p6, _, _, _, rfl, rfl, SqL.of upd_same, by rw [List.map_append]; exact atI_last _ _, _, rfl, d, _, rfl, DGet.k (k := Sum.inl la) ((upd_ne nd6).trans (g5 _ _ hd)), ?_⟩
              rw [valV_kz, Option.isSome_map]
              generalize hcl : (lk l la).isSome = cl at g1
              generalize hR : pre ++ [la] = row at g1 rne rlen ⊢
              have h0 : Same H (upd H' p6 (.lst (row.map V.int))) := fun b o eb => by
                have := g5 b o eb
                rw [upd_ne (ne_of_none this hp6)]
                exact this
              have h1 := (upd_ne (o := HO.lst (row.map V.int)) nf6).trans g2
              have h2 := (upd_ne (o := HO.lst (row.map V.int)) ns6).trans g3
              have h3 : (upd H' p6 (.lst (row.map V.int))) p6 = some (.lst (row.map V.int)) := upd_same
              have h4 := (upd_ne (o := HO.lst (row.map V.int)) n56).trans g4
              generalize upd H' p6 (.lst (row.map V.int)) = H6 at h0 h1 h2 h3 h4 ⊢
              refine ⟨_, rfl, p6, _, rfl, SqL.of h3, ?_⟩
              have fs : ∀ j, (List.range (j + 1)).foldl (placeM row cl kk) (F, S) = placeM row cl kk ((List.range j).foldl (placeM row cl kk) (F, S)) j := fun j => by
                rw [List.range_succ, List.foldl_append]
                rfl
              refine for_it (walk_enum (xs := row.map V.int)) (fun j σ H' => ∃ F1 S1 y5 y9, (List.range j).foldl (placeM row cl kk) (F, S) = (F1, S1) ∧ σ = [some (.ref d), some (.int kk), some (.ref df), some (.ref ds), some (.ref D), y5, some (.int e), some (.ref p6), some (.bl cl), y9, none] ∧
                H' df = some (.dK (kz F1)) ∧ H' ds = some (.dK (sn S1)) ∧ H' p5 = some (.lst ((srcsM l).map V.int)) ∧ H' p6 = some (.lst (row.map V.int)) ∧ Same H H' ∧ F1.length ≤ 7 * i + j ∧ S1.length ≤ 7 * i + j) ?_ ?_ ?_ ?_
              · exact ⟨F, S, _, _, rfl, rfl, h1, h2, h4, h3, h0, g6, g7⟩
              · rintro j σ H' _ ⟨_, _, _, _, _, _, _, _, _, h, _⟩
                exact SqL.of h
              · rintro j x σ H7 _ hj ⟨F1, S1, y5, y9, k1, rfl, k2, k3, k4, k5, k6, k7, k8⟩ ⟨T', xa, xb, rfl, hT, rfl, hxa, hxb⟩
                have hj' : j < row.length := by simpa using hj
                replace hxb : (row.map V.int)[j]? = some xb := hxb
                rw [List.getElem?_map, List.getElem?_eq_getElem hj'] at hxb
                obtain rfl := Option.some.inj hxa
                obtain rfl := Option.some.inj hxb
                have e8 : row.getD j 0 = row[j] := by simp [List.getD, List.getElem?_eq_getElem hj']
                have e9 : ∀ q, q < row.length → (row.map V.int)[q]? = some (V.int (row.getD q 0)) := fun q hq => by
                  rw [List.getElem?_map, List.getElem?_eq_getElem hq]
                  simp [List.getD, List.getElem?_eq_getElem hq]
                have tf : df ≠ T' := ne_of_none k2 hT
                have ts' : ds ≠ T' := ne_of_none k3 hT
                have t5 : p5 ≠ T' := ne_of_none k4 hT
                have t6 : p6 ≠ T' := ne_of_none k5 hT
                have m2 := (upd_ne (o := HO.tup [V.int (j : Nat), V.int row[j]]) tf).trans k2
                have m3 := (upd_ne (o := HO.tup [V.int (j : Nat), V.int row[j]]) ts').trans k3
                have m4 := (upd_ne (o := HO.tup [V.int (j : Nat), V.int row[j]]) t5).trans k4
                have m5 := (upd_ne (o := HO.tup [V.int (j : Nat), V.int row[j]]) t6).trans k5
                have m6 : Same H (upd H7 T' (.tup [V.int (j : Nat), V.int row[j]])) := fun b o eb => by
                  have := k6 b o eb
                  rw [upd_ne (ne_of_none this hT)]
                  exact this
                refine ⟨T', _, rfl, SqT.of upd_same, rfl, _, _, rfl, _, _, rfl, rfl, ?_⟩
                generalize upd H7 T' (.tup [V.int (j : Nat), V.int row[j]]) = H8 at m2 m3 m4 m5 m6 ⊢
                refine ⟨_, rfl, _, rfl, ds, _, rfl, DPut.k (k := Sum.inl row[j]) m3 (by rw [show (sn S1).length = S1.length by simp [sn]]; exact Nat.lt_of_le_of_lt (by omega : _ ≤ 2000) (by decide)), ?_⟩
                rw [putK_sn]
                have o5 : p5 ≠ ds := ds5.symm
                have o6 : p6 ≠ ds := ns6.symm
                have q2' := (upd_ne (o := HO.dK (sn (addS S1 row[j]))) hfs).trans m2
                have q3' : (upd H8 ds (.dK (sn (addS S1 row[j])))) ds = some (.dK (sn (addS S1 row[j]))) := upd_same
                have q4' := (upd_ne (o := HO.dK (sn (addS S1 row[j]))) o5).trans m4
                have q5' := (upd_ne (o := HO.dK (sn (addS S1 row[j]))) o6).trans m5
                have q6' : Same H (upd H8 ds (.dK (sn (addS S1 row[j])))) := fun b o eb => by
                  rw [upd_ne (ne_of_none eb n2)]
                  exact m6 b o eb
                generalize upd H8 ds (.dK (sn (addS S1 row[j]))) = H9 at q2' q3' q4' q5' q6' ⊢
                have z1 : (addS S1 row[j]).length ≤ 7 * i + (j + 1) := by have := addS_len S1 row[j]; omega
                have zF : F1.length < sizeLine := Nat.lt_of_le_of_lt (by omega : _ ≤ 2000) (by decide)
                refine ⟨_, rfl, cl, rfl, ?_⟩
                -- the last: a value stored
                have fin : ∀ q, q < row.length → (if cl = true then putT F1 row[j] (row.getD ((j + kk) % row.length) 0) else if j + kk < row.length then putT F1 row[j] (row.getD (j + kk) 0) else F1) = putT F1 row[j] (row.getD q 0) →
                    ∃ F2 S2 y5 y9, (List.range (j + 1)).foldl (placeM row cl kk) (F, S) = (F2, S2) ∧ [some (V.ref d), some (.int kk), some (.ref df), some (.ref ds), some (.ref D), some (V.int row[j]), some (.int e), some (.ref p6), some (.bl cl), some (V.int (j : Nat)), none] = [some (.ref d), some (.int kk), some (.ref df), some (.ref ds), some (.ref D), y5, some (.int e), some (.ref p6), some (.bl cl), y9, none] ∧
                    (upd H9 df (.dK (kz (putT F1 row[j] (row.getD q 0))))) df = some (.dK (kz F2)) ∧ (upd H9 df (.dK (kz (putT F1 row[j] (row.getD q 0))))) ds = some (.dK (sn S2)) ∧ (upd H9 df (.dK (kz (putT F1 row[j] (row.getD q 0))))) p5 = some (.lst ((srcsM l).map V.int)) ∧
                    (upd H9 df (.dK (kz (putT F1 row[j] (row.getD q 0))))) p6 = some (.lst (row.map V.int)) ∧ Same H (upd H9 df (.dK (kz (putT F1 row[j] (row.getD q 0))))) ∧ F2.length ≤ 7 * i + (j + 1) ∧ S2.length ≤ 7 * i + (j + 1) := fun q hq hF => by
                  refine ⟨putT F1 row[j] (row.getD q 0), addS S1 row[j], _, _, ?_, rfl, upd_same, (upd_ne hfs.symm).trans q3', (upd_ne df5.symm).trans q4', (upd_ne nf6.symm).trans q5', fun b o eb => ?_, ?_, z1⟩
                  · rw [fs, k1]
                    unfold placeM
                    rw [e8, hF]
                  · rw [upd_ne (ne_of_none eb hdf)]
                    exact q6' b o eb
                  · have := putT_len F1 row[j] (row.getD q 0)
                    omega
                cases cl with
                | true =>
                  have hq : (j + kk) % row.length < row.length := Nat.mod_lt _ (by omega)
                  have em : (((j : Nat) : Int) + (kk : Int)).fmod (((row.map V.int).length : Nat) : Int) = (((j + kk) % row.length : Nat) : Int) := by
                    rw [List.length_map, Int.fmod_eq_emod_of_nonneg _ (Int.natCast_nonneg _)]
                    simp
                  refine iteT ⟨_, rfl, _, rfl, _, rfl, _, _, rfl, rfl, _, rfl, p6, _, rfl, .inl (SqL.of q5'), _, _, rfl, rfl, by rw [List.length_map]; omega, p6, _, _, V.int (row.getD ((j + kk) % row.length) 0), rfl, rfl, SqL.of q5', by rw [em]; exact atI_nat (e9 _ hq), _, rfl, _, rfl, df, _, rfl, DPut.k (k := Sum.inl row[j]) q2' (by rw [kz_len]; exact zF), ?_⟩
                  rw [putK_kz]
                  exact fin _ hq (if_pos rfl)
                | false =>
                  refine iteF ?_
                  refine ⟨_, rfl, _, rfl, _, _, rfl, rfl, _, rfl, p6, _, rfl, .inl (SqL.of q5'), _, _, rfl, rfl, _, rfl, ?_⟩
                  rw [List.length_map]
                  by_cases hq : j + kk < row.length
                  · rw [decide_eq_true (by omega)]
                    refine iteT ⟨_, rfl, _, rfl, _, rfl, _, _, rfl, rfl, p6, _, _, V.int (row.getD (j + kk) 0), rfl, rfl, SqL.of q5', ?_, _, rfl, _, rfl, df, _, rfl, DPut.k (k := Sum.inl row[j]) q2' (by rw [kz_len]; exact zF), ?_⟩
                    · exact atI_nat (j := j + kk) (e9 _ hq)
                    · rw [putK_kz]
                      exact fin _ hq (by rw [if_neg (by simp), if_pos hq])
                  · rw [decide_eq_false (by omega)]
                    refine iteF ⟨F1, addS S1 row[j], _, _, ?_, rfl, q2', q3', q4', q5', q6', by omega, z1⟩
                    rw [fs, k1]
                    unfold placeM
                    rw [e8, if_neg (by simp), if_neg hq]
              · rintro σ H' ⟨F1, S1, y5, y9, k1, rfl, k2, k3, k4, k5, k6, k7, k8⟩
                rw [List.length_map] at k1 k7 k8
                rw [k1] at g1
                exact ⟨F1, S1, _, _, _, _, _, rfl, g1, k2, k3, k4, k6, by omega, by omega⟩
        · rintro σ H' ⟨F, S, x5, x6, x7, x8, x9, rfl, g1, g2, g3, g4, g5, g6, g7⟩
          rw [List.length_map, List.drop_length] at g1
          cases g1
          exact ⟨_, rfl, k H' df (same_fr g5 []) g2⟩
end
end K74
end
-- K74F
section
set_option maxRecDepth 100000
set_option maxHeartbeats 4000000
/-! Map.power. -/
namespace K74
open PySem PySem.Spec PyProof.Rows L2
def powE (n : Nat) (l : Tbl) (e : Int) : Tbl := powT n (if e < 0 then invT l else l) e.natAbs
theorem powE_ga {n : Nat} {l : Tbl} (g : Good n l) (e : Int) : GA n (powE n l e) := by
  unfold powE
  split
  · exact pow_ga (inv_good g) _
  · exact pow_ga g _
theorem inv_take {l : Tbl} {i : Nat} (hi : i < l.length) : invT (l.take (i + 1)) = invT (l.take i) ++ [(l[i].2, l[i].1)] := by
  unfold invT
  rw [List.take_succ_eq_append_getElem hi, List.map_append]
  rfl
theorem inv_no {n : Nat} {l : Tbl} (g : Good n l) {i : Nat} (hi : i < l.length) : lk (invT (l.take i)) l[i].2 = none := by
  rw [lk_none]
  intro h
  have := tgt_new g hi
  refine this ?_
  simpa [invT, List.map_map, Function.comp_def] using h
theorem inv_len (l : Tbl) : (invT l).length = l.length := by simp [invT]
section
variable {P : Program} {w : World} {K : PySem.W.Frag} {mg : Str → Option Value} {base : Heap}
def spPower (K : PySem.W.Frag) : Sp := fun vs H Q _ => ∃ (a : Addr) (e : Int) (n : Nat) (l : Tbl), vs = [.ref a, .int e] ∧ MapAt K H a n l ∧ GA n l ∧ 1 ≤ n ∧ n ≤ 5 ∧ -4 ≤ e ∧ e ≤ 4 ∧ ∀ H' c, Fr [] H H' → MapAt K H' c n (powE n l e) → Q (.ref c) H'
abbrev nPower : List Str := ["self", "exponent", "arrows", "source", "target"]
theorem sc_power : FnScope nPower ["self", "exponent"] (defScope (sub 24 10)) := ⟨rfl, rfl, rfl, by decide +kernel, rfl, by decide +kernel, by decide +kernel⟩
theorem m_power (T : Txt K mg) : MC P w K mg base CX0 (cM K) 7 "power" ["self", "exponent"] (spPower K) := by
  have G := g_is_integer (P := P) (w := w) (base := base) T
  have G2 := g_moved (P := P) (w := w) (base := base) T
  have GM := k_Map (P := P) (w := w) (base := base) T
  obtain ⟨mc, pp, gg, rd, cm, FR⟩ := (cm_ident (P := P) (w := w) (base := base) T).ex
  refine mc0_of (T.mM (10, "Map.power") (by decide +kernel)) sc_power (fun vs H Q E h => ?_) (fun f cdv A outer s H vs Q E hr h => ?_) fun _ _ _ _ _ _ us hl => match us, hl with | [_, _], _ => rfl
  · obtain ⟨_, _, _, _, rfl, _⟩ := h
    rfl
  · obtain ⟨a, e, n, l, rfl, ma, ga, n1, n5, e1, e2, k⟩ := h
    have hh := L2H.roomH_of hr
    have nd := sc_power.nd
    refine ⟨_, pss_cons (ps_if (pt_not (pt_val (pe_gg G (.inl rfl) hh (pa_cons (pv 1) pa_nil)))) (pss_one ps_never) pss_nil)
      (pss_cons (ps_set (i := 2) nd rfl (Or.inl rfl) (pe_fld (pv 0) rfl))
      (pss_cons (ps_if (pt_cmpR op_lt (pv 1) pe_int (nomark _)) (pss_one (ps_lock (ps_setDc (i := 2) (own := [("source", 3), ("target", 4)]) (g := gTup K 2 (gCons (gName 3) (gCons (gName 4) gNil))) (tt := tYes) rfl nd rfl rfl (sw_trueD rfl rfl rfl (by decide +kernel)) (pi_items (pe_fld (pv 0) rfl))
          (blkOk_by (own := [("source", 3), ("target", 4)]) (N := nPower) (sc := defScope (sub 24 10)) (by decide +kernel))
          (fun _ _ _ _ _ => pg_tup rfl (pgs_cons (pg_name (i := 3) nd rfl (Or.inl rfl)) (pgs_cons (pg_name (i := 4) nd rfl (Or.inl rfl)) pgs_nil))) (fun _ _ _ _ _ => pts_nil) (fun _ _ _ _ _ => pv 4) (fun _ _ _ _ _ => pv 3)))) pss_nil)
      (pss_cons (ps_if (pt_cmpR op_eq (pv 1) pe_int (nomark _)) (pss_one (ps_ret (ClX.pe_cmeth (pe_glob (v := .ref (cM K)) rfl T.gM rfl) rd cm FR (hr.mono (by decide)) pass0 (pa_cons (pe_fld (pv 0) rfl) pa_nil)))) pss_nil)
      (pss_one (ps_ret (pe_mk GM (.inl rfl) hh (pa_cons (pe_fld (pv 0) rfl) (pa_cons (pe_gc G2 hr pass0 (pa_cons (pv 2) (pa_cons (pe_callB call_abs (by rfl) (T.z "abs") (by decide +kernel) (pa_cons (pv 1) pa_nil)) pa_nil))) pa_nil)))))))), ?_⟩
    obtain ⟨dx, ad, h1, h2⟩ := id ma
    refine ⟨_, rfl, e, rfl, true, rfl, iteF ?_⟩
    refine ⟨_, rfl, a, _, dx, _, _, rfl, h1, T.fM.cl, T.nM _ (by decide +kernel), rfl, ?_⟩
    refine ⟨_, rfl, _, _, rfl, rfl, _, rfl, ?_⟩
    by_cases neg : e < 0
    · rw [decide_eq_true neg]
      refine iteT ?_
      refine ⟨ad, _, h2, trivial, fun od => ?_⟩
      have hxa : a ≠ ad := ne_of h1 h2 (by intro z; cases z)
      refine ⟨_, rfl, a, _, dx, _, _, rfl, (upd_ne hxa).trans h1, T.fM.cl, T.nM _ (by decide +kernel), rfl, ad, od, kz l, rfl, upd_same, fun D hD => ?_⟩
      obtain ⟨hD0, neD⟩ := lock_none h2 hD
      refine dc_it walk_items (fun i H' => H' D = some (.dK (kz (invT (l.take i)))) ∧ SameX D (upd H ad (.frz od (.dK (kz l)))) H') ?_ ?_ ?_ ?_
      · exact ⟨upd_same, fun q o hq ho => by rw [upd_ne hq]; exact ho⟩
      · rintro i H' _ ⟨_, s⟩
        exact s _ _ neD.symm upd_same
      · rintro i _ H1 _ hi ⟨p1, p2⟩ ⟨T', x1, y1, rfl, hT, rfl, hx, hy⟩
        have hli : i < l.length := by simpa [kz_len] using hi
        simp only [kz_get hli, Option.map_some, Option.some.injEq] at hx hy
        subst hx hy
        have tD : D ≠ T' := ne_of_none p1 hT
        refine ⟨T', _, rfl, SqT.of upd_same, rfl, _, _, rfl, _, _, rfl, rfl, ?_⟩
        refine ⟨rfl, _, rfl, _, rfl, _, Sum.inl l[i].2, rfl, (upd_ne tD).trans p1, ?_, ?_, ?_⟩
        · rw [kz_len, inv_len]
          have := ga.len
          exact small1000 (by simp; omega)
        · rw [upd_same]
          show some (HO.dK (putK _ _ (V.int l[i].1))) = _
          rw [putK_new _ (by rw [valV_kz, inv_no ga.toGood hli]; rfl), inv_take hli]
          simp [kz]
        · intro q o hq ho
          have := p2 q o hq ho
          rw [upd_ne hq, upd_ne (ne_of_none this hT)]
          exact this
      · rintro H' ⟨p1, p2⟩
        rw [kz_len, List.take_length] at p1
        refine ⟨p2 _ _ neD.symm upd_same, ?_⟩
        have s0 := lock_same h2 hD p2
        have c1 : (upd H' ad (.dK (kz l))) D = some (.dK (kz (invT l))) := (upd_ne neD).trans p1
        generalize upd H' ad (.dK (kz l)) = H1 at s0 c1 ⊢
        refine ⟨_, rfl, rfl, _, rfl, ?_⟩
        rw [decide_eq_false (show ¬ V.int e = V.int 0 from fun z => by cases z; omega)]
        refine iteF ?_
        obtain ⟨r, hm, hg, hc⟩ := (moved_pow (k := e.natAbs) n1 n5 (by omega) (by omega) ga).2
        refine ⟨_, rfl, a, _, dx, _, _, rfl, s0 _ _ h1, T.fM.cl, T.nM _ (by decide +kernel), rfl, _, rfl, _, rfl, e, rfl, D, e.natAbs, invT l, r, ?_, c1, by rw [inv_len]; have := ga.len; omega, hm, fun H2 p f hp => ?_⟩
        · rw [show (if e < 0 then -e else e) = ((e.natAbs : Nat) : Int) by split <;> omega]
          rfl
        · refine mk_map hp hg n1 (by omega) fun H3 c f' _ mc => k H3 c ((same_fr s0 _).trans (f.trans f')) ?_
          rw [hc] at mc
          unfold powE
          rw [if_pos neg]
          exact mc
    · rw [decide_eq_false neg]
      refine iteF ?_
      refine ⟨_, rfl, rfl, _, rfl, ?_⟩
      by_cases e0 : e = 0
      · subst e0
        rw [decide_eq_true rfl]
        refine iteT ⟨rfl, _, rfl, a, _, dx, _, _, rfl, h1, T.fM.cl, T.nM _ (by decide +kernel), rfl, n, rfl, n1, by omega, fun H' c f m => k H' c f m⟩
      · rw [decide_eq_false (show ¬ V.int e = V.int 0 from fun z => e0 (by cases z; rfl))]
        refine iteF ?_
        obtain ⟨r, hm, hg, hc⟩ := (moved_pow (k := e.natAbs) n1 n5 (by omega) (by omega) ga).1
        refine ⟨_, rfl, a, _, dx, _, _, rfl, h1, T.fM.cl, T.nM _ (by decide +kernel), rfl, _, rfl, _, rfl, e, rfl, ad, e.natAbs, l, r, ?_, h2, by have := ga.len; omega, hm, fun H2 p f hp => ?_⟩
        · rw [show (if e < 0 then -e else e) = ((e.natAbs : Nat) : Int) by split <;> omega]
          rfl
        · refine mk_map hp hg n1 (by omega) fun H3 c f' _ mc => k H3 c (f.trans f') ?_
          rw [hc] at mc
          unfold powE
          rw [if_neg neg]
          exact mc
end
end K74
end
-- K74G
section
set_option maxRecDepth 100000
set_option maxHeartbeats 4000000
/-! Names and steps. -/
namespace K74
open PySem PySem.Spec PyProof.Rows L2
def users : List Str := ["ann", "bob", "abcdefgh"]
def lower (c : Nat) : Bool := !decide ([c] < ("a" : Str).cps.toList) && !decide (("z" : Str).cps.toList < [c])
theorem low_all : ∀ u ∈ users, (u.cps.toList.map fun c => lower c).all id = true := by decide +kernel
theorem users_ok : ∀ u ∈ users, 1 ≤ u.length ∧ u.length ≤ 8 ∧ u.cps.size ≤ 8 := by decide +kernel
section
variable {P : Program} {w : World} {K : PySem.W.Frag} {mg : Str → Option Value} {base : Heap}
def spIsName : Sp := fun vs H Q _ => ∃ u, vs = [.str u] ∧ u ∈ users ∧ ∀ H', Fr [] H H' → Q (.bl true) H'
def spCheckUser : Sp := fun vs H Q _ => ∃ u, vs = [.str u] ∧ u ∈ users ∧ ∀ H', Fr [] H H' → Q .non H'
abbrev nIsName : List Str := ["value", "sign"]
theorem sc_is_name : FnScope nIsName ["value"] (defScope (top 35)) := ⟨rfl, rfl, rfl, by decide +kernel, rfl, by decide +kernel, by decide +kernel⟩
theorem g_is_name (T : Txt K mg) : GC P w K mg base CX0 1 "is_name" ["value"] spIsName := by
  obtain ⟨tk, hmn⟩ := T.maxName
  refine gc0_of (T.fn 35 (by decide)) sc_is_name (fun vs H Q E h => ?_) (fun f cdv A outer s H vs Q E hr h => ?_) fun _ _ _ _ _ _ us hl => match us, hl with | [_], _ => rfl
  · obtain ⟨_, rfl, _⟩ := h
    rfl
  · obtain ⟨u, rfl, hu, k⟩ := h
    have nd := sc_is_name.nd
    refine ⟨_, pss_one (ps_ret (pe_and (pe_callB call_isi (by rfl) (T.z "isinstance") (by decide +kernel) (pa_cons (pv 0) (pa_cons (pe_bltn (v := .ty "str") (by rfl) (T.z "str") (by decide +kernel) rfl) pa_nil)))
      (pe_and (pe_chain op_le op_le pe_int (pe_callB call_len_str (by rfl) (T.z "len") PySem.boot_len (pa_cons (pv 0) pa_nil)) (pe_glob (v := .int 8) rfl hmn ⟨_, rfl⟩))
      (pe_one (pe_callB (cr_all rfl) (by rfl) (T.z "all") (by decide +kernel) (pa_cons (pe_lc (own := [("sign", 1)]) (g := gName 1) (tt := tYes) rfl nd (pi_str (pv 0)) (blkOk_by (own := [("sign", 1)]) (N := nIsName) (sc := defScope (top 35)) (by decide +kernel))
        (fun _ _ _ _ _ => pg_name (i := 1) nd rfl (Or.inl rfl)) (fun _ _ _ _ _ => pts_nil) (fun _ _ _ _ _ => pe_chain op_le_str op_le_str pe_str (pv 1) pe_str)) pa_nil)))))), ?_⟩
    have hk := users_ok u hu
    refine ⟨_, rfl, _, _, _, _, true, rfl, .ty "str", .base (.str u), kit_ty (by decide +kernel), true, rfl, ?_⟩
    refine iteT ⟨_, rfl, u, rfl, ?_, _, _, rfl, rfl, true, ?_, ?_⟩
    · exact Nat.le_of_lt (Nat.lt_of_le_of_lt (Nat.le_trans hk.2.1 (by decide : 8 ≤ 1000)) (small1000 (Nat.le_refl _)))
    · exact congrArg V.bl (decide_eq_true (by omega))
    · refine iteT ⟨_, _, rfl, rfl, true, congrArg V.bl (decide_eq_true (by omega)), ?_⟩
      refine iteT ⟨_, rfl, u, rfl, fun D hD => ?_⟩
      refine lc_it walk_str (fun i H' => H' D = some (.lst (((u.cps.toList.take i).map fun c => lower c).map V.bl)) ∧ SameX D H H') ?_ (fun _ _ _ _ => trivial) ?_ ?_
      · exact ⟨upd_same, fun q o hq ho => by rw [upd_ne hq]; exact ho⟩
      · rintro i _ _ H1 hi ⟨p1, p2⟩ ⟨rfl, ch, hc, rfl⟩
        have hi' : i < u.cps.toList.length := by simpa using hi
        have ec : u.cps.toList[i] = ch := by
          rw [Array.getElem?_eq_getElem hi] at hc
          simpa using Option.some.inj hc
        have fin : ∀ y, y = V.bl (lower ch) → ∃ acc, H1 D = some (.lst acc) ∧ acc.length < sizeLine ∧ (upd H1 D (.lst (acc ++ [y]))) D = some (.lst (((u.cps.toList.take (i + 1)).map fun c => lower c).map V.bl)) ∧ SameX D H (upd H1 D (.lst (acc ++ [y]))) := by
          rintro y rfl
          refine ⟨_, p1, ?_, ?_, fun q o hq ho => by rw [upd_ne hq]; exact p2 q o hq ho⟩
          · rw [List.length_map, List.length_map]
            have := List.length_take_le i u.cps.toList
            exact small1000 (by omega)
          · rw [upd_same, List.take_succ_eq_append_getElem hi', ec]
            simp
        refine ⟨rfl, ?_⟩
        refine ⟨_, rfl, _, _, rfl, rfl, _, rfl, ?_⟩
        refine ite2 (fun h => ⟨_, _, rfl, rfl, fin _ ?_⟩) fun h => fin _ ?_
        · unfold lower
          rw [show (!decide ([ch] < ("a" : Str).cps.toList)) = true from h]
          rfl
        · unfold lower
          rw [show (!decide ([ch] < ("a" : Str).cps.toList)) = false from eq_false_of_ne_true h]
          rfl
      · rintro H1 ⟨p1, p2⟩
        rw [← Array.length_toList, List.take_length] at p1
        refine ⟨D, _, rfl, SqL.of p1, ?_⟩
        rw [low_all u hu]
        exact k H1 (fun q o ho _ => p2 q o (ne_of_none ho hD) ho)
theorem sc_check_user : FnScope ["value"] ["value"] (defScope (top 36)) := ⟨rfl, rfl, rfl, by decide +kernel, rfl, by decide +kernel, by decide +kernel⟩
theorem g_check_user (T : Txt K mg) : GC P w K mg base CX0 2 "check_user" ["value"] spCheckUser := by
  have G := g_is_name (P := P) (w := w) (base := base) T
  refine gc0_of (T.fn 36 (by decide)) sc_check_user (fun vs H Q E h => ?_) (fun f cdv A outer s H vs Q E hr h => ?_) fun _ _ _ _ _ _ us hl => match us, hl with | [_], _ => rfl
  · obtain ⟨_, rfl, _⟩ := h
    rfl
  · obtain ⟨u, rfl, hu, k⟩ := h
    refine ⟨_, pss_one (ps_if (pt_not (pt_val (pe_gc G hr pass0 (pa_cons (pv 0) pa_nil)))) (pss_one ps_never) pss_nil), ?_⟩
    exact ⟨_, rfl, u, rfl, hu, fun H' f => ⟨_, rfl, iteF (k H' f)⟩⟩

/-! ### steps -/
inductive Step where
  | forget (a : Int)
  | swap (a b : Int)
def Step.vs : Step → List V
  | .forget a => [.str "forget", .int a]
  | .swap a b => [.str "swap", .int a, .int b]
def Step.Ok (n : Nat) : Step → Prop
  | .forget a => 0 ≤ a ∧ a < n
  | .swap a b => (0 ≤ a ∧ a < n) ∧ (0 ≤ b ∧ b < n) ∧ a ≠ b
def Step.es : Step → List Int
  | .forget a => [a]
  | .swap a b => [a, b]
def StepAt (H : Hp) (x : V) (st : Step) : Prop := ∃ t, x = .ref t ∧ H t = some (.tup st.vs)
theorem StepAt.fr {S : List Addr} {H H' : Hp} {x : V} {st : Step} (m : StepAt H x st) (f : Fr S H H') : StepAt H' x st := let ⟨t, h1, h2⟩ := m; ⟨t, h1, f.imm h2 rfl⟩
theorem Step.es_ok {n : Nat} : ∀ {st : Step}, st.Ok n → ∀ e ∈ st.es, 0 ≤ e ∧ e < n
  | .forget a, h, e, he => by
    simp [Step.es] at he
    subst he
    exact h
  | .swap a b, h, e, he => by
    simp [Step.es] at he
    rcases he with rfl | rfl
    · exact h.1
    · exact h.2.1
def Step.nm : Step → Str
  | .forget _ => "forget"
  | .swap _ _ => "swap"
theorem Step.vs_eq (st : Step) : st.vs = .str st.nm :: st.es.map V.int := by cases st <;> rfl
theorem Step.cut (st : Step) : cutV st.vs (some 1) none = st.es.map V.int := by cases st <;> rfl
theorem Step.part (st : Step) : ¬ (HT.sIx st.vs.length 0 (some 1) = 0 ∧ HT.sIx st.vs.length st.vs.length none = st.vs.length) := by
  cases st with
  | forget a => exact (by decide : ¬ (HT.sIx 2 0 (some 1) = 0 ∧ HT.sIx 2 2 none = 2))
  | swap a b => exact (by decide : ¬ (HT.sIx 3 0 (some 1) = 0 ∧ HT.sIx 3 3 none = 3))
theorem Step.at0 (st : Step) : atI st.vs 0 = some (.str st.nm) := by cases st <;> rfl
theorem Step.two (st : Step) : ¬ ((st.vs.length : Int) < 2) := by cases st <;> simp [Step.vs]
theorem Step.small (st : Step) : st.es.length ≤ 2 := by cases st <;> simp [Step.es]
def spIsStep : Sp := fun vs H Q _ => ∃ (n : Nat) (t : Addr) (st : Step), vs = [.int n, .ref t] ∧ H t = some (.tup st.vs) ∧ st.Ok n ∧ ∀ H', Fr [] H H' → Q (.bl true) H'
abbrev nIsStep : List Str := ["size", "value", "element"]
theorem sc_is_step : FnScope nIsStep ["size", "value"] (defScope (top 30)) := ⟨rfl, rfl, rfl, by decide +kernel, rfl, by decide +kernel, by decide +kernel⟩
theorem g_is_step (T : Txt K mg) : GC P w K mg base CX0 3 "is_step" ["size", "value"] spIsStep := by
  have G := g_in_range (P := P) (w := w) (base := base) T
  refine gc0_of (T.fn 30 (by decide)) sc_is_step (fun vs H Q E h => ?_) (fun f cdv A outer s H vs Q E hr h => ?_) fun _ _ _ _ _ _ us hl => match us, hl with | [_, _], _ => rfl
  · obtain ⟨_, _, _, rfl, _⟩ := h
    rfl
  · obtain ⟨n, t, st, rfl, ht, ok, k⟩ := h
    have nd := sc_is_step.nd
    have hh := L2H.roomH_of hr
    refine ⟨_, pss_cons (ps_if (PW.pt (pw_or (pt_not (pt_val (pe_callB call_isi (by rfl) (T.z "isinstance") (by decide +kernel) (pa_cons (pv 1) (pa_cons (pe_bltn (v := .ty "tuple") (by rfl) (T.z "tuple") (by decide +kernel) rfl) pa_nil)))))
        (pw_or (pt_cmpR op_lt (pe_callB call_len_seq (by rfl) (T.z "len") PySem.boot_len (pa_cons (pv 1) pa_nil)) pe_int (nomark _))
        (pw_or1 (pt_not (pt_val (pe_callB call_isi (by rfl) (T.z "isinstance") (by decide +kernel) (pa_cons (pe_ix ix_tup (pv 1) pe_int (fun _ _ => rfl)) (pa_cons (pe_bltn (v := .ty "str") (by rfl) (T.z "str") (by decide +kernel) rfl) pa_nil)))))))))
        (pss_one ps_never) pss_nil)
      (pss_cons (ps_if (pt_not (pt_val (pe_callB (cr_all rfl) (by rfl) (T.z "all") (by decide +kernel) (pa_cons (pe_lc (own := [("element", 2)]) (g := gName 2) (tt := tYes) rfl nd (pi_tup (pe_slice sl_tup (pv 1) (po_some pe_int) po_none)) (blkOk_by (own := [("element", 2)]) (N := nIsStep) (sc := defScope (top 30)) (by decide +kernel))
          (fun _ _ _ _ _ => pg_name (i := 2) nd rfl (Or.inl rfl)) (fun _ _ _ _ _ => pts_nil) (fun _ _ _ _ _ => pe_gg (k := 2) G (.inl rfl) hh (pa_cons (pv 2) (pa_cons pe_int (pa_cons (pe_op op_sub (pv 0) pe_int) pa_nil))))) pa_nil))))
        (pss_one ps_never) pss_nil)
      (pss_cons (ps_if (pt_cmpR op_eq (pe_ix ix_tup (pv 1) pe_int (fun _ _ => rfl)) pe_str (nomark _))
        (pss_one (ps_ret (pe_and (pe_cmpR op_eq (pe_callB call_len_seq (by rfl) (T.z "len") PySem.boot_len (pa_cons (pv 1) pa_nil)) pe_int (nomark _)) (pe_one (pe_cmpR op_ne (pe_ix ix_tup (pv 1) pe_int (fun _ _ => rfl)) (pe_ix ix_tup (pv 1) pe_int (fun _ _ => rfl)) (nomark _)))))) pss_nil)
      (pss_one (ps_ret (pe_and (pe_cmpR op_eq (pe_ix ix_tup (pv 1) pe_int (fun _ _ => rfl)) pe_str (nomark _)) (pe_one (pe_cmpR op_eq (pe_callB call_len_seq (by rfl) (T.z "len") PySem.boot_len (pa_cons (pv 1) pa_nil)) pe_int (nomark _)))))))), ?_⟩
    refine ⟨_, rfl, _, _, _, _, true, rfl, .ty "tuple", .base (.tup ht), kit_ty (by decide +kernel), true, rfl, iteF ?_⟩
    refine ⟨_, rfl, t, _, rfl, .inr (SqT.of ht), _, _, rfl, rfl, _, rfl, ?_⟩
    rw [decide_eq_false st.two]
    refine iteF ?_
    refine ⟨_, rfl, t, _, _, _, rfl, rfl, SqT.of ht, st.at0, _, _, _, _, true, rfl, .ty "str", .base (.str _), kit_ty (by decide +kernel), true, rfl, iteF ?_⟩
    refine ⟨_, rfl, 1, rfl, t, _, rfl, SqT.of ht, st.part, fun p hp => ?_⟩
    rw [st.cut]
    refine ⟨p, rfl, ⟨_, SqT.of upd_same⟩, fun D hD => ?_⟩
    have tp : t ≠ p := ne_of_none ht hp
    have pD : p ≠ D := ne_of_none upd_same hD
    have hD0 : H D = none := by rwa [upd_ne pD.symm] at hD
    refine lc_it (walk_tup (xs := st.es.map V.int)) (fun i H' => H' D = some (.lst (((st.es.take i).map fun _ => true).map V.bl)) ∧ SameX D (upd H p (.tup (st.es.map V.int))) H') ?_ ?_ ?_ ?_
    · exact ⟨upd_same, fun q o hq ho => by rw [upd_ne hq]; exact ho⟩
    · rintro i H' _ ⟨_, s⟩
      exact SqT.of (s _ _ pD upd_same)
    · rintro i x _ H1 hi ⟨p1, p2⟩ ⟨rfl, hx⟩
      have hi' : i < st.es.length := by simpa using hi
      rw [List.getElem?_map, List.getElem?_eq_getElem hi'] at hx
      obtain rfl : V.int st.es[i] = x := Option.some.inj hx
      have hr := Step.es_ok ok st.es[i] (List.getElem_mem hi')
      refine ⟨rfl, _, rfl, _, rfl, _, _, rfl, rfl, _, _, _, rfl, _, p1, ?_, ?_, fun q o hq ho => by rw [upd_ne hq]; exact p2 q o hq ho⟩
      · rw [List.length_map, List.length_map]
        have := List.length_take_le i st.es
        have := st.small
        exact small1000 (by omega)
      · rw [upd_same, List.take_succ_eq_append_getElem hi', show (decide (0 ≤ st.es[i]) && decide (st.es[i] ≤ (n : Int) - 1)) = true by simp; omega]
        rw [List.map_append, List.map_append]
        rfl
    · rintro H1 ⟨p1, p2⟩
      refine ⟨D, _, rfl, SqL.of p1, ?_⟩
      refine ⟨_, rfl, ?_⟩
      rw [show (((st.es.take (st.es.map V.int).length).map fun _ => true).all id) = true by simp]
      refine iteF ?_
      have ht1 : H1 t = some (.tup st.vs) := p2 _ _ (ne_of_none ht hD0) ((upd_ne tp).trans ht)
      have kk : Q (.bl true) H1 := k H1 fun q o ho _ => p2 q o (ne_of_none ho hD0) ((upd_ne (ne_of_none ho hp)).trans ho)
      refine ⟨_, rfl, t, _, _, _, rfl, rfl, SqT.of ht1, st.at0, rfl, _, rfl, ?_⟩
      cases st with
      | forget a =>
        rw [decide_eq_false (show ¬ V.str (Step.forget a).nm = V.str "swap" by intro z; cases z)]
        refine iteF ?_
        refine ⟨_, rfl, t, _, _, _, rfl, rfl, SqT.of ht1, (Step.forget a).at0, rfl, _, rfl, ?_⟩
        rw [decide_eq_true (show V.str (Step.forget a).nm = V.str "forget" from rfl)]
        exact iteT ⟨_, rfl, t, _, rfl, .inr (SqT.of ht1), rfl, kk⟩
      | swap a b =>
        rw [decide_eq_true (show V.str (Step.swap a b).nm = V.str "swap" from rfl)]
        refine iteT ?_
        refine ⟨_, rfl, t, _, rfl, .inr (SqT.of ht1), rfl, _, rfl, ?_⟩
        refine iteT ⟨_, rfl, t, _, 1, V.int a, rfl, rfl, SqT.of ht1, rfl, _, rfl, t, _, 2, V.int b, rfl, rfl, SqT.of ht1, rfl, rfl, ?_⟩
        rw [decide_eq_false (show ¬ V.int a = V.int b from fun z => ok.2.2 (by cases z; rfl))]
        exact kk
end
end K74
end
-- K74I
section
set_option maxRecDepth 100000
set_option maxHeartbeats 4000000
/-! Steps checked and taken. -/
namespace K74
open PySem PySem.Spec PyProof.Rows L2
/-! ### tables under steps -/
def dropT (l : Tbl) (s : Int) : Tbl := l.filter fun p => decide (p.1 ≠ s)
theorem lk_drop (l : Tbl) (s j : Int) : lk (dropT l s) j = if j = s then none else lk l j := by
  induction l with
  | nil => simp [dropT, lk]
  | cons p r ih =>
    unfold dropT at ih ⊢
    rw [List.filter_cons]
    by_cases e : p.1 = s
    · rw [if_neg (by simp [e]), ih, lk_cons]
      by_cases ej : j = s
      · rw [if_pos ej, if_pos ej]
      · rw [if_neg ej, if_neg ej, if_neg (by rw [e]; exact fun z => ej z.symm)]
    · rw [if_pos (by simp [e]), lk_cons, lk_cons, ih]
      by_cases ej : j = s
      · rw [if_pos ej, if_pos ej, if_neg (by rw [ej]; exact e)]
      · rw [if_neg ej, if_neg ej]
theorem lk_put (l : Tbl) (s t j : Int) : lk (putT l s t) j = if j = s then some t else lk l j := by
  have h : (lk (putT l s t) j).map V.int = (if j = s then some t else lk l j).map V.int := by
    rw [← valV_kz, ← putK_kz, valV_put, valV_kz]
    by_cases e : j = s
    · rw [if_pos e, if_pos (by rw [e])]; rfl
    · rw [if_neg e, if_neg (fun z => e (by cases z; rfl))]
  have inj : ∀ a b : Option Int, a.map V.int = b.map V.int → a = b := by
    intro a b h
    cases a <;> cases b <;> simp_all
  exact inj _ _ h
theorem dropK_kz (l : Tbl) (s : Int) : dropK (kz l) (Sum.inl s) = kz (dropT l s) := by
  unfold dropK kz dropT
  rw [List.filter_map]
  congr 1
  refine List.filter_congr fun p _ => ?_
  simp [Function.comp]
theorem drop_src {l : Tbl} {s : Int} (h : (l.map (·.1)).Nodup) : ((dropT l s).map (·.1)).Nodup := h.sublist (List.Sublist.map _ List.filter_sublist)
theorem put_src {l : Tbl} {s t : Int} (h : (l.map (·.1)).Nodup) : ((putT l s t).map (·.1)).Nodup := by
  unfold putT
  split
  · have e : (l.map fun p => if p.1 = s then (p.1, t) else p).map (·.1) = l.map (·.1) := by
      rw [List.map_map]
      refine List.map_congr_left fun p _ => ?_
      by_cases e : p.1 = s <;> simp [Function.comp, e]
    rw [e]
    exact h
  · next e =>
    have e' : lk l s = none := by simpa using e
    rw [List.map_append, List.nodup_append]
    refine ⟨h, by simp, fun a ha b hb => ?_⟩
    rintro rfl
    simp at hb
    subst hb
    exact (lk_none.mp e') ha
def nm (a b t : Int) : Int := if t = a then b else if t = b then a else t
theorem nm_nm (a b t : Int) : nm a b (nm a b t) = t := by
  unfold nm
  by_cases h1 : t = a <;> by_cases h2 : t = b <;> by_cases h3 : b = a <;> simp_all
/-- the law's step -/
def steppedT (l : Tbl) : Step → Tbl
  | .forget a => dropT l a
  | .swap a b => l.map fun p => (p.1, nm a b p.2)
theorem lk_stepped_swap (l : Tbl) (a b s : Int) : lk (steppedT l (.swap a b)) s = (lk l s).map (nm a b) := by
  show lk (l.map fun p => (p.1, nm a b p.2)) s = _
  induction l with
  | nil => rfl
  | cons p r ih =>
    rw [List.map_cons, lk_cons, lk_cons, ih]
    by_cases e : p.1 = s <;> simp [e]
theorem nm_rng {n : Nat} {a b t : Int} (ha : 0 ≤ a ∧ a < n) (hb : 0 ≤ b ∧ b < n) (ht : 0 ≤ t ∧ t < n) : 0 ≤ nm a b t ∧ nm a b t < n := by
  unfold nm
  split
  · exact hb
  · split
    · exact ha
    · exact ht
theorem stepped_ga {n : Nat} {l : Tbl} (g : GA n l) : ∀ {st : Step}, st.Ok n → GA n (steppedT l st)
  | .forget a, ok => by
    have hs : ((dropT l a).map (·.1)).Nodup := drop_src g.src
    refine ⟨good_lk hs (fun s t h => ?_) (fun s s' t h h' => ?_), g.asc.sublist List.filter_sublist⟩
    · replace h : lk (dropT l a) s = some t := h
      rw [lk_drop] at h
      split at h
      · cases h
      · exact g.lk_rng h
    · replace h : lk (dropT l a) s = some t := h
      replace h' : lk (dropT l a) s' = some t := h'
      rw [lk_drop] at h h'
      split at h
      · cases h
      · split at h'
        · cases h'
        · exact g.inj h h'
  | .swap a b, ok => by
    have ha : Asc (steppedT l (.swap a b)) := by
      unfold steppedT Asc
      rw [List.pairwise_map]
      exact g.asc
    refine ⟨good_lk (asc_src ha) (fun s t h => ?_) (fun s s' t h h' => ?_), ha⟩
    · rw [lk_stepped_swap] at h
      obtain ⟨u, hu, rfl⟩ := Option.map_eq_some_iff.mp h
      exact ⟨(g.lk_rng hu).1, nm_rng ok.1 ok.2.1 (g.lk_rng hu).2⟩
    · rw [lk_stepped_swap] at h h'
      obtain ⟨u, hu, e⟩ := Option.map_eq_some_iff.mp h
      obtain ⟨u', hu', e'⟩ := Option.map_eq_some_iff.mp h'
      have : u = u' := by rw [← nm_nm a b u, e, ← nm_nm a b u', e']
      subst this
      exact g.inj hu hu'
/-- what after_list holds: found, places; the law's table -/
structure Two (n : Nat) (F G L : Tbl) : Prop where
  ga : GA n L
  f : ∀ s, lk F s = lk L s
  g : ∀ s t, lk G t = some s ↔ lk L s = some t
  nf : (F.map (·.1)).Nodup
  ng : (G.map (·.1)).Nodup
theorem Two.start {n : Nat} {l : Tbl} (g : GA n l) : Two n l (invT l) l := ⟨g, fun _ => rfl, fun _ _ => lk_inv g.toGood, g.src, (inv_good g.toGood).src⟩
theorem Two.forget {n : Nat} {F G L : Tbl} (w : Two n F G L) {a t : Int} (h : lk F a = some t) : Two n (dropT F a) (dropT G t) (steppedT L (.forget a)) := by
  have hr := w.ga.lk_rng ((w.f a).symm.trans h)
  have hL := (w.f a).symm.trans h
  refine ⟨stepped_ga w.ga hr.1, fun s => ?_, fun s u => ?_, drop_src w.nf, drop_src w.ng⟩
  · show _ = lk (dropT L a) s
    rw [lk_drop, lk_drop, w.f]
  · show _ ↔ lk (dropT L a) s = some u
    rw [lk_drop, lk_drop]
    by_cases e1 : u = t
    · subst e1
      rw [if_pos rfl]
      by_cases e2 : s = a
      · rw [if_pos e2]
        exact ⟨fun z => (nomatch z), fun z => (nomatch z)⟩
      · rw [if_neg e2]
        exact ⟨fun z => (nomatch z), fun z => absurd (w.ga.inj z hL) e2⟩
    · rw [if_neg e1, w.g]
      by_cases e2 : s = a
      · subst e2
        rw [if_pos rfl]
        exact ⟨fun z => absurd (Option.some.inj (z.symm.trans hL)) e1, fun z => (nomatch z)⟩
      · rw [if_neg e2]
theorem Two.forget_no {n : Nat} {F G L : Tbl} (w : Two n F G L) {a : Int} (ha : 0 ≤ a ∧ a < n) (h : lk F a = none) : Two n F G (steppedT L (.forget a)) := by
  have hL : lk L a = none := (w.f a).symm.trans h
  have e : ∀ s, lk (steppedT L (.forget a)) s = lk L s := fun s => by
    show lk (dropT L a) s = _
    rw [lk_drop]
    by_cases e : s = a
    · rw [if_pos e, e, hL]
    · rw [if_neg e]
  exact ⟨stepped_ga (st := .forget a) w.ga ha, fun s => by rw [e, w.f], fun s t => by rw [e, w.g], w.nf, w.ng⟩
def putO (F : Tbl) (o : Option Int) (t : Int) : Tbl := match o with
  | some s => putT F s t
  | none => F
def putR (G : Tbl) (o : Option Int) (t : Int) : Tbl := match o with
  | some s => putT G t s
  | none => G
theorem Two.swap {n : Nat} {F G L : Tbl} (w : Two n F G L) {a b : Int} (ok : (Step.swap a b).Ok n) :
    Two n (putO (putO F (lk G a) b) (lk G b) a) (putR (putR (dropT (dropT G a) b) (lk G a) b) (lk G b) a) (steppedT L (.swap a b)) := by
  have ne : a ≠ b := ok.2.2
  refine ⟨stepped_ga w.ga ok, fun s => ?_, fun s t => ?_, ?_, ?_⟩
  · rw [lk_stepped_swap]
    have h1 : ∀ s', lk G a = some s' ↔ lk L s' = some a := fun s' => w.g s' a
    have h2 : ∀ s', lk G b = some s' ↔ lk L s' = some b := fun s' => w.g s' b
    have e1 : ∀ s, lk (putO F (lk G a) b) s = if lk L s = some a then some b else lk L s := fun s => by
      cases e : lk G a with
      | none =>
        have : lk L s ≠ some a := fun z => by rw [← h1, e] at z; cases z
        rw [if_neg this]
        exact w.f s
      | some s1 =>
        show lk (putT F s1 b) s = _
        rw [lk_put, w.f]
        by_cases es : s = s1
        · rw [if_pos es, es, if_pos ((h1 s1).mp e)]
        · rw [if_neg es, if_neg]
          intro z
          rw [← h1, e] at z
          exact es (Option.some.inj z).symm
    have e2 : lk (putO (putO F (lk G a) b) (lk G b) a) s = if lk L s = some b then some a else lk (putO F (lk G a) b) s := by
      cases e : lk G b with
      | none =>
        have : lk L s ≠ some b := fun z => by rw [← h2, e] at z; cases z
        rw [if_neg this]
        rfl
      | some s1 =>
        show lk (putT _ s1 a) s = _
        rw [lk_put]
        by_cases es : s = s1
        · rw [if_pos es, es, if_pos ((h2 s1).mp e)]
        · rw [if_neg es, if_neg]
          intro z
          rw [← h2, e] at z
          exact es (Option.some.inj z).symm
    rw [e2, e1]
    cases e : lk L s with
    | none => simp
    | some t =>
      simp only [Option.map_some, Option.some.injEq]
      unfold nm
      by_cases x1 : t = a
      · have x2 : ¬ t = b := fun z => ne (x1.symm.trans z)
        rw [if_neg x2, if_pos x1, if_pos x1]
      · by_cases x2 : t = b
        · rw [if_pos x2, if_neg x1, if_pos x2]
        · rw [if_neg x2, if_neg x1, if_neg x1, if_neg x2]
  · have e1 : lk (putR (putR (dropT (dropT G a) b) (lk G a) b) (lk G b) a) t = lk G (nm a b t) := by
      have d : lk (dropT (dropT G a) b) t = if t = b then none else if t = a then none else lk G t := by rw [lk_drop, lk_drop]
      have p1 : lk (putR (dropT (dropT G a) b) (lk G a) b) t = if t = b then lk G a else if t = a then none else lk G t := by
        cases e : lk G a with
        | none =>
          show lk (dropT (dropT G a) b) t = _
          rw [d]
        | some s1 =>
          show lk (putT _ b s1) t = _
          rw [lk_put, d]
          by_cases et : t = b
          · rw [if_pos et, if_pos et]
          · rw [if_neg et, if_neg et, if_neg et]
      have p2 : lk (putR (putR (dropT (dropT G a) b) (lk G a) b) (lk G b) a) t = if t = a then lk G b else lk (putR (dropT (dropT G a) b) (lk G a) b) t := by
        cases e : lk G b with
        | none =>
          show lk (putR (dropT (dropT G a) b) (lk G a) b) t = _
          by_cases et : t = a
          · rw [if_pos et, p1, if_neg (fun z => ne (et.symm.trans z)), if_pos et]
          · rw [if_neg et]
        | some s1 =>
          show lk (putT _ a s1) t = _
          rw [lk_put]
      rw [p2, p1]
      unfold nm
      by_cases x1 : t = a
      · rw [if_pos x1, if_pos x1]
      · rw [if_neg x1, if_neg x1]
        by_cases x2 : t = b
        · rw [if_pos x2, if_neg x1, if_pos x2]
        · rw [if_neg x2, if_neg x1, if_neg x2]
    rw [e1, w.g, lk_stepped_swap]
    constructor
    · intro h
      rw [h, Option.map_some, nm_nm]
    · intro h
      obtain ⟨u, hu, e⟩ := Option.map_eq_some_iff.mp h
      rw [hu, ← e, nm_nm]
  · have : ((putO F (lk G a) b).map (·.1)).Nodup := by
      cases lk G a with
      | none => exact w.nf
      | some s => exact put_src w.nf
    cases lk G b with
    | none => exact this
    | some s => exact put_src this
  · have h0 : ((dropT (dropT G a) b).map (·.1)).Nodup := drop_src (drop_src w.ng)
    have : ((putR (dropT (dropT G a) b) (lk G a) b).map (·.1)).Nodup := by
      cases lk G a with
      | none => exact h0
      | some s => exact put_src h0
    cases lk G b with
    | none => exact this
    | some s => exact put_src this
theorem Two.good {n : Nat} {F G L : Tbl} (w : Two n F G L) : Good n F := good_lk w.nf (fun s t h => w.ga.lk_rng ((w.f s).symm.trans h)) fun s s' t h h' => w.ga.inj ((w.f s).symm.trans h) ((w.f s').symm.trans h')
theorem Two.canon {n : Nat} {F G L : Tbl} (w : Two n F G L) : canon n F = L := canon_of w.ga w.f
theorem Two.gl {n : Nat} {F G L : Tbl} (w : Two n F G L) : G.length ≤ n := by
  have := nodup_len n (G.map (·.1)) w.ng fun x hx => by
    obtain ⟨p, hp, rfl⟩ := List.mem_map.mp hx
    exact (w.ga.lk_rng ((w.g p.2 p.1).mp (lk_of w.ng hp))).2
  simpa using this
theorem upd_selfH {H : Hp} {a : Addr} {o : HO} (h : H a = some o) : upd H a o = H := by
  funext b
  by_cases e : b = a
  · rw [e, upd_same, h]
  · rw [upd_ne e]
section
variable {X : Cx} {o e f : Expr} {apos cpos : Pos} {td ty tx : TE}
/-- d.pop(k, x), there or not, told at once -/
def tDPopO (td ty tx : TE) : TE := fun σ H Q => td σ H fun x H1 => ∃ a, x = .ref a ∧ IsD H1 a ∧ ty σ H1 fun y H2 => tx σ H2 fun z H3 => ∃ kvs k, H3 a = some (.dK kvs) ∧ y = kV k ∧ Q ((valV kvs k).getD z) (upd H3 a (.dK (dropK kvs k)))
theorem pe_dpopO (ho : PE X o td) (he : PE X e ty) (hf : PE X f tx) (m : M2 X o "pop" apos e f cpos) : PE X (.Call (.Attribute o "pop" apos) [e, f] [] cpos) (tDPopO td ty tx) := by
  refine ⟨fun pins s σ H Q I h => ?_⟩
  refine wpAny_Call_method m.base m.few m.line PySem.F.plainAttrs_dict PySem.F.slot_dict_pop PySem.F.type_dict_pop (thn (ho.run pins s σ H _ I h) fun u s1 ⟨x, H1, I1, rx, a, ex, d, q1⟩ => ?_)
  subst ex
  obtain rfl : u = Value.ref a := rx
  obtain ⟨t1, t2, _⟩ := isD_at I1 d
  refine ⟨t1, t2, ?_⟩
  rw [m.trees]
  refine Calls.callWith_builtin rfl (Calls.evalArgs_plain (Calls.spliced_cons (thn (he.run pins s1 σ H1 _ I1 q1) fun iv s2 ⟨y, H2, I2, ry, q2⟩ =>
    Calls.spliced_cons (thn (hf.run pins s2 σ H2 _ I2 q2) fun fv s3 ⟨z, H3, I3, rz, kvs, k, ea, ey, q3⟩ => Calls.spliced_nil ?_))))
  subst ey
  cases l : valV kvs k with
  | some v =>
    rw [l] at q3
    exact d_pop I3 ea ry l (.inr ⟨fv, rfl⟩) fun w' s4 I4 rw' => ⟨v, _, I4, rw', q3⟩
  | none =>
    rw [l, dropK_no (valV_not l), upd_selfH ea] at q3
    exact d_popD I3 ea ry l fun s4 I4 => ⟨z, H3, I4, rz, q3⟩
/-- o[i] = v in a tuple target, o a dict -/
def rSetD : TSet := fun o i v H Q => ∃ a H4, o = .ref a ∧ DPut H a i v H4 ∧ Q H4
theorem set_dict (hu : X.A.units + 1 < cLine) : PSet X rSetD := by
  intro pins s σ H o i v ov iv u Q I ro ri rv h
  obtain ⟨a, H4, rfl, g, q⟩ := h
  obtain rfl : ov = Value.ref a := ro
  exact d_setItem hu I g ri rv fun s4 I4 => ⟨H4, I4, q⟩
end
section
variable {P : Program} {w : World} {K : PySem.W.Frag} {mg : Str → Option Value} {base : Heap}
def StepsOk (n : Nat) (sts : List Step) : Prop := ∀ st ∈ sts, st.Ok n
def spFirst : Sp := fun vs H Q _ => ∃ (n : Nat) (v : Addr) (xs : List V) (sts : List Step), vs = [.int n, .ref v] ∧ H v = some (.lst xs) ∧ Paired (StepAt H) xs sts ∧ StepsOk n sts ∧ ∀ H', Fr [] H H' → Q .non H'
theorem refs_step {H : Hp} {xs : List V} {sts : List Step} (p : Paired (StepAt H) xs sts) : RefsO xs := by
  induction p with
  | nil => exact fun x h => by cases h
  | cons a t ih =>
    intro x h
    rcases List.mem_cons.mp h with e | e
    · obtain ⟨t, rfl, _⟩ := a
      exact ⟨t, e⟩
    · exact ih x e
abbrev nFirst : List Str := ["size", "value", "position", "step"]
theorem sc_first : FnScope nFirst ["size", "value"] (defScope (top 31)) := ⟨rfl, rfl, rfl, by decide +kernel, rfl, by decide +kernel, by decide +kernel⟩
theorem g_first (T : Txt K mg) : GC P w K mg base CX0 4 "first_invalid" ["size", "value"] spFirst := by
  have G := g_is_step (P := P) (w := w) (base := base) T
  refine gc0_of (T.fn 31 (by decide)) sc_first (fun vs H Q E h => ?_) (fun f cdv A outer s H vs Q E hr h => ?_) fun _ _ _ _ _ _ us hl => match us, hl with | [_, _], _ => rfl
  · obtain ⟨_, _, _, _, rfl, _⟩ := h
    rfl
  · obtain ⟨n, v, xs, sts, rfl, hv, hp, ok, k⟩ := h
    have nd := sc_first.nd
    refine ⟨_, pss_cons (ps_if (pt_not (pt_val (pe_callB call_isi (by rfl) (T.z "isinstance") (by decide +kernel) (pa_cons (pv 1) (pa_cons (pe_bltn (v := .ty "list") (by rfl) (T.z "list") (by decide +kernel) rfl) pa_nil))))) (pss_one ps_never) pss_nil)
      (pss_cons (ps_for PassesOwn.never rfl (pi_enum (by rfl) (T.z "enumerate") (pa_cons (pv 1) pa_nil)) (pg_tup rfl (pgs_cons (pg_name (i := 2) nd rfl (Or.inl rfl)) (pgs_cons (pg_name (i := 3) nd rfl (Or.inl rfl)) pgs_nil)))
        (pss_one (ps_if (pt_not (pt_val (pe_gc G hr pass0 (pa_cons (pv 0) (pa_cons (pv 3) pa_nil))))) (pss_one ps_never) pss_nil)))
      (pss_one (ps_ret pe_non))), ?_⟩
    refine ⟨_, rfl, _, _, _, _, true, rfl, .ty "list", .base (.lst hv), kit_ty (by decide +kernel), true, rfl, iteF ?_⟩
    refine ⟨_, rfl, v, _, rfl, SqL.of hv, ?_⟩
    have mi := mut_refs (refs_step hp)
    refine for_it (walk_enum (xs := xs)) (fun i σ H' => ∃ x2 x3, σ = [some (.int n), some (.ref v), x2, x3] ∧ Fr [] H H') ?_ ?_ ?_ ?_
    · exact ⟨_, _, rfl, Fr.refl⟩
    · rintro i σ H' _ ⟨_, _, _, fr⟩
      exact SqL.of (fr.imm hv mi)
    · rintro i x σ H1 _ hi ⟨x2, x3, rfl, fr⟩ ⟨T', xa, xb, rfl, hT, rfl, hxa, hxb⟩
      obtain rfl := Option.some.inj hxa
      obtain ⟨st, hst, t, rfl, ht⟩ := pr_get' hp hxb
      refine ⟨T', _, rfl, SqT.of upd_same, rfl, _, _, rfl, _, _, rfl, rfl, ?_⟩
      have f1 : Fr [] H (upd H1 T' (.tup [V.int (i : Nat), V.ref t])) := fr.newer hT
      refine ⟨_, rfl, _, rfl, n, t, st, rfl, f1.imm ht rfl, ok _ (List.mem_of_getElem? hst), fun H2 f2 => ⟨_, rfl, iteF ⟨_, _, rfl, f1.trans f2⟩⟩⟩
    · rintro σ H' ⟨x2, x3, rfl, fr⟩
      exact k H' fr
def stepsT (l : Tbl) (sts : List Step) : Tbl := sts.foldl steppedT l
theorem steps_ga {n : Nat} : ∀ {sts : List Step} {l : Tbl}, GA n l → StepsOk n sts → GA n (stepsT l sts)
  | [], _, g, _ => g
  | st :: r, l, g, ok => steps_ga (sts := r) (stepped_ga g (ok st List.mem_cons_self)) fun x hx => ok x (List.mem_cons_of_mem _ hx)
def oV (o : Option Int) : V := (o.map V.int).getD .non
theorem oV_eq (o : Option Int) : (o.map V.int).getD .non = oV o := rfl
theorem putO_len (F : Tbl) (o : Option Int) (t : Int) : (putO F o t).length ≤ F.length + 1 := by
  cases o with
  | none => exact Nat.le_succ _
  | some s => exact putT_len _ _ _
theorem putR_len (F : Tbl) (o : Option Int) (t : Int) : (putR F o t).length ≤ F.length + 1 := by
  cases o with
  | none => exact Nat.le_succ _
  | some s => exact putT_len _ _ _
theorem drop_len (F : Tbl) (s : Int) : (dropT F s).length ≤ F.length := List.length_filter_le _ _
/-- what after_list gives: the table's like, in some order -/
def spAfter : Sp := fun vs H Q _ => ∃ (n : Nat) (d v : Addr) (l : Tbl) (xs : List V) (sts : List Step), vs = [.ref d, .ref v] ∧ H d = some (.dK (kz l)) ∧ GA n l ∧ n ≤ 100 ∧ H v = some (.lst xs) ∧ Paired (StepAt H) xs sts ∧ StepsOk n sts ∧
  ∀ H' p F, Fr [] H H' → H' p = some (.dK (kz F)) → Good n F → canon n F = stepsT l sts → Q (.ref p) H'
abbrev nAfter : List Str := ["arrows", "steps", "found", "source", "target", "places", "step", "one", "other"]
theorem sc_after : FnScope nAfter ["arrows", "steps"] (defScope (top 32)) := ⟨rfl, rfl, rfl, by decide +kernel, rfl, by decide +kernel, by decide +kernel⟩
theorem g_after (T : Txt K mg) : GC P w K mg base CX0 1 "after_list" ["arrows", "steps"] spAfter := by
  refine gc0_of (T.fn 32 (by decide)) sc_after (fun vs H Q E h => ?_) (fun f cdv A outer s H vs Q E hr h => ?_) fun _ _ _ _ _ _ us hl => match us, hl with | [_, _], _ => rfl
  · obtain ⟨_, _, _, _, _, _, rfl, _⟩ := h
    rfl
  · obtain ⟨n, d, v, l, xs, sts, rfl, hd, ga, n1, hv, hp, ok, k⟩ := h
    have nd := sc_after.nd
    have hu := huH (L2H.roomH_of hr)
    refine ⟨_, pss_cons (ps_set (i := 2) nd rfl (Or.inl rfl) (pe_callTy call_dictD (by rfl) (T.z "dict") (by decide +kernel) (pa_cons (pv 0) pa_nil)))
      (pss_cons (ps_lock (ps_setDc (i := 5) (own := [("source", 3), ("target", 4)]) (g := gTup K 2 (gCons (gName 3) (gCons (gName 4) gNil))) (tt := tYes) rfl nd rfl rfl (sw_trueD rfl rfl rfl (by decide +kernel)) (pi_items (pv 0))
          (blkOk_by (own := [("source", 3), ("target", 4)]) (N := nAfter) (sc := defScope (top 32)) (by decide +kernel))
          (fun _ _ _ _ _ => pg_tup rfl (pgs_cons (pg_name (i := 3) nd rfl (Or.inl rfl)) (pgs_cons (pg_name (i := 4) nd rfl (Or.inl rfl)) pgs_nil))) (fun _ _ _ _ _ => pts_nil) (fun _ _ _ _ _ => pv 4) (fun _ _ _ _ _ => pv 3)))
      (pss_cons (ps_for PassesOwn.never rfl (pi_list (pv 1)) (pg_name (i := 6) nd rfl (Or.inl rfl))
        (pss_one (ps_if (pt_cmpR op_eq (pe_ix ix_tup (pv 6) pe_int (fun _ _ => rfl)) pe_str (nomark _))
          (pss_one (ps_if (pt_cmp (pc_din hu (pe_ix ix_tup (pv 6) pe_int (fun _ _ => rfl)) (pv 2)))
            (pss_one (ps_expr (pe_dpop1 (pv 5) (pe_dpop1 (pv 2) (pe_ix ix_tup (pv 6) pe_int (fun _ _ => rfl)) ⟨rfl, rfl, rfl, rfl⟩) ⟨rfl, rfl, rfl, rfl⟩))) pss_nil))
          (pss_cons (ps_par (i := 7) (j := 8) rfl nd rfl rfl (by decide) rfl rfl (pa_cons (pe_dpopO (pv 5) (pe_ix ix_tup (pv 6) pe_int (fun _ _ => rfl)) pe_non ⟨rfl, rfl, rfl, rfl⟩) (pa_cons (pe_dpopO (pv 5) (pe_ix ix_tup (pv 6) pe_int (fun _ _ => rfl)) pe_non ⟨rfl, rfl, rfl, rfl⟩) pa_nil)) (by rfl))
          (pss_one (ps_for PassesOwn.never rfl (pi_tup (pe_tup (pa_cons (pe_tup (pa_cons (pv 7) (pa_cons (pe_ix ix_tup (pv 6) pe_int (fun _ _ => rfl)) pa_nil))) (pa_cons (pe_tup (pa_cons (pv 8) (pa_cons (pe_ix ix_tup (pv 6) pe_int (fun _ _ => rfl)) pa_nil))) pa_nil))))
            (pg_tup rfl (pgs_cons (pg_name (i := 3) nd rfl (Or.inl rfl)) (pgs_cons (pg_name (i := 4) nd rfl (Or.inl rfl)) pgs_nil)))
            (pss_one (ps_if (pt_cmpR op_notN (pv 3) pe_non (nomark _))
              (pss_one (ps_asg (pe_tup (pa_cons (pv 4) (pa_cons (pv 3) pa_nil))) (pg_tup rfl (pgs_cons (pg_sub (pv 2) (pv 3) (set_dict hu)) (pgs_cons (pg_sub (pv 5) (pv 4) (set_dict hu)) pgs_nil))))) pss_nil))))))))
      (pss_one (ps_ret (pv 2))))), ?_⟩
    refine ⟨_, rfl, d, _, rfl, .inl hd, fun pF hpF => ?_⟩
    have ndF : d ≠ pF := ne_of_none hd hpF
    have a1 : (upd H pF (.dK (kz l))) pF = some (.dK (kz l)) := upd_same
    have a2 : (upd H pF (.dK (kz l))) d = some (.dK (kz l)) := (upd_ne ndF).trans hd
    have a0 : Same H (upd H pF (.dK (kz l))) := fun b o e => by rw [upd_ne (ne_of_none e hpF)]; exact e
    generalize upd H pF (.dK (kz l)) = H1 at a0 a1 a2 ⊢
    refine ⟨d, _, a2, trivial, fun od => ?_⟩
    refine ⟨_, rfl, d, od, kz l, rfl, upd_same, fun D hD => ?_⟩
    obtain ⟨hD0, neD⟩ := lock_none a2 hD
    have hDH : H D = none := by
      cases e : H D with
      | none => rfl
      | some o => rw [a0 _ _ e] at hD0; cases hD0
    have FD : pF ≠ D := ne_of_none a1 hD0
    refine dc_it walk_items (fun i H' => H' D = some (.dK (kz (invT (l.take i)))) ∧ SameX D (upd H1 d (.frz od (.dK (kz l)))) H') ?_ ?_ ?_ ?_
    · exact ⟨upd_same, fun q o hq ho => by rw [upd_ne hq]; exact ho⟩
    · rintro i H' _ ⟨_, s⟩
      exact s _ _ neD.symm upd_same
    · rintro i _ H2 _ hi ⟨p1, p2⟩ ⟨T', x1, y1, rfl, hT, rfl, hx, hy⟩
      have hli : i < l.length := by simpa [kz_len] using hi
      simp only [kz_get hli, Option.map_some, Option.some.injEq] at hx hy
      subst hx hy
      have tD : D ≠ T' := ne_of_none p1 hT
      refine ⟨T', _, rfl, SqT.of upd_same, rfl, _, _, rfl, _, _, rfl, rfl, ?_⟩
      refine ⟨rfl, _, rfl, _, rfl, _, Sum.inl l[i].2, rfl, (upd_ne tD).trans p1, ?_, ?_, ?_⟩
      · rw [kz_len, inv_len]
        have := ga.len
        exact small1000 (by simp; omega)
      · rw [upd_same]
        show some (HO.dK (putK _ _ (V.int l[i].1))) = _
        rw [putK_new _ (by rw [valV_kz, inv_no ga.toGood hli]; rfl), inv_take hli]
        simp [kz]
      · intro q o hq ho
        have := p2 q o hq ho
        rw [upd_ne hq, upd_ne (ne_of_none this hT)]
        exact this
    · rintro H' ⟨p1, p2⟩
      rw [kz_len, List.take_length] at p1
      refine ⟨p2 _ _ neD.symm upd_same, ?_⟩
      have s0 := lock_same a2 hD p2
      have c1 : (upd H' d (.dK (kz l))) D = some (.dK (kz (invT l))) := (upd_ne neD).trans p1
      generalize upd H' d (.dK (kz l)) = H2 at s0 c1 ⊢
      have f0 : Fr [] H H2 := same_fr (a0.trans s0) []
      have mi := mut_refs (refs_step hp)
      refine ⟨_, rfl, v, rfl, ⟨_, SqL.of (f0.imm hv mi)⟩, ?_⟩
      refine for_it (walk_list (xs := xs)) (fun i σ H' => ∃ F G x3 x4 x6 x7 x8, σ = [some (.ref d), some (.ref v), some (.ref pF), x3, x4, some (.ref D), x6, x7, x8] ∧ Two n F G (stepsT l (sts.take i)) ∧ H' pF = some (.dK (kz F)) ∧ H' D = some (.dK (kz G)) ∧ Fr [] H H') ?_ ?_ ?_ ?_
      · exact ⟨l, invT l, _, _, _, _, _, rfl, Two.start ga, s0 _ _ a1, c1, f0⟩
      · rintro i σ H' _ ⟨_, _, _, _, _, _, _, _, _, _, _, fr⟩
        exact SqL.of (fr.imm hv mi)
      · rintro i x σ _ H3 hi ⟨F, G, x3, x4, x6, x7, x8, rfl, tw, hF, hG, fr⟩ ⟨rfl, hx⟩
        obtain ⟨st, hst, t, rfl, ht0⟩ := pr_get' hp hx
        have ht := fr.imm ht0 rfl
        have okst := ok _ (List.mem_of_getElem? hst)
        have hsl : i < sts.length := (List.getElem?_eq_some_iff.mp hst).1
        have htk : stepsT l (sts.take (i + 1)) = steppedT (stepsT l (sts.take i)) st := by
          unfold stepsT
          rw [List.take_succ_eq_append_getElem hsl, List.foldl_append, (List.getElem?_eq_some_iff.mp hst).2]
          rfl
        rw [htk]
        generalize stepsT l (sts.take i) = L at tw ⊢
        have tF : t ≠ pF := ne_of ht hF (by intro z; cases z)
        have tD : t ≠ D := ne_of ht hG (by intro z; cases z)
        refine ⟨_, rfl, t, _, _, _, rfl, rfl, SqT.of ht, st.at0, rfl, _, rfl, ?_⟩
        cases st with
        | forget a =>
          rw [decide_eq_true (show V.str (Step.forget a).nm = V.str "forget" from rfl)]
          refine iteT ⟨_, rfl, t, _, 1, V.int a, rfl, rfl, SqT.of ht, rfl, _, rfl, pF, _, rfl, DGet.k (k := Sum.inl a) hF, _, rfl, ?_⟩
          rw [valV_kz]
          cases e : lk F a with
          | none => exact iteF ⟨F, G, _, _, _, _, _, rfl, tw.forget_no okst e, hF, hG, fr⟩
          | some u =>
            refine iteT ⟨_, rfl, D, rfl, .inl ⟨_, .inl hG⟩, _, rfl, pF, rfl, .inl ⟨_, .inl hF⟩, _, rfl, t, _, 1, V.int a, rfl, rfl, SqT.of ht, rfl, _, Sum.inl a, V.int u, hF, rfl, by rw [valV_kz, e]; rfl, _, Sum.inl u, V.int a, (upd_ne FD.symm).trans hG, rfl, ?_, ?_⟩
            · rw [valV_kz, (tw.g a u).mpr ((tw.f a).symm.trans e)]
              rfl
            · refine ⟨dropT F a, dropT G u, _, _, _, _, _, rfl, tw.forget e, ?_, ?_, (fr.new hpF).new hDH⟩
              · rw [upd_ne FD, upd_same, dropK_kz]
              · rw [upd_same, dropK_kz]
        | swap a b =>
          rw [decide_eq_false (show ¬ V.str (Step.swap a b).nm = V.str "forget" by intro z; cases z)]
          refine iteF ?_
          refine ⟨_, rfl, D, rfl, .inl ⟨_, .inl hG⟩, _, rfl, t, _, 1, V.int a, rfl, rfl, SqT.of ht, rfl, _, Sum.inl a, hG, rfl, ?_⟩
          rw [dropK_kz, valV_kz, oV_eq]
          have hG1 : (upd H3 D (.dK (kz (dropT G a)))) D = some (.dK (kz (dropT G a))) := upd_same
          have ht1 := (upd_ne (o := HO.dK (kz (dropT G a))) tD).trans ht
          refine ⟨_, rfl, D, rfl, .inl ⟨_, .inl hG1⟩, _, rfl, t, _, 2, V.int b, rfl, rfl, SqT.of ht1, rfl, _, Sum.inl b, hG1, rfl, ?_⟩
          rw [dropK_kz, valV_kz, upd_upd, lk_drop, if_neg (fun z => okst.2.2 z.symm), oV_eq]
          refine ⟨_, _, rfl, ?_⟩
          have b1 : (upd H3 D (.dK (kz (dropT (dropT G a) b)))) pF = some (.dK (kz F)) := (upd_ne FD).trans hF
          have b2 : (upd H3 D (.dK (kz (dropT (dropT G a) b)))) D = some (.dK (kz (dropT (dropT G a) b))) := upd_same
          have b3 := (upd_ne (o := HO.dK (kz (dropT (dropT G a) b))) tD).trans ht
          have fr2 : Fr [] H (upd H3 D (.dK (kz (dropT (dropT G a) b)))) := fr.new hDH
          generalize upd H3 D (.dK (kz (dropT (dropT G a) b))) = H4 at b1 b2 b3 fr2 ⊢
          refine ⟨_, rfl, _, rfl, t, _, 2, V.int b, rfl, rfl, SqT.of b3, rfl, by show 2 ≤ sizeLine; decide, fun t1 ht1 => ?_⟩
          have tt1 : t ≠ t1 := ne_of_none b3 ht1
          refine ⟨_, rfl, _, rfl, t, _, 1, V.int a, rfl, rfl, SqT.of ((upd_ne tt1).trans b3), rfl, by show 2 ≤ sizeLine; decide, fun t2 ht2 => ?_⟩
          refine ⟨by show 2 ≤ sizeLine; decide, fun t3 ht3 => ?_⟩
          have up : ∀ q o, H4 q = some o → (upd (upd (upd H4 t1 (.tup [oV (lk G a), V.int b])) t2 (.tup [oV (lk G b), V.int a])) t3 (.tup [V.ref t1, V.ref t2])) q = some o := fun q o e => by
            have e1 := (upd_ne (o := HO.tup [oV (lk G a), V.int b]) (ne_of_none e ht1)).trans e
            have e2 := (upd_ne (o := HO.tup [oV (lk G b), V.int a]) (ne_of_none e1 ht2)).trans e1
            exact (upd_ne (ne_of_none e2 ht3)).trans e2
          have d1 : (upd (upd (upd H4 t1 (.tup [oV (lk G a), V.int b])) t2 (.tup [oV (lk G b), V.int a])) t3 (.tup [V.ref t1, V.ref t2])) t1 = some (.tup [oV (lk G a), V.int b]) := by
            have e1 : (upd H4 t1 (.tup [oV (lk G a), V.int b])) t1 = some (.tup [oV (lk G a), V.int b]) := upd_same
            have e2 := (upd_ne (o := HO.tup [oV (lk G b), V.int a]) (ne_of_none e1 ht2)).trans e1
            exact (upd_ne (ne_of_none e2 ht3)).trans e2
          have d2 : (upd (upd (upd H4 t1 (.tup [oV (lk G a), V.int b])) t2 (.tup [oV (lk G b), V.int a])) t3 (.tup [V.ref t1, V.ref t2])) t2 = some (.tup [oV (lk G b), V.int a]) := by
            have e2 : (upd (upd H4 t1 (.tup [oV (lk G a), V.int b])) t2 (.tup [oV (lk G b), V.int a])) t2 = some (.tup [oV (lk G b), V.int a]) := upd_same
            exact (upd_ne (ne_of_none e2 ht3)).trans e2
          have d3 : (upd (upd (upd H4 t1 (.tup [oV (lk G a), V.int b])) t2 (.tup [oV (lk G b), V.int a])) t3 (.tup [V.ref t1, V.ref t2])) t3 = some (.tup [V.ref t1, V.ref t2]) := upd_same
          have g1 := up _ _ b1
          have g2 := up _ _ b2
          have fr3 : Fr [] H (upd (upd (upd H4 t1 (.tup [oV (lk G a), V.int b])) t2 (.tup [oV (lk G b), V.int a])) t3 (.tup [V.ref t1, V.ref t2])) := fun q o e m => up q o (fr2 q o e m)
          refine ⟨t3, rfl, ⟨_, SqT.of d3⟩, ?_⟩
          generalize upd (upd (upd H4 t1 (.tup [oV (lk G a), V.int b])) t2 (.tup [oV (lk G b), V.int a])) t3 (.tup [V.ref t1, V.ref t2]) = H5 at d1 d2 d3 g1 g2 fr3 ⊢
          have F5 : pF ≠ t3 := ne_of g1 d3 (by intro z; cases z)
          obtain ⟨FF, hFF⟩ : ∃ FF : Nat → Tbl, FF = fun j => if j = 0 then F else if j = 1 then putO F (lk G a) b else putO (putO F (lk G a) b) (lk G b) a := ⟨_, rfl⟩
          obtain ⟨GG', hGG⟩ : ∃ FF : Nat → Tbl, FF = fun j => if j = 0 then dropT (dropT G a) b else if j = 1 then putR (dropT (dropT G a) b) (lk G a) b else putR (putR (dropT (dropT G a) b) (lk G a) b) (lk G b) a := ⟨_, rfl⟩
          have lF : F.length ≤ 100 := Nat.le_trans tw.good.len n1
          have lG : (dropT (dropT G a) b).length ≤ 100 := Nat.le_trans (drop_len _ _) (Nat.le_trans (drop_len _ _) (Nat.le_trans tw.gl n1))
          refine for_it (walk_tup (xs := [V.ref t1, V.ref t2])) (fun j σ H' => ∃ x3 x4, σ = [some (.ref d), some (.ref v), some (.ref pF), x3, x4, some (.ref D), some (.ref t), some (oV (lk G a)), some (oV (lk G b))] ∧
            H' pF = some (.dK (kz (FF j))) ∧ H' D = some (.dK (kz (GG' j))) ∧ (FF j).length ≤ 100 + j ∧ (GG' j).length ≤ 100 + j ∧
            H' t1 = some (.tup [oV (lk G a), V.int b]) ∧ H' t2 = some (.tup [oV (lk G b), V.int a]) ∧ H' t3 = some (.tup [V.ref t1, V.ref t2]) ∧ Fr [] H H') ?_ ?_ ?_ ?_
          · subst hFF hGG
            exact ⟨_, _, rfl, g1, g2, lF, lG, d1, d2, d3, fr3⟩
          · rintro j σ H' _ ⟨_, _, _, _, _, _, _, _, _, h3, _⟩
            exact SqT.of h3
          · rintro j x σ _ H6 hj ⟨x3, x4, rfl, k1, k2, l1, l2, k3, k4, k5, k6⟩ ⟨rfl, hx⟩
            have hj2 : j < 2 := hj
            obtain ⟨tp, o, tt, rfl, k7, eF, eG⟩ : ∃ tp o tt, x = V.ref tp ∧ H6 tp = some (.tup [oV o, V.int tt]) ∧ FF (j + 1) = putO (FF j) o tt ∧ GG' (j + 1) = putR (GG' j) o tt := by
              rcases (show j = 0 ∨ j = 1 by omega) with rfl | rfl
              · cases hx
                exact ⟨t1, _, _, rfl, k3, by rw [hFF]; rfl, by rw [hGG]; rfl⟩
              · cases hx
                exact ⟨t2, _, _, rfl, k4, by rw [hFF]; rfl, by rw [hGG]; rfl⟩
            refine ⟨tp, _, rfl, SqT.of k7, rfl, _, _, rfl, _, _, rfl, rfl, ?_⟩
            refine ⟨_, rfl, rfl, _, rfl, ?_⟩
            cases o with
            | none =>
              rw [decide_eq_true (show oV none = V.non from rfl)]
              refine iteF ⟨_, _, rfl, ?_, ?_, ?_, ?_, k3, k4, k5, k6⟩
              · rw [eF]; exact k1
              · rw [eG]; exact k2
              · rw [eF]; exact Nat.le_succ_of_le l1
              · rw [eG]; exact Nat.le_succ_of_le l2
            | some s1 =>
              rw [decide_eq_false (show ¬ oV (some s1) = V.non from fun z => by cases z)]
              refine iteT ⟨_, rfl, _, rfl, by show 2 ≤ sizeLine; decide, fun t4 ht4 => ?_⟩
              have n4F : pF ≠ t4 := ne_of_none k1 ht4
              have n4D : D ≠ t4 := ne_of_none k2 ht4
              refine ⟨t4, _, rfl, SqT.of upd_same, rfl, _, _, rfl, _, rfl, _, rfl, pF, _, rfl, DPut.k (k := Sum.inl s1) ((upd_ne n4F).trans k1) (by rw [kz_len]; exact small1000 (by omega)), ?_⟩
              refine ⟨_, _, rfl, _, rfl, _, rfl, D, _, rfl, DPut.k (k := Sum.inl tt) ((upd_ne FD.symm).trans ((upd_ne n4D).trans k2)) (by rw [kz_len]; exact small1000 (by omega)), rfl, ?_⟩
              have oth : ∀ q u, q ≠ pF → q ≠ D → H6 q = some u → (upd (upd (upd H6 t4 (.tup [V.int tt, oV (some s1)])) pF (.dK (putK (kz (FF j)) (Sum.inl s1) (V.int tt)))) D (.dK (putK (kz (GG' j)) (Sum.inl tt) (oV (some s1))))) q = some u := fun q u h1 h2 e => by
                rw [upd_ne h2, upd_ne h1, upd_ne (ne_of_none e ht4)]
                exact e
              have nt : ∀ q ys, H6 q = some (.tup ys) → q ≠ pF ∧ q ≠ D := fun q ys e => ⟨ne_of e k1 (by intro z; cases z), ne_of e k2 (by intro z; cases z)⟩
              refine ⟨_, _, rfl, ?_, ?_, ?_, ?_, oth _ _ (nt _ _ k3).1 (nt _ _ k3).2 k3, oth _ _ (nt _ _ k4).1 (nt _ _ k4).2 k4, oth _ _ (nt _ _ k5).1 (nt _ _ k5).2 k5, ?_⟩
              · rw [upd_ne FD, upd_same, eF, putK_kz]
                rfl
              · rw [upd_same, eG]
                show some (HO.dK (putK (kz (GG' j)) (Sum.inl tt) (V.int s1))) = _
                rw [putK_kz]
                rfl
              · rw [eF]; exact Nat.le_trans (putO_len _ _ _) (by omega)
              · rw [eG]; exact Nat.le_trans (putR_len _ _ _) (by omega)
              · exact ((k6.newer ht4).new hpF).new hDH
          · rintro σ H' ⟨x3, x4, rfl, k1, k2, _, _, k3, k4, k5, k6⟩
            subst hFF hGG
            exact ⟨_, _, _, _, _, _, _, rfl, tw.swap okst, k1, k2, k6⟩
      · rintro σ H' ⟨F, G, x3, x4, x6, x7, x8, rfl, tw, hF, hG, fr⟩
        have e : sts.take xs.length = sts := by rw [Paired.length hp, List.take_length]
        rw [e] at tw
        exact ⟨_, rfl, k H' pF F fr hF tw.good tw.canon⟩
end
end K74
end
-- K74S
section
set_option maxRecDepth 100000
set_option maxHeartbeats 4000000
/-! Sessions: made, read. -/
namespace K74
open PySem PySem.Spec PyProof.Rows L2
/-- what both session classes have -/
structure SC (K : PySem.W.Frag) (C : Addr) : Prop where
  cf : CF K C
  na : ∀ x ∈ sesFields, NoAttr K C x
  ms : ∀ p ∈ keepMeths, MF K C (nameOf (sub 38 p.1)) p.2 (sub 38 p.1)
  pr : PrF K C "present" "Session.present" (sub 38 1)
  is : PySem.W.kitOne K (.ref C) (.ref (cS K)) = some true
theorem fs_len (I : SI) (a b c : Addr) : (I.fs a b c).length < 1000 := by
  unfold SI.fs SI.ex
  cases I.least <;> simp
def trialFs (s pr lg ea : Addr) : List (Str × V) := [("session", .ref s), ("kept_map", .ref pr), ("kept_log", .ref lg), ("kept_maps", .ref ea)]
theorem trial_ne {C C' d d' : Addr} {I : SI} {a b c e x y z : Addr} : HO.ins C d (trialFs a b c e) ≠ HO.ins C' d' (I.fs x y z) := fun h => by
  have h := (HO.ins.inj h).2.2
  exact absurd (Prod.mk.inj (List.cons.inj h).1).1 (by decide)
theorem nil_ne {C C' d d' : Addr} {I : SI} {x y z : Addr} : HO.ins C d (I.fs x y z) ≠ HO.ins C' d' [] := fun h => by
  have h := (HO.ins.inj h).2.2
  cases h
section
variable {P : Program} {w : World} {K : PySem.W.Frag} {mg : Str → Option Value} {base : Heap}
theorem Txt.scS (T : Txt K mg) : SC K (cS K) := ⟨T.fS, T.nS, fun p hp => T.mS p (by revert p; decide +kernel), T.pS, kitSelf⟩
theorem Txt.scK (T : Txt K mg) : SC K (cK K) := ⟨T.fK, T.nK, T.mSK, T.pSK, T.kindK⟩
theorem Txt.sc (T : Txt K mg) {I : SI} (ok : I.Ok K) : SC K I.C := by
  obtain ⟨C, dx, least⟩ := I
  cases least with
  | none => rw [show C = cS K from ok]; exact T.scS
  | some m => rw [show C = cK K from ok]; exact T.scK
/-! ### the trial -/
def spTrialInit (K : PySem.W.Frag) : Sp := fun vs H Q _ => ∃ (x dx s : Addr) (I : SI) (pr lg ea : Addr), vs = [.ref x, .ref s] ∧ H x = some (.ins (cT K) dx []) ∧ I.Ok K ∧ H s = some (.ins I.C I.dx (I.fs pr lg ea)) ∧
  ∀ H', SameX x H H' → H' x = some (.ins (cT K) dx [("session", .ref s), ("kept_map", .ref pr), ("kept_log", .ref lg), ("kept_maps", .ref ea)]) → Q .non H'
theorem sc_trial_init : FnScope ["self", "session"] ["self", "session"] (defScope (sub 37 0)) := ⟨rfl, rfl, rfl, by decide +kernel, rfl, by decide +kernel, by decide +kernel⟩
theorem k_Trial (T : Txt K mg) : KG P w K mg base (cT K) 1 "Trial" ["self", "session"] (spTrialInit K) := by
  obtain ⟨f, fd, F, M⟩ := T.iT
  suffices z : FnOk P w K mg base CX0 1 f fd ["self", "session"] (spTrialInit K) ∧ L2H.FnH P w K mg base CX0 1 f fd ["self", "session"] (spTrialInit K) from
    ⟨f, fd, z.1, z.2, M, F.binds fun _ _ _ _ _ _ us hl => match us, hl with | [_, _], _ => rfl, T.gT⟩
  refine fun_both F sc_trial_init (fun vs H Q E h => ?_) (fun cdv A outer s H vs Q E c pn cool hr h => ?_)
  · obtain ⟨_, _, _, _, _, _, _, rfl, _⟩ := h
    rfl
  · obtain ⟨x, dx, a, I, pr, lg, ea, rfl, hx, ok, ha, k⟩ := h
    have sc := T.sc ok
    refine ⟨_, pss_cons (ps_fld (pv 0) (pv 1) rfl) (pss_cons (ps_fld (pv 0) (pe_fld (pv 1) rfl) rfl) (pss_cons (ps_fld (pv 0) (pe_fld (pv 1) rfl) rfl) (pss_one (ps_fld (pv 0) (pe_fld (pv 1) rfl) rfl)))), ?_⟩
    have ne : a ≠ x := ne_of ha hx nil_ne
    refine ⟨_, rfl, _, rfl, x, _, dx, _, rfl, hx, T.fT.cl, T.nT _ (by decide +kernel), by decide, ?_⟩
    refine ⟨_, rfl, a, _, I.dx, _, _, rfl, (upd_ne ne).trans ha, sc.cf.cl, sc.na _ (by decide +kernel), rfl, _, rfl, x, _, dx, _, rfl, upd_same, T.fT.cl, T.nT _ (by decide +kernel), by show 1 < 1000; decide, ?_⟩
    rw [upd_upd]
    refine ⟨_, rfl, a, _, I.dx, _, _, rfl, (upd_ne ne).trans ha, sc.cf.cl, sc.na _ (by decide +kernel), rfl, _, rfl, x, _, dx, _, rfl, upd_same, T.fT.cl, T.nT _ (by decide +kernel), by show 2 < 1000; decide, ?_⟩
    rw [upd_upd]
    refine ⟨_, rfl, a, _, I.dx, _, _, rfl, (upd_ne ne).trans ha, sc.cf.cl, sc.na _ (by decide +kernel), rfl, _, rfl, x, _, dx, _, rfl, upd_same, T.fT.cl, T.nT _ (by decide +kernel), by show 3 < 1000; decide, ?_⟩
    rw [upd_upd]
    exact k _ (fun q o hq e => by rw [upd_ne hq]; exact e) upd_same
def spEnter (K : PySem.W.Frag) : Sp := fun vs H Q _ => ∃ (x dx s pr lg ea : Addr), vs = [.ref x] ∧ H x = some (.ins (cT K) dx (trialFs s pr lg ea)) ∧ Q (.ref s) H
theorem sc_enter : FnScope ["self"] ["self"] (defScope (sub 37 1)) := ⟨rfl, rfl, rfl, by decide +kernel, rfl, by decide +kernel, by decide +kernel⟩
theorem m_enter (T : Txt K mg) : MG P w K mg base (cT K) 1 "__enter__" ["self"] (spEnter K) := by
  refine mg_of (T.mT (1, "Trial.__enter__") (by decide +kernel)) sc_enter (fun vs H Q E h => ?_) (fun f cdv A outer s H vs Q E c pn cool hr h => ?_) fun _ _ _ _ _ _ us hl => match us, hl with | [_], _ => rfl
  · obtain ⟨_, _, _, _, _, _, rfl, _⟩ := h
    rfl
  · obtain ⟨x, dx, a, pr, lg, ea, rfl, hx, k⟩ := h
    exact ⟨_, pss_one (ps_ret (pe_fld (pv 0) rfl)), _, rfl, x, _, dx, _, _, rfl, hx, T.fT.cl, T.nT _ (by decide +kernel), rfl, k⟩
def spExit (K : PySem.W.Frag) : Sp := fun vs H Q _ => ∃ (x dx s pr lg ea pr' lg' ea' : Addr) (I : SI) (u v t : V), vs = [.ref x, u, v, t] ∧ H x = some (.ins (cT K) dx (trialFs s pr lg ea)) ∧ I.Ok K ∧ H s = some (.ins I.C I.dx (I.fs pr' lg' ea')) ∧ Q .non (upd H s (.ins I.C I.dx (I.fs pr lg ea)))
theorem sc_exit : FnScope ["self", "kind", "value", "trace"] ["self", "kind", "value", "trace"] (defScope (sub 37 2)) := ⟨rfl, rfl, rfl, by decide +kernel, rfl, by decide +kernel, by decide +kernel⟩
theorem m_exit (T : Txt K mg) : MG P w K mg base (cT K) 1 "__exit__" ["self", "kind", "value", "trace"] (spExit K) := by
  refine mg_of (T.mT (2, "Trial.__exit__") (by decide +kernel)) sc_exit (fun vs H Q E h => ?_) (fun f cdv A outer s H vs Q E c pn cool hr h => ?_) fun _ _ _ _ _ _ us hl => match us, hl with | [_, _, _, _], _ => rfl
  · obtain ⟨_, _, _, _, _, _, _, _, _, _, _, _, _, rfl, _⟩ := h
    rfl
  · obtain ⟨x, dx, a, pr, lg, ea, pr', lg', ea', I, u, v, t, rfl, hx, ok, ha, k⟩ := h
    have sc := T.sc ok
    refine ⟨_, pss_cons (ps_fld (pe_fld (pv 0) rfl) (pe_fld (pv 0) rfl) rfl) (pss_cons (ps_fld (pe_fld (pv 0) rfl) (pe_fld (pv 0) rfl) rfl) (pss_one (ps_fld (pe_fld (pv 0) rfl) (pe_fld (pv 0) rfl) rfl))), ?_⟩
    have ne : x ≠ a := ne_of hx ha trial_ne
    have hl : (I.fs pr' lg' ea').length < 1000 := fs_len _ _ _ _
    refine ⟨_, rfl, x, _, dx, _, _, rfl, hx, T.fT.cl, T.nT _ (by decide +kernel), rfl, _, rfl, x, _, dx, _, _, rfl, hx, T.fT.cl, T.nT _ (by decide +kernel), rfl, a, _, I.dx, _, rfl, ha, sc.cf.cl, sc.na _ (by decide +kernel), hl, ?_⟩
    have hx1 : ∀ o, (upd H a o) x = some (.ins (cT K) dx (trialFs a pr lg ea)) := fun o => (upd_ne ne).trans hx
    refine ⟨_, rfl, x, _, dx, _, _, rfl, hx1 _, T.fT.cl, T.nT _ (by decide +kernel), rfl, _, rfl, x, _, dx, _, _, rfl, hx1 _, T.fT.cl, T.nT _ (by decide +kernel), rfl, a, _, I.dx, _, rfl, upd_same, sc.cf.cl, sc.na _ (by decide +kernel), fs_len I pr lg' ea', ?_⟩
    rw [upd_upd]
    refine ⟨_, rfl, x, _, dx, _, _, rfl, hx1 _, T.fT.cl, T.nT _ (by decide +kernel), rfl, _, rfl, x, _, dx, _, _, rfl, hx1 _, T.fT.cl, T.nT _ (by decide +kernel), rfl, a, _, I.dx, _, rfl, upd_same, sc.cf.cl, sc.na _ (by decide +kernel), fs_len I pr lg ea', ?_⟩
    rw [upd_upd]
    exact k
/-! ### sessions made -/
def spSesInit (K : PySem.W.Frag) : Sp := fun vs H Q _ => ∃ (x C dx : Addr) (n : Nat), vs = [.ref x, .int n] ∧ SC K C ∧ H x = some (.ins C dx []) ∧ 1 ≤ n ∧ n ≤ 300 ∧
  ∀ H' pr lg ea, SameX x H H' → H' x = some (.ins C dx [("own_present", .ref pr), ("own_log", .ref lg), ("own_earlier", .ref ea)]) → MapAt K H' pr n (fullT n) → H' lg = some (.tup []) → H' ea = some (.tup []) → Q .non H'
theorem sc_ses_init : FnScope ["self", "size"] ["self", "size"] (defScope (sub 38 0)) := ⟨rfl, rfl, rfl, by decide +kernel, rfl, by decide +kernel, by decide +kernel⟩
theorem ses_init (T : Txt K mg) {f : Addr} {fd : FuncData} (F : Fun K "__init__" "Session.__init__" (sub 38 0) f fd) : FnOk P w K mg base CX0 7 f fd ["self", "size"] (spSesInit K) := by
  have G := g_check_size (P := P) (w := w) (base := base) T
  obtain ⟨mc, pp, gg, rd, cm, FR⟩ := (cm_ident (P := P) (w := w) (base := base) T).ex
  refine F.ok sc_ses_init (fun vs H Q E h => ?_) fun cdv A outer s H vs Q E hr h => ?_
  · obtain ⟨_, _, _, _, rfl, _⟩ := h
    rfl
  · obtain ⟨x, C, dx, n, rfl, sc, hx, n1, n2, k⟩ := h
    have hh := L2H.roomH_of hr
    refine ⟨_, pss_cons (ps_expr (pe_gg G (.inl rfl) hh (pa_cons (pv 1) pa_nil)))
      (pss_cons (ps_fld (pv 0) (ClX.pe_cmeth (pe_glob (v := .ref (cM K)) rfl T.gM rfl) rd cm FR (hr.mono (by decide)) pass0 (pa_cons (pv 1) pa_nil)) rfl)
      (pss_cons (ps_fld (pv 0) (pe_tup pa_nil) rfl) (pss_one (ps_fld (pv 0) (pe_tup pa_nil) rfl)))), ?_⟩
    refine ⟨_, rfl, n, rfl, by omega, by omega, ?_⟩
    refine ⟨rfl, _, rfl, n, rfl, n1, n2, fun H1 pr fr mp => ?_⟩
    refine ⟨_, rfl, x, C, dx, _, rfl, fr.imm hx rfl, sc.cf.cl, sc.na _ (by decide +kernel), by decide, ?_⟩
    have hx1 : H1 x = some (.ins C dx []) := fr.imm hx rfl
    have nx : pr ≠ x := fun e => by
      obtain ⟨dx', ad, h1, _⟩ := mp
      rw [e, hx1] at h1
      cases h1
    refine ⟨by show 0 ≤ sizeLine; decide, fun t1 ht1 => ?_⟩
    have x1 : x ≠ t1 := ne_of_none upd_same ht1
    refine ⟨_, rfl, x, C, dx, _, rfl, (upd_ne x1).trans upd_same, sc.cf.cl, sc.na _ (by decide +kernel), by show 1 < 1000; decide, ?_⟩
    refine ⟨by show 0 ≤ sizeLine; decide, fun t2 ht2 => ?_⟩
    have x2 : x ≠ t2 := ne_of_none upd_same ht2
    refine ⟨_, rfl, x, C, dx, _, rfl, (upd_ne x2).trans upd_same, sc.cf.cl, sc.na _ (by decide +kernel), by show 2 < 1000; decide, ?_⟩
    have ht1' : H1 t1 = none := by rwa [upd_ne x1.symm] at ht1
    have e12 : t2 ≠ t1 := fun z => by
      rw [z, upd_ne x1.symm, upd_same] at ht2
      cases ht2
    have ht2' : H1 t2 = none := by rwa [upd_ne x2.symm, upd_ne e12, upd_ne x2.symm] at ht2
    have old : ∀ q o, q ≠ x → H1 q = some o → (upd (upd (upd (upd (upd H1 x (.ins C dx (putF "own_present" (V.ref pr) []))) t1 (.tup [])) x (.ins C dx (putF "own_log" (V.ref t1) (putF "own_present" (V.ref pr) [])))) t2 (.tup [])) x
        (.ins C dx (putF "own_earlier" (V.ref t2) (putF "own_log" (V.ref t1) (putF "own_present" (V.ref pr) []))))) q = some o := fun q o hq e => by
      rw [upd_ne hq, upd_ne (ne_of_none e ht2'), upd_ne hq, upd_ne (ne_of_none e ht1'), upd_ne hq]
      exact e
    refine k _ pr t1 t2 (fun q o hq e => old q o hq (fr q o e fun _ => by simp)) upd_same ?_ ?_ ?_
    · obtain ⟨dx', ad, h1, h2⟩ := mp
      exact ⟨dx', ad, old _ _ nx h1, old _ _ (ne_of h2 hx1 (by intro z; cases z)) h2⟩
    · rw [upd_ne x1.symm, upd_ne e12.symm, upd_ne x1.symm, upd_same]
    · rw [upd_ne x2.symm, upd_same]
/-- a class named by the module, made by its __init__, where nothing is handled -/
structure KC (P : Program) (w : World) (K : PySem.W.Frag) (mg : Str → Option Value) (base : Heap) (C : Addr) (k : Nat) (x : Str) (ps : List Str) (sp : Sp) : Prop where
  ex : ∃ (f : Addr) (fd : FuncData), FnOk P w K mg base CX0 k f fd ps sp ∧ Mk K C f ∧ Binds K fd ps [] ∧ mg x = some (.ref C)
theorem kc_Session (T : Txt K mg) : KC P w K mg base (cS K) 7 "Session" ["self", "size"] (spSesInit K) := by
  obtain ⟨f, fd, F, M⟩ := T.iS
  exact ⟨f, fd, ses_init T F, M, F.binds fun _ _ _ _ _ _ us hl => match us, hl with | [_, _], _ => rfl, T.gS⟩
theorem mk_ses (T : Txt K mg) {H : Hp} {n : Nat} {Q : VK} (n1 : 1 ≤ n) (n2 : n ≤ 300) (h : ∀ H' s dx, Fr [] H H' → H s = none → SessAt K H' s ⟨cS K, dx, none⟩ n [fullT n] [] → Q (.ref s) H') :
    ∀ y dy, H y = none → H dy = none → dy ≠ y → spSesInit K [.ref y, .int n] (upd (upd H dy (.own y)) y (.ins (cS K) dy [])) (fun v H2 => v = .non ∧ Q (.ref y) H2) E0 := fun y dy hy hdy ne =>
  ⟨y, cS K, dy, n, rfl, T.scS, upd_same, n1, n2, fun H' pr lg ea s hs mp hl he => ⟨rfl, h H' y dy (s.fr hy hdy []) hy ⟨rfl, pr, lg, ea, hs, ⟨⟨[], hl, .nil⟩, ⟨[], he, .cons ⟨pr, rfl, mp⟩ .nil⟩⟩⟩⟩⟩
end
section
variable {X : Cx} {C : Addr} {j k : Nat} {x : Str} {ps : List Str} {sp : Sp} {e : Expr} {es : List Expr} {t : TA} {p pos : Pos}
theorem pe_kc (G : KC X.prog X.w X.K X.mg X.base C k x ps sp) (hr : Room j X.A) (ha : PA X (e :: es) t) (hj : k + 1 ≤ j := by decide) (hg : Gl X x := by rfl)
    (hdb : (x == ("__debug__" : Str)) = false := by decide) (he : starEach (e :: es) X.env = (false, eval e X.env) :: starEach es X.env := by rfl) (hpl : (backTo pos (starEach es X.env)).any (·.1) = false := by rfl) :
    PE X (.Call (.Name x p) (e :: es) [] pos) (tMake C sp [] E0 t) := by
  obtain ⟨f, fd, F1, M, hb, hm⟩ := G.ex
  exact pe_make M F1 (hr.mono hj) hg hm hb .nil pass0 ha hdb he hpl
end
end K74
end
-- K74U
section
set_option maxRecDepth 100000
set_option maxHeartbeats 4000000
/-! Sessions read. -/
namespace K74
open PySem PySem.Spec PyProof.Rows L2
section
variable {P : Program} {w : World} {K : PySem.W.Frag} {mg : Str → Option Value} {base : Heap} {C : Addr}
/-- the instance at s, its three fields -/
def SesI (H : Hp) (s C pr lg ea : Addr) : Prop := ∃ dx ex, H s = some (.ins C dx (("own_present", .ref pr) :: ("own_log", .ref lg) :: ("own_earlier", .ref ea) :: ex))
def spPresent (C : Addr) : Sp := fun vs H Q _ => ∃ (s pr lg ea : Addr), vs = [.ref s] ∧ SesI H s C pr lg ea ∧ Q (.ref pr) H
theorem sc_present : FnScope ["self"] ["self"] (defScope (sub 38 1)) := ⟨rfl, rfl, rfl, by decide +kernel, rfl, by decide +kernel, by decide +kernel⟩
theorem p_present (S : SC K C) : PG1 P w K mg base C 1 "present" (spPresent C) := by
  refine pr_of S.pr sc_present (fun vs H Q E h => ?_) (fun f cdv A outer s H vs Q E c pn cool hr h => ?_) fun _ _ _ _ _ _ us hl => match us, hl with | [_], _ => rfl
  · obtain ⟨_, _, _, _, rfl, _⟩ := h
    rfl
  · obtain ⟨a, pr, lg, ea, rfl, ⟨dx, ex, h1⟩, k⟩ := h
    exact ⟨_, pss_one (ps_ret (pe_fld (pv 0) rfl)), _, rfl, a, _, dx, _, _, rfl, h1, S.cf.cl, S.na _ (by decide +kernel), rfl, k⟩
def spLog (C : Addr) : Sp := fun vs H Q _ => ∃ (s pr lg ea : Addr) (xs : List V), vs = [.ref s] ∧ SesI H s C pr lg ea ∧ H lg = some (.tup xs) ∧ ∀ p, H p = none → Q (.ref p) (upd H p (.lst xs))
theorem sc_log : FnScope ["self"] ["self"] (defScope (sub 38 2)) := ⟨rfl, rfl, rfl, by decide +kernel, rfl, by decide +kernel, by decide +kernel⟩
theorem m_log (S : SC K C) (zl : mg "list" = none) : MG P w K mg base C 1 "log" ["self"] (spLog C) := by
  refine mg_of (S.ms (2, "Session.log") (by decide +kernel)) sc_log (fun vs H Q E h => ?_) (fun f cdv A outer s H vs Q E c pn cool hr h => ?_) fun _ _ _ _ _ _ us hl => match us, hl with | [_], _ => rfl
  · obtain ⟨_, _, _, _, _, rfl, _⟩ := h
    rfl
  · obtain ⟨a, pr, lg, ea, xs, rfl, ⟨dx, ex, h1⟩, h2, k⟩ := h
    exact ⟨_, pss_one (ps_ret (pe_callTy call_list_of (by rfl) zl (by decide +kernel) (pa_cons (pe_fld (pv 0) rfl) pa_nil))), _, rfl, a, _, dx, _, _, rfl, h1, S.cf.cl, S.na _ (by decide +kernel), rfl, lg, xs, rfl, .inr (SqT.of h2), k⟩
def spSesLen (C : Addr) : Sp := fun vs H Q _ => ∃ (s pr lg ea : Addr) (xs : List V), vs = [.ref s] ∧ SesI H s C pr lg ea ∧ H lg = some (.tup xs) ∧ Q (.int xs.length) H
theorem sc_ses_len : FnScope ["self"] ["self"] (defScope (sub 38 14)) := ⟨rfl, rfl, rfl, by decide +kernel, rfl, by decide +kernel, by decide +kernel⟩
theorem m_ses_len (S : SC K C) (zl : mg "len" = none) : MG P w K mg base C 1 "__len__" ["self"] (spSesLen C) := by
  refine mg_of (S.ms (14, "Session.__len__") (by decide +kernel)) sc_ses_len (fun vs H Q E h => ?_) (fun f cdv A outer s H vs Q E c pn cool hr h => ?_) fun _ _ _ _ _ _ us hl => match us, hl with | [_], _ => rfl
  · obtain ⟨_, _, _, _, _, rfl, _⟩ := h
    rfl
  · obtain ⟨a, pr, lg, ea, xs, rfl, ⟨dx, ex, h1⟩, h2, k⟩ := h
    exact ⟨_, pss_one (ps_ret (pe_callB call_len_seq (by rfl) zl PySem.boot_len (pa_cons (pe_fld (pv 0) rfl) pa_nil))), _, rfl, a, _, dx, _, _, rfl, h1, S.cf.cl, S.na _ (by decide +kernel), rfl, lg, xs, rfl, .inr (SqT.of h2), k⟩
def spAt (C : Addr) : Sp := fun vs H Q _ => ∃ (s pr lg ea : Addr) (xs ys : List V) (i : Nat) (v : V), vs = [.ref s, .int i] ∧ SesI H s C pr lg ea ∧ H lg = some (.tup xs) ∧ H ea = some (.tup ys) ∧ i ≤ xs.length ∧ ys.length < sizeLine ∧ (ys ++ [V.ref pr])[i]? = some v ∧
  ∀ p, H p = none → Q v (upd H p (.tup (ys ++ [.ref pr])))
theorem sc_at : FnScope ["self", "number"] ["self", "number"] (defScope (sub 38 9)) := ⟨rfl, rfl, rfl, by decide +kernel, rfl, by decide +kernel, by decide +kernel⟩
theorem m_at (T : Txt K mg) (S : SC K C) : MG P w K mg base C 3 "at" ["self", "number"] (spAt C) := by
  have G := g_in_range (P := P) (w := w) (base := base) T
  refine mg_of (S.ms (9, "Session.at") (by decide +kernel)) sc_at (fun vs H Q E h => ?_) (fun f cdv A outer s H vs Q E c pn cool hr h => ?_) fun _ _ _ _ _ _ us hl => match us, hl with | [_, _], _ => rfl
  · obtain ⟨_, _, _, _, _, _, _, _, rfl, _⟩ := h
    rfl
  · obtain ⟨a, pr, lg, ea, xs, ys, i, v, rfl, ⟨dx, ex, h1⟩, h2, h3, hi, hz, hv, k⟩ := h
    refine ⟨_, pss_cons (ps_if (pt_not (pt_val (pe_gg G cool hr (pa_cons (pv 1) (pa_cons pe_int (pa_cons (pe_callB call_len_seq (by rfl) (T.z "len") PySem.boot_len (pa_cons (pe_fld (pv 0) rfl) pa_nil)) pa_nil)))))) (pss_one ps_never) pss_nil)
      (pss_one (ps_ret (pe_ix ix_tup (pe_tup (StX.pa_star (pe_fld (pv 0) rfl) (pa_cons (pe_fld (pv 0) rfl) pa_nil))) (pv 1) (fun _ _ => rfl)))), ?_⟩
    refine ⟨_, rfl, _, rfl, a, _, dx, _, _, rfl, h1, S.cf.cl, S.na _ (by decide +kernel), rfl, lg, xs, rfl, .inr (SqT.of h2), _, _, _, rfl, _, rfl, ?_⟩
    rw [show (decide ((0 : Int) ≤ (i : Int)) && decide ((i : Int) ≤ (xs.length : Int))) = true by simp; omega]
    refine iteF ?_
    refine ⟨_, rfl, a, _, dx, _, _, rfl, h1, S.cf.cl, S.na _ (by decide +kernel), rfl, ea, ys, rfl, .inl (SqT.of h3), _, rfl, a, _, dx, _, _, rfl, h1, S.cf.cl, S.na _ (by decide +kernel), rfl, ?_, fun p hp => ?_⟩
    · rw [List.length_append]
      exact hz
    · exact ⟨_, rfl, p, _, _, v, rfl, rfl, SqT.of upd_same, atI_nat hv, k p hp⟩
end
end K74
end
-- K74V
section
set_option maxRecDepth 100000
set_option maxHeartbeats 4000000
/-! The law's draws and tables. -/
namespace K74
open PySem PySem.Spec PyProof.Rows L2
theorem fmod_nat {a : Int} {n : Nat} (h : 0 ≤ a) (hn : 1 ≤ n) : ∃ d : Nat, d < n ∧ a.fmod (n : Int) = (d : Int) := by
  refine ⟨(a % n).toNat, ?_, ?_⟩
  · have h1 := Int.emod_nonneg a (show (n : Int) ≠ 0 by omega)
    have h2 := Int.emod_lt_of_pos a (show (0 : Int) < n by omega)
    omega
  · rw [Int.fmod_eq_emod_of_nonneg _ (Int.natCast_nonneg _)]
    have h1 := Int.emod_nonneg a (show (n : Int) ≠ 0 by omega)
    omega
section
variable {P : Program} {w : World} {K : PySem.W.Frag} {mg : Str → Option Value} {base : Heap}
def spDraw : Sp := fun vs H Q _ => ∃ (p : Addr) (n : Nat), vs = [.ref p, .int n] ∧ PoolAt H p ∧ 1 ≤ n ∧ n ≤ 9 ∧ ∀ H' (d : Nat), Fr [p] H H' → PoolAt H' p → d < n → Q (.int d) H'
abbrev nDraw : List Str := ["_law_pool", "_law_size", "_law_found"]
theorem sc_draw : FnScope nDraw ["_law_pool", "_law_size"] (defScope (top 42)) := ⟨rfl, rfl, rfl, by decide +kernel, rfl, by decide +kernel, by decide +kernel⟩
theorem pool_set {H : Hp} {p : Addr} {a b a' b' : Int} (h : H p = some (.lst [.int a, .int b])) (ha : 0 ≤ a') (hb : 0 ≤ b' ∧ b' < 2147483648) : Fr [p] H (upd H p (.lst [.int a', .int b'])) ∧ PoolAt (upd H p (.lst [.int a', .int b'])) p :=
  ⟨Fr.refl.set List.mem_cons_self h rfl, a', b', upd_same, ha, hb.1, hb.2⟩
theorem g_draw (T : Txt K mg) : GC P w K mg base CX0 1 "_law_draw" ["_law_pool", "_law_size"] spDraw := by
  refine gc0_of (T.fn 42 (by decide)) sc_draw (fun vs H Q E h => ?_) (fun f cdv A outer s H vs Q E hr h => ?_) fun _ _ _ _ _ _ us hl => match us, hl with | [_, _], _ => rfl
  · obtain ⟨_, _, rfl, _⟩ := h
    rfl
  · obtain ⟨p, n, rfl, ⟨a, b, h0, ha, hb, hb2⟩, n1, n9, k⟩ := h
    have nd := sc_draw.nd
    refine ⟨_, pss_cons (ps_if (pt_cmpR op_gt (pe_ix ix_list (pv 0) pe_int (fun _ _ => rfl)) pe_int (nomark _))
        (pss_cons (ps_set (i := 2) nd rfl (Or.inl rfl) (pe_op op_modN (pe_ix ix_list (pv 0) pe_int (fun _ _ => rfl)) (pv 1)))
        (pss_cons (ps_asg (pe_op op_fdivW (pe_ix ix_list (pv 0) pe_int (fun _ _ => rfl)) (pv 1)) (pg_sub (pv 0) pe_int set_list))
        (pss_one (ps_ret (pv 2))))) pss_nil)
      (pss_cons (ps_asg (pe_op op_modN (pe_op op_add (pe_op op_mul (pe_ix ix_list (pv 0) pe_int (fun _ _ => rfl)) pe_int) pe_int) pe_int) (pg_sub (pv 0) pe_int set_list))
      (pss_one (ps_ret (pe_op op_modN (pe_op op_fdivN (pe_op op_modN (pe_op op_mulW (pe_ix ix_list (pv 0) pe_int (fun _ _ => rfl)) (pe_ix ix_list (pv 0) pe_int (fun _ _ => rfl))) pe_int) pe_int) (pv 1))))), ?_⟩
    have i0 : ∀ x y : Int, atI [V.int x, V.int y] 0 = some (V.int x) := fun _ _ => rfl
    have i1 : ∀ x y : Int, atI [V.int x, V.int y] 1 = some (V.int y) := fun _ _ => rfl
    refine ⟨_, rfl, p, _, _, _, rfl, rfl, SqL.of h0, i0 a b, _, _, rfl, rfl, _, rfl, ?_⟩
    refine ite2 (fun h1 => ?_) (fun h1 => ?_)
    · refine ⟨_, rfl, p, _, _, _, rfl, rfl, SqL.of h0, i0 a b, _, rfl, _, _, rfl, rfl, by omega, ?_⟩
      refine ⟨_, rfl, p, _, _, _, rfl, rfl, SqL.of h0, i0 a b, _, rfl, _, _, rfl, rfl, wide_div (b := 64) (by omega) (by omega) (by decide) (by decide), ?_⟩
      refine ⟨_, rfl, p, _, _, 0, rfl, rfl, h0, rfl, ?_⟩
      obtain ⟨f1, f2⟩ := pool_set (a' := a / n) (b' := b) h0 (Int.ediv_nonneg ha (Int.natCast_nonneg n)) ⟨hb, hb2⟩
      refine ⟨_, rfl, ?_⟩
      obtain ⟨d, hd, e⟩ := fmod_nat ha n1
      show Q (V.int (a.fmod (n : Int))) _
      rw [e]
      exact k _ _ f1 f2 hd
    · refine ⟨_, rfl, p, _, _, _, rfl, rfl, SqL.of h0, i1 a b, _, _, rfl, rfl, .inl ⟨by omega, by omega⟩, _, _, rfl, rfl, _, _, rfl, rfl, (by decide : (2147483647 : Int) ≠ 0), ?_⟩
      refine ⟨_, rfl, p, _, _, 1, rfl, rfl, h0, rfl, ?_⟩
      have e0 : (b * 48271 + 11).fmod 2147483647 = (b * 48271 + 11) % 2147483647 := Int.fmod_eq_emod_of_nonneg _ (by decide)
      obtain ⟨b', hb'⟩ : ∃ b', b' = (b * 48271 + 11).fmod 2147483647 := ⟨_, rfl⟩
      have r0 : 0 ≤ b' ∧ b' < 2147483648 := by rw [hb', e0]; omega
      obtain ⟨f1, f2⟩ := pool_set (a' := a) (b' := b') h0 ha r0
      have h2 : (upd H p (.lst [.int a, .int b'])) p = some (.lst [.int a, .int b']) := upd_same
      rw [hb'] at f1 f2 h2 r0
      refine ⟨_, rfl, p, _, _, _, rfl, rfl, SqL.of h2, i1 a _, _, rfl, p, _, _, _, rfl, rfl, SqL.of h2, i1 a _, _, _, rfl, rfl, wide_mul (a := 32) (b := 32) (by omega) (by omega) (by decide) (by decide) (by decide), _, _, rfl, rfl, (by decide : (2147483629 : Int) ≠ 0), _, _, rfl, rfl, ⟨by decide, by decide⟩, _, rfl, _, _, rfl, rfl, by omega, ?_⟩
      rw [← hb'] at r0 f1 f2
      obtain ⟨m, hm⟩ : ∃ m, m = ((b' * b').fmod 2147483629).fdiv 64 := ⟨_, rfl⟩
      have m0 : 0 ≤ m := by
        rw [hm, Int.fdiv_eq_ediv_of_nonneg _ (by decide), Int.fmod_eq_emod_of_nonneg _ (by decide)]
        exact Int.ediv_nonneg (Int.emod_nonneg _ (by decide)) (by decide)
      obtain ⟨d, hd, e⟩ := fmod_nat m0 n1
      show Q (V.int (Int.fmod (Int.fdiv (Int.fmod ((b * 48271 + 11).fmod 2147483647 * (b * 48271 + 11).fmod 2147483647) 2147483629) 64) (n : Int))) (upd H p (.lst [.int a, .int ((b * 48271 + 11).fmod 2147483647)]))
      rw [← hb', ← hm, e]
      exact k _ _ f1 f2 hd
theorem cut_ints (ns : List Int) (lo hi : Option Int) : ∃ zs : List Int, cutV (ns.map V.int) lo hi = zs.map V.int ∧ zs.length ≤ ns.length := by
  refine ⟨(ns.drop (HT.sIx (ns.map V.int).length 0 lo)).take (HT.sIx (ns.map V.int).length (ns.map V.int).length hi - HT.sIx (ns.map V.int).length 0 lo), ?_, ?_⟩
  · unfold cutV
    rw [List.map_take, List.map_drop]
  · rw [List.length_take, List.length_drop]
    omega
def spHand (K : PySem.W.Frag) : Sp := fun vs H Q _ => ∃ (c : Addr) (k : Nat) (ns : List Int), vs = [.ref c, .int k] ∧ k ≤ 100 ∧ SqL K H c (ns.map V.int) ∧ ns.length < sizeLine ∧ ∀ H' p, Fr [] H H' → H p = none → PoolAt H' p → Q (.ref p) H'
abbrev nHand : List Str := ["_law_script", "_law_k", "_law_cell", "_law_seed"]
theorem sc_hand : FnScope nHand ["_law_script", "_law_k"] (defScope (top 41)) := ⟨rfl, rfl, rfl, by decide +kernel, rfl, by decide +kernel, by decide +kernel⟩
theorem g_hand (T : Txt K mg) : GC P w K mg base CX0 1 "_law_hand" ["_law_script", "_law_k"] (spHand K) := by
  refine gc0_of (T.fn 41 (by decide)) sc_hand (fun vs H Q E h => ?_) (fun f cdv A outer s H vs Q E hr h => ?_) fun _ _ _ _ _ _ us hl => match us, hl with | [_, _], _ => rfl
  · obtain ⟨_, _, _, rfl, _⟩ := h
    rfl
  · obtain ⟨c, kk, ns, rfl, k1, hs, hz, k⟩ := h
    have nd := sc_hand.nd
    refine ⟨_, pss_cons (ps_set (i := 2) nd rfl (Or.inl rfl) (pe_ix ix_list (pe_op op_cat (pe_slice sl_list (pv 0) (po_some (pv 1)) (po_some (pe_op op_add (pv 1) pe_int))) (pe_lst (pa_cons pe_int pa_nil))) pe_int (fun _ _ => rfl)))
      (pss_cons (ps_set (i := 3) nd rfl (Or.inl rfl) (pe_op op_modN (pe_op op_mul (pe_op op_add (pe_op op_add (pe_op op_modN (pv 2) pe_int) (pe_op op_mul pe_int (pv 1))) pe_int) pe_int) pe_int))
      (pss_one (ps_ret (pe_lst (pa_cons (pe_op op_mul (pe_callTy call_int1 (by rfl) (T.z "int") (by decide +kernel) (pa_cons (pe_cmpR op_ge (pv 2) (pe_op op_pow pe_int pe_int) (nomark _)) pa_nil)) (pv 2)) (pa_cons (pv 3) pa_nil)))))), ?_⟩
    obtain ⟨zs, hzs, hzl⟩ := cut_ints ns (some (kk : Int)) (some ((kk : Int) + 1))
    refine ⟨_, rfl, _, rfl, _, rfl, _, rfl, _, _, rfl, rfl, _, rfl, c, _, rfl, hs, fun p1 hp1 => ?_⟩
    show tLst (tCons (tC (V.int 0)) tNil) _ (upd H p1 (.lst (cutV (ns.map V.int) (some (kk : Int)) (some ((kk : Int) + 1))))) _
    rw [hzs]
    refine ⟨by show 1 ≤ sizeLine; decide, fun p2 hp2 => ?_⟩
    have n12 : p1 ≠ p2 := ne_of_none upd_same hp2
    refine ⟨p1, p2, _, _, rfl, rfl, (upd_ne n12).trans upd_same, upd_same, by rw [List.length_map]; show zs.length + 1 ≤ sizeLine; omega, fun p3 hp3 => ?_⟩
    obtain ⟨c0, hc0⟩ : ∃ c0 : Int, (zs.map V.int ++ [V.int 0])[0]? = some (V.int c0) := by
      cases zs with
      | nil => exact ⟨0, rfl⟩
      | cons z r => exact ⟨z, rfl⟩
    have m0 : ∀ x m : Int, 0 < m → 0 ≤ x.fmod m ∧ x.fmod m < m := fun x m hm => by
      rw [Int.fmod_eq_emod_of_nonneg _ (by omega)]
      exact ⟨Int.emod_nonneg _ (by omega), Int.emod_lt_of_pos _ hm⟩
    have b1 := m0 c0 2147483647 (by decide)
    refine ⟨p3, _, _, _, rfl, rfl, SqL.of upd_same, atI_nat (j := 0) hc0, ?_⟩
    refine ⟨_, rfl, _, _, rfl, rfl, (by decide : (2147483647 : Int) ≠ 0), _, rfl, _, _, rfl, rfl, .inl ⟨by decide, by decide⟩, _, _, rfl, rfl, _, _, rfl, rfl, _, _, rfl, rfl, .inl ⟨by omega, by omega⟩, _, _, rfl, rfl, (by decide : (2147483629 : Int) ≠ 0), ?_⟩
    refine ⟨_, rfl, _, _, rfl, rfl, ⟨by decide, by decide, by decide⟩, _, _, rfl, rfl, .inr ⟨_, rfl, ?_⟩⟩
    have b2 : ∀ b : Bool, (if b = true then (1 : Int) else 0) = 0 ∨ (if b = true then (1 : Int) else 0) = 1 := fun b => by cases b <;> simp
    refine ⟨_, rfl, _, _, rfl, rfl, .inl ⟨?_, ?_⟩, _, rfl, by show 2 ≤ sizeLine; decide, fun p4 hp4 => ?_⟩
    · rcases b2 (decide ((10 : Int) ^ (18 : Int).toNat ≤ c0)) with e | e <;> rw [e] <;> decide
    · rcases b2 (decide ((10 : Int) ^ (18 : Int).toNat ≤ c0)) with e | e <;> rw [e] <;> decide
    · have h1 : H p1 = none := hp1
      have h2 : H p2 = none := by rwa [upd_ne n12.symm] at hp2
      have n13 : p1 ≠ p3 := ne_of_none ((upd_ne n12).trans upd_same) hp3
      have n23 : p2 ≠ p3 := ne_of_none upd_same hp3
      have h3 : H p3 = none := by rwa [upd_ne n23.symm, upd_ne n13.symm] at hp3
      have f3 : Fr [] H (upd (upd (upd H p1 (.lst (zs.map V.int))) p2 (.lst [V.int 0])) p3 (.lst (zs.map V.int ++ [V.int 0]))) := ((Fr.refl.new h1).new h2).new h3
      have n14 : p1 ≠ p4 := ne_of_none ((upd_ne n13).trans ((upd_ne n12).trans upd_same)) hp4
      have n24 : p2 ≠ p4 := ne_of_none ((upd_ne n23).trans upd_same) hp4
      have n34 : p3 ≠ p4 := ne_of_none upd_same hp4
      have h4 : H p4 = none := by rwa [upd_ne n34.symm, upd_ne n24.symm, upd_ne n14.symm] at hp4
      refine k _ p4 (f3.new h4) h4 ⟨_, _, upd_same, ?_, ?_, ?_⟩
      · by_cases e : (10 : Int) ^ (18 : Int).toNat ≤ c0
        · rw [decide_eq_true e, if_pos rfl]
          have : (0 : Int) ≤ (10 : Int) ^ (18 : Int).toNat := by decide
          omega
        · rw [decide_eq_false e, if_neg (by simp)]
          omega
      · exact (m0 _ 2147483629 (by decide)).1
      · exact Int.lt_trans (m0 _ 2147483629 (by decide)).2 (by decide)
end
end K74
end
-- K74W
section
set_option maxRecDepth 100000
set_option maxHeartbeats 4000000
/-! The law's tables made by dict([..]). -/
namespace K74
open PySem PySem.Spec PyProof.Rows L2
/-- tuples of two ints -/
def PairsAt (H : Hp) (ps : List Addr) (l : Tbl) : Prop := Paired (fun a (p : Int × Int) => H a = some (.tup [.int p.1, .int p.2])) ps l
theorem PairsAt.snoc {H : Hp} {ps : List Addr} {l : Tbl} {T D : Addr} {ys zs : List V} {s t : Int} (h : PairsAt H ps l) (hT : H T = none) (hD : H D = some (.lst ys)) : PairsAt (upd (upd H T (.tup [.int s, .int t])) D (.lst zs)) (ps ++ [T]) (l ++ [(s, t)]) := by
  have nD : T ≠ D := (ne_of_none hD hT).symm
  refine pr_append (Paired.mapP h fun a p e => ?_) (.cons ?_ .nil)
  · rw [upd_ne (ne_of e hD (by intro z; cases z)), upd_ne (ne_of_none e hT)]
    exact e
  · rw [upd_ne nD, upd_same]
theorem merge_kz : ∀ (l acc : Tbl), ((acc ++ l).map (·.1)).Nodup → mergeK (kz acc) (kz l) = kz (acc ++ l)
  | [], acc, _ => by rw [List.append_nil]; rfl
  | p :: r, acc, h => by
    have hn : lk acc p.1 = none := by
      rw [lk_none]
      rw [List.map_append, List.nodup_append] at h
      intro z
      exact h.2.2 _ z _ (by simp) rfl
    show mergeK (putK (kz acc) (Sum.inl p.1) (V.int p.2)) (kz r) = _
    rw [putK_new _ (by rw [valV_kz, hn]; rfl)]
    have e : kz acc ++ [(Sum.inl p.1, V.int p.2)] = kz (acc ++ [p]) := by simp [kz]
    rw [e, merge_kz r (acc ++ [p]) (by rw [List.append_assoc]; exact h), List.append_assoc]
    rfl
theorem pairs_kv {K : PySem.W.Frag} {H : Hp} {ps : List Addr} {l : Tbl} (h : PairsAt H ps l) : Paired (fun p kv => SqT K H p [kV kv.1, kv.2]) ps (kz l) := by
  induction h with
  | nil => exact .nil
  | cons a t ih => exact .cons (SqT.of a) ih
theorem pairs_same {H H' : Hp} {ps : List Addr} {l : Tbl} (h : PairsAt H ps l) (s : ∀ a o, H a = some (.tup o) → H' a = some (.tup o)) : PairsAt H' ps l := Paired.mapP h fun a p e => s _ _ e
section
variable {P : Program} {w : World} {K : PySem.W.Frag} {mg : Str → Option Value} {base : Heap}
def spFull : Sp := fun vs H Q _ => ∃ (n : Nat), vs = [.int n] ∧ n ≤ 300 ∧ ∀ H' p, Fr [] H H' → H p = none → H' p = some (.dK (kz (fullT n))) → Q (.ref p) H'
abbrev nFull : List Str := ["_law_size", "_law_source"]
theorem sc_full : FnScope nFull ["_law_size"] (defScope (top 45)) := ⟨rfl, rfl, rfl, by decide +kernel, rfl, by decide +kernel, by decide +kernel⟩
theorem g_full (T : Txt K mg) : GC P w K mg base CX0 1 "_law_full" ["_law_size"] spFull := by
  refine gc0_of (T.fn 45 (by decide)) sc_full (fun vs H Q E h => ?_) (fun f cdv A outer s H vs Q E hr h => ?_) fun _ _ _ _ _ _ us hl => match us, hl with | [_], _ => rfl
  · obtain ⟨_, rfl, _⟩ := h
    rfl
  · obtain ⟨n, rfl, n1, k⟩ := h
    have nd := sc_full.nd
    refine ⟨_, pss_one (ps_ret (pe_callTy (call_dictP rfl) (by rfl) (T.z "dict") (by decide +kernel) (pa_cons (pe_lc (own := [("_law_source", 1)]) (g := gName 1) (tt := tYes) rfl nd (pi_range1 rfl (T.z "range") (pa_cons (pv 0) pa_nil)) (blkOk_by (own := [("_law_source", 1)]) (N := nFull) (sc := defScope (top 45)) (by decide +kernel))
      (fun _ _ _ _ _ => pg_name (i := 1) nd rfl (Or.inl rfl)) (fun _ _ _ _ _ => pts_nil) (fun _ _ _ _ _ => pe_tup (pa_cons (pv 1) (pa_cons (pv 1) pa_nil)))) pa_nil))), ?_⟩
    refine ⟨_, rfl, n, rfl, by omega, by omega, fun D hD => ?_⟩
    rw [Int.toNat_natCast n]
    refine lc_it walk_rg0 (fun i H' => ∃ ps, H' D = some (.lst (ps.map V.ref)) ∧ PairsAt H' ps (fullT i) ∧ ps.length = i ∧ SameX D H H') ?_ (fun _ _ _ _ => trivial) ?_ ?_
    · exact ⟨[], upd_same, .nil, rfl, fun q o hq ho => by rw [upd_ne hq]; exact ho⟩
    · rintro i _ _ H1 hi ⟨ps, p1, p2, p3, p4⟩ ⟨rfl, rfl⟩
      refine ⟨rfl, _, rfl, _, rfl, by show 2 ≤ sizeLine; decide, fun t ht => ?_⟩
      have nD : D ≠ t := ne_of_none p1 ht
      refine ⟨_, (upd_ne nD).trans p1, by rw [List.length_map, p3]; exact small1000 (by omega), ps ++ [t], ?_, ?_, by simp [p3], ?_⟩
      · rw [upd_same, List.map_append]
        rfl
      · rw [full_succ]
        exact p2.snoc ht p1
      · intro q o hq ho
        have := p4 q o hq ho
        rw [upd_ne hq, upd_ne (ne_of_none this ht)]
        exact this
    · rintro H1 ⟨ps, p1, p2, p3, p4⟩
      refine ⟨D, ps, _, rfl, SqL.of p1, pairs_kv p2, fun p hp => ?_⟩
      have e := merge_kz (fullT n) [] (by rw [List.nil_append]; exact (full_ga n).src)
      rw [show ([] : List (Key × V)) = kz [] from rfl, e, List.nil_append]
      have hp0 : H p = none := by
        cases z : H p with
        | none => rfl
        | some o => rw [p4 _ _ (ne_of_none z hD) z] at hp; cases hp
      exact k _ p (Fr.new (fun q o ho _ => p4 q o (ne_of_none ho hD) ho) hp0) hp0 upd_same
/-- a new table by a walk over the table l: what each turn adds is m's -/
def spTab1 (f : Nat → Tbl → Tbl) : Sp := fun vs H Q _ => ∃ (d n : Nat) (l : Tbl), vs = [.ref d] ∧ H d = some (.dK (kz l)) ∧ Good n l ∧ n ≤ 300 ∧ ∀ H' p, Fr [] H H' → H p = none → H' p = some (.dK (kz (f n l))) → Q (.ref p) H'
abbrev nInverse : List Str := ["_law_table", "_law_source"]
theorem sc_inverse : FnScope nInverse ["_law_table"] (defScope (top 46)) := ⟨rfl, rfl, rfl, by decide +kernel, rfl, by decide +kernel, by decide +kernel⟩
theorem g_inverse (T : Txt K mg) : GC P w K mg base CX0 1 "_law_inverse" ["_law_table"] (spTab1 fun _ l => invT l) := by
  refine gc0_of (T.fn 46 (by decide)) sc_inverse (fun vs H Q E h => ?_) (fun f cdv A outer s H vs Q E hr h => ?_) fun _ _ _ _ _ _ us hl => match us, hl with | [_], _ => rfl
  · obtain ⟨_, _, _, rfl, _⟩ := h
    rfl
  · obtain ⟨d, n, l, rfl, hd, ga, n1, k⟩ := h
    have nd := sc_inverse.nd
    have hu := huH (L2H.roomH_of hr)
    refine ⟨_, pss_one (ps_ret (pe_callTy (call_dictP rfl) (by rfl) (T.z "dict") (by decide +kernel) (pa_cons (pe_lock (pe_lc (own := [("_law_source", 1)]) (g := gName 1) (tt := tYes) rfl nd (pi_keys (pv 0)) (blkOk_by (own := [("_law_source", 1)]) (N := nInverse) (sc := defScope (top 46)) (by decide +kernel))
      (fun _ _ _ _ _ => pg_name (i := 1) nd rfl (Or.inl rfl)) (fun _ _ _ _ _ => pts_nil) (fun _ _ _ _ _ => pe_tup (pa_cons (pe_dget hu (pv 0) (pv 1) (fun _ _ => rfl)) (pa_cons (pv 1) pa_nil))))) pa_nil))), ?_⟩
    refine ⟨d, _, hd, trivial, fun od => ?_⟩
    refine ⟨_, rfl, d, od, rfl, .inl ⟨kz l, upd_same, fun D hD => ?_⟩⟩
    obtain ⟨hD0, neD⟩ := lock_none hd hD
    refine lc_it walk_keys (fun i H' => ∃ ps, H' D = some (.lst (ps.map V.ref)) ∧ PairsAt H' ps (invT (l.take i)) ∧ ps.length = i ∧ SameX D (upd H d (.frz od (.dK (kz l)))) H') ?_ ?_ ?_ ?_
    · exact ⟨[], upd_same, .nil, rfl, fun q o hq ho => by rw [upd_ne hq]; exact ho⟩
    · rintro i H' _ ⟨_, _, _, _, s⟩
      exact s _ _ neD.symm upd_same
    · rintro i x _ H1 hi ⟨ps, p1, p2, p3, p4⟩ ⟨rfl, key, v, hk, rfl⟩
      obtain ⟨hil, rfl, rfl⟩ := kz_get' hk
      have fz : H1 d = some (.frz od (.dK (kz l))) := p4 _ _ neD.symm upd_same
      have g : DGet H1 d (V.int l[i].1) (some (V.int l[i].2)) := .inl ⟨kz l, Sum.inl l[i].1, .inr ⟨od, fz⟩, rfl, by rw [valV_kz, lk_of (s := l[i].1) (t := l[i].2) ga.src (List.getElem_mem hil)]; rfl⟩
      refine ⟨rfl, _, rfl, _, rfl, d, V.int l[i].2, rfl, g, _, rfl, by show 2 ≤ sizeLine; decide, fun t ht => ?_⟩
      have nD : D ≠ t := ne_of_none p1 ht
      refine ⟨_, (upd_ne nD).trans p1, by rw [List.length_map, p3]; have := ga.len; exact small1000 (by omega), ps ++ [t], ?_, ?_, by simp [p3], ?_⟩
      · rw [upd_same, List.map_append]
        rfl
      · rw [inv_take hil]
        exact p2.snoc ht p1
      · intro q o hq ho
        have := p4 q o hq ho
        rw [upd_ne hq, upd_ne (ne_of_none this ht)]
        exact this
    · rintro H1 ⟨ps, p1, p2, p3, p4⟩
      rw [kz_len, List.take_length] at p2
      refine ⟨p4 _ _ neD.symm upd_same, ?_⟩
      have s0 := lock_same hd hD p4
      have c1 : (upd H1 d (.dK (kz l))) D = some (.lst (ps.map V.ref)) := (upd_ne neD).trans p1
      have c2 : PairsAt (upd H1 d (.dK (kz l))) ps (invT l) := pairs_same p2 fun a o e => by
        have : a ≠ d := ne_of e (p4 _ _ neD.symm upd_same) (by intro z; cases z)
        rw [upd_ne this]
        exact e
      refine ⟨D, ps, _, rfl, SqL.of c1, pairs_kv c2, fun p hp => ?_⟩
      have e := merge_kz (invT l) [] (by rw [List.nil_append]; exact (inv_good ga).src)
      rw [show ([] : List (Key × V)) = kz [] from rfl, e, List.nil_append]
      have hp0 : H p = none := by
        cases z : H p with
        | none => rfl
        | some o => rw [s0 _ _ z] at hp; cases hp
      exact k _ p ((same_fr s0 []).new hp0) hp0 upd_same
def spProduct : Sp := fun vs H Q _ => ∃ (d d2 : Addr) (n : Nat) (l m : Tbl), vs = [.ref d, .ref d2] ∧ H d = some (.dK (kz l)) ∧ H d2 = some (.dK (kz m)) ∧ d ≠ d2 ∧ Good n l ∧ n ≤ 300 ∧ ∀ H' p, Fr [] H H' → H p = none → H' p = some (.dK (kz (prodT l m))) → Q (.ref p) H'
abbrev nProduct : List Str := ["_law_one", "_law_other", "_law_source"]
theorem sc_product : FnScope nProduct ["_law_one", "_law_other"] (defScope (top 44)) := ⟨rfl, rfl, rfl, by decide +kernel, rfl, by decide +kernel, by decide +kernel⟩
theorem g_product (T : Txt K mg) : GC P w K mg base CX0 1 "_law_product" ["_law_one", "_law_other"] spProduct := by
  refine gc0_of (T.fn 44 (by decide)) sc_product (fun vs H Q E h => ?_) (fun f cdv A outer s H vs Q E hr h => ?_) fun _ _ _ _ _ _ us hl => match us, hl with | [_, _], _ => rfl
  · obtain ⟨_, _, _, _, _, rfl, _⟩ := h
    rfl
  · obtain ⟨d, d2, n, l, m, rfl, hd, hd2, ndd, ga, n1, k⟩ := h
    have nd := sc_product.nd
    have hu := huH (L2H.roomH_of hr)
    refine ⟨_, pss_one (ps_ret (pe_callTy (call_dictP rfl) (by rfl) (T.z "dict") (by decide +kernel) (pa_cons (pe_lock (pe_lc (own := [("_law_source", 2)]) (g := gName 2) rfl nd (pi_keys (pv 0)) (blkOk_by (own := [("_law_source", 2)]) (N := nProduct) (sc := defScope (top 44)) (by decide +kernel))
      (fun _ _ _ _ _ => pg_name (i := 2) nd rfl (Or.inl rfl)) (fun _ _ _ _ _ => pts_one (pt_cmp (pc_din hu (pe_dget hu (pv 0) (pv 2) (fun _ _ => rfl)) (pv 1)))) (fun _ _ _ _ _ => pe_tup (pa_cons (pv 2) (pa_cons (pe_dget hu (pv 1) (pe_dget hu (pv 0) (pv 2) (fun _ _ => rfl)) (fun _ _ => rfl)) pa_nil))))) pa_nil))), ?_⟩
    refine ⟨d, _, hd, trivial, fun od => ?_⟩
    refine ⟨_, rfl, d, od, rfl, .inl ⟨kz l, upd_same, fun D hD => ?_⟩⟩
    obtain ⟨hD0, neD⟩ := lock_none hd hD
    have nD2 : d2 ≠ D := ne_of_none hd2 hD0
    refine lc_it walk_keys (fun i H' => ∃ ps, H' D = some (.lst (ps.map V.ref)) ∧ PairsAt H' ps (prodT (l.take i) m) ∧ ps.length ≤ i ∧ SameX D (upd H d (.frz od (.dK (kz l)))) H') ?_ ?_ ?_ ?_
    · exact ⟨[], upd_same, .nil, Nat.le_refl _, fun q o hq ho => by rw [upd_ne hq]; exact ho⟩
    · rintro i H' _ ⟨_, _, _, _, s⟩
      exact s _ _ neD.symm upd_same
    · rintro i x _ H1 hi ⟨ps, p1, p2, p3, p4⟩ ⟨rfl, key, v, hk, rfl⟩
      obtain ⟨hil, rfl, rfl⟩ := kz_get' hk
      have fz : H1 d = some (.frz od (.dK (kz l))) := p4 _ _ neD.symm upd_same
      have h2 : H1 d2 = some (.dK (kz m)) := p4 _ _ nD2 ((upd_ne ndd.symm).trans hd2)
      have g : DGet H1 d (V.int l[i].1) (some (V.int l[i].2)) := .inl ⟨kz l, Sum.inl l[i].1, .inr ⟨od, fz⟩, rfl, by rw [valV_kz, lk_of (s := l[i].1) (t := l[i].2) ga.src (List.getElem_mem hil)]; rfl⟩
      refine ⟨rfl, _, rfl, _, rfl, d, V.int l[i].2, rfl, g, _, rfl, d2, _, rfl, DGet.k (k := Sum.inl l[i].2) h2, _, rfl, ?_⟩
      rw [valV_kz]
      cases e : lk m l[i].2 with
      | none =>
        refine iteF ⟨ps, p1, ?_, by omega, p4⟩
        rw [prod_succ hil, e]
        simpa using p2
      | some u =>
        have g2 : DGet H1 d2 (V.int l[i].2) (some (V.int u)) := by
          have := DGet.k (k := Sum.inl l[i].2) h2
          rw [valV_kz, e] at this
          exact this
        refine iteT ⟨_, rfl, _, rfl, _, rfl, _, rfl, d, V.int l[i].2, rfl, g, d2, V.int u, rfl, g2, by show 2 ≤ sizeLine; decide, fun t ht => ?_⟩
        have nD : D ≠ t := ne_of_none p1 ht
        refine ⟨_, (upd_ne nD).trans p1, by rw [List.length_map]; have := ga.len; exact small1000 (by omega), ps ++ [t], ?_, ?_, by simp; omega, ?_⟩
        · rw [upd_same, List.map_append]
          rfl
        · rw [prod_succ hil, e]
          exact p2.snoc ht p1
        · intro q o hq ho
          have := p4 q o hq ho
          rw [upd_ne hq, upd_ne (ne_of_none this ht)]
          exact this
    · rintro H1 ⟨ps, p1, p2, p3, p4⟩
      rw [kz_len, List.take_length] at p2
      refine ⟨p4 _ _ neD.symm upd_same, ?_⟩
      have s0 := lock_same hd hD p4
      have c1 : (upd H1 d (.dK (kz l))) D = some (.lst (ps.map V.ref)) := (upd_ne neD).trans p1
      have c2 : PairsAt (upd H1 d (.dK (kz l))) ps (prodT l m) := pairs_same p2 fun a o e => by
        have : a ≠ d := ne_of e (p4 _ _ neD.symm upd_same) (by intro z; cases z)
        rw [upd_ne this]
        exact e
      refine ⟨D, ps, _, rfl, SqL.of c1, pairs_kv c2, fun p hp => ?_⟩
      have e := merge_kz (prodT l m) [] (by rw [List.nil_append]; exact prod_src ga.src)
      rw [show ([] : List (Key × V)) = kz [] from rfl, e, List.nil_append]
      have hp0 : H p = none := by
        cases z : H p with
        | none => rfl
        | some o => rw [s0 _ _ z] at hp; cases hp
      exact k _ p ((same_fr s0 []).new hp0) hp0 upd_same
end
end K74
end
-- K74N
section
set_option maxRecDepth 100000
set_option maxHeartbeats 4000000
/-! The law's powers, steps, arrows. -/
namespace K74
open PySem PySem.Spec PyProof.Rows L2
theorem names_nm (a b t : Int) : ((lk [(a, b), (b, a)] t).map V.int).getD (V.int t) = V.int (nm a b t) := by
  simp only [lk_cons, lk_nil]
  unfold nm
  by_cases x1 : a = t
  · subst x1
    simp
  · by_cases x2 : b = t
    · subst x2
      have : ¬ b = a := fun z => x1 z.symm
      simp [x1, this]
    · have y1 : ¬ t = a := fun z => x1 z.symm
      have y2 : ¬ t = b := fun z => x2 z.symm
      simp [x1, x2, y1, y2]
theorem stepped_swap (l : Tbl) (a b : Int) : steppedT l (.swap a b) = l.map fun p => (p.1, nm a b p.2) := rfl
section
variable {P : Program} {w : World} {K : PySem.W.Frag} {mg : Str → Option Value} {base : Heap}
def spLawPower : Sp := fun vs H Q _ => ∃ (d n : Nat) (e : Int) (l : Tbl), vs = [.ref d, .int n, .int e] ∧ H d = some (.dK (kz l)) ∧ Good n l ∧ n ≤ 300 ∧ -4 ≤ e ∧ e ≤ 4 ∧ ∀ H' p, Fr [] H H' → H p = none → H' p = some (.dK (kz (powE n l e))) → Q (.ref p) H'
abbrev nLawPower : List Str := ["_law_table", "_law_size", "_law_exponent", "_law_found", "_law_turn"]
theorem sc_law_power : FnScope nLawPower ["_law_table", "_law_size", "_law_exponent"] (defScope (top 47)) := ⟨rfl, rfl, rfl, by decide +kernel, rfl, by decide +kernel, by decide +kernel⟩
theorem g_law_power (T : Txt K mg) : GC P w K mg base CX0 2 "_law_power" ["_law_table", "_law_size", "_law_exponent"] spLawPower := by
  have GF' := g_full (P := P) (w := w) (base := base) T
  have GP := g_product (P := P) (w := w) (base := base) T
  have GI := g_inverse (P := P) (w := w) (base := base) T
  refine gc0_of (T.fn 47 (by decide)) sc_law_power (fun vs H Q E h => ?_) (fun f cdv A outer s H vs Q E hr h => ?_) fun _ _ _ _ _ _ us hl => match us, hl with | [_, _, _], _ => rfl
  · obtain ⟨_, _, _, _, rfl, _⟩ := h
    rfl
  · obtain ⟨d, n, e, l, rfl, hd, ga, n1, e1, e2, k⟩ := h
    have nd := sc_law_power.nd
    refine ⟨_, pss_cons (ps_set (i := 3) nd rfl (Or.inl rfl) (pe_gc GF' hr pass0 (pa_cons (pv 1) pa_nil)))
      (pss_cons (ps_for PassesOwn.never rfl (pi_range1 rfl (T.z "range") (pa_cons (pe_callB call_abs (by rfl) (T.z "abs") (by decide +kernel) (pa_cons (pv 2) pa_nil)) pa_nil)) (pg_name (i := 4) nd rfl (Or.inl rfl))
        (pss_one (ps_set (i := 3) nd rfl (Or.inl rfl) (pe_gc GP hr pass0 (pa_cons (pv 3) (pa_cons (pe_ix ix_list (pe_lst (pa_cons (pv 0) (pa_cons (pe_gc GI hr pass0 (pa_cons (pv 0) pa_nil)) pa_nil))) (pe_callTy call_int1 (by rfl) (T.z "int") (by decide +kernel) (pa_cons (pe_cmpR op_lt (pv 2) pe_int (nomark _)) pa_nil)) (fun _ _ => rfl)) pa_nil))))))
      (pss_one (ps_ret (pv 3)))), ?_⟩
    refine ⟨_, rfl, n, rfl, n1, fun H1 p fr hp0 hp => ?_⟩
    have ea : (if e < 0 then -e else e) = ((e.natAbs : Nat) : Int) := by split <;> omega
    refine ⟨_, rfl, e, rfl, (e.natAbs : Int), by rw [ea], by omega, by omega, ?_⟩
    rw [Int.toNat_natCast]
    obtain ⟨l', hl'⟩ : ∃ l', l' = if e < 0 then invT l else l := ⟨_, rfl⟩
    refine for_it walk_rg0 (fun i σ H' => ∃ p x4, σ = [some (.ref d), some (.int n), some (.int e), some (.ref p), x4] ∧ H' p = some (.dK (kz (powT n l' i))) ∧ H p = none ∧ Fr [] H H') ?_ (fun _ _ _ _ _ => trivial) ?_ ?_
    · exact ⟨p, _, rfl, hp, hp0, fr⟩
    · rintro i _ σ _ H2 hi ⟨q, x4, rfl, hq, hq0, fr2⟩ ⟨rfl, rfl⟩
      have hd2 := fr2.imm hd (mut_kz l)
      have gi : Good n l' := by
        rw [hl']
        split
        · exact inv_good ga
        · exact ga
      refine ⟨_, rfl, _, rfl, _, rfl, d, n, l, rfl, hd2, ga, n1, fun H3 v f3 hv0 hv => ?_⟩
      refine ⟨by show 2 ≤ sizeLine; decide, fun L hL => ?_⟩
      refine ⟨_, rfl, _, _, rfl, rfl, .inr ⟨_, rfl, ?_⟩⟩
      have qd : q ≠ d := (ne_of_none hd hq0).symm
      have qv : q ≠ v := ne_of_none hq hv0
      have vL : v ≠ L := ne_of_none hv hL
      have hq3 := f3.imm hq (mut_kz _)
      have hd3 := f3.imm hd2 (mut_kz l)
      have qL : q ≠ L := ne_of_none hq3 hL
      have dL : d ≠ L := ne_of_none hd3 hL
      have f4 : Fr [] H (upd H3 L (.lst [V.ref d, V.ref v])) := (fr2.trans f3).newer hL
      have fin : ∀ d2, d2 ≠ q → (upd H3 L (.lst [V.ref d, V.ref v])) d2 = some (.dK (kz l')) → spProduct [V.ref q, V.ref d2] (upd H3 L (.lst [V.ref d, V.ref v])) (fun y H' => ∃ p x4, [some (V.ref d), some (.int n), some (.int e), some y, some (.int (i : Nat))] = [some (.ref d), some (.int n), some (.int e), some (.ref p), x4] ∧ H' p = some (.dK (kz (powT n l' (i + 1)))) ∧ H p = none ∧ Fr [] H H') E0 := fun d2 hn h2 => by
        refine ⟨q, d2, n, _, _, rfl, (upd_ne qL).trans hq3, h2, hn.symm, (pow_ga gi i).toGood, n1, fun H5 p5 f5 hp50 hp5 => ⟨p5, _, rfl, hp5, ?_, f4.trans f5⟩⟩
        cases z : H p5 with
        | none => rfl
        | some o => rw [f4 _ _ z (fun _ => by simp)] at hp50; cases hp50
      by_cases neg : e < 0
      · rw [decide_eq_true neg]
        refine ⟨L, _, _, V.ref v, rfl, rfl, SqL.of upd_same, rfl, ?_⟩
        rw [if_pos neg] at hl'
        exact fin v qv.symm (by rw [upd_ne vL, hl']; exact hv)
      · rw [decide_eq_false neg]
        refine ⟨L, _, _, V.ref d, rfl, rfl, SqL.of upd_same, rfl, ?_⟩
        rw [if_neg neg] at hl'
        exact fin d qd.symm (by rw [upd_ne dL, hl']; exact hd3)
    · rintro σ H2 ⟨q, x4, rfl, hq, hq0, fr2⟩
      refine ⟨_, rfl, k H2 q fr2 hq0 ?_⟩
      unfold powE
      rw [← hl']
      exact hq
/-! ### a step taken -/
def spStepped : Sp := fun vs H Q _ => ∃ (d t : Addr) (n : Nat) (l : Tbl) (st : Step), vs = [.ref d, .ref t] ∧ H d = some (.dK (kz l)) ∧ H t = some (.tup st.vs) ∧ Good n l ∧ n ≤ 300 ∧ st.Ok n ∧ ∀ H' p, Fr [] H H' → H p = none → H' p = some (.dK (kz (steppedT l st))) → Q (.ref p) H'
abbrev nStepped : List Str := ["_law_table", "_law_step_here", "_law_found", "_law_names", "_law_source"]
theorem sc_stepped : FnScope nStepped ["_law_table", "_law_step_here"] (defScope (top 49)) := ⟨rfl, rfl, rfl, by decide +kernel, rfl, by decide +kernel, by decide +kernel⟩
theorem g_stepped (T : Txt K mg) : GC P w K mg base CX0 1 "_law_stepped" ["_law_table", "_law_step_here"] spStepped := by
  refine gc0_of (T.fn 49 (by decide)) sc_stepped (fun vs H Q E h => ?_) (fun f cdv A outer s H vs Q E hr h => ?_) fun _ _ _ _ _ _ us hl => match us, hl with | [_, _], _ => rfl
  · obtain ⟨_, _, _, _, _, rfl, _⟩ := h
    rfl
  · obtain ⟨d, t, n, l, st, rfl, hd, ht, ga, n1, ok, k⟩ := h
    have nd := sc_stepped.nd
    have hu := huH (L2H.roomH_of hr)
    refine ⟨_, pss_cons (ps_set (i := 2) nd rfl (Or.inr rfl) (pe_callTy call_dictD (by rfl) (T.z "dict") (by decide +kernel) (pa_cons (pv 0) pa_nil)))
      (pss_cons (ps_if (pt_cmpR op_eq (pe_ix ix_tup (pv 1) pe_int (fun _ _ => rfl)) pe_str (nomark _))
        (pss_cons (ps_expr (pe_dpopO (pv 2) (pe_ix ix_tup (pv 1) pe_int (fun _ _ => rfl)) pe_non ⟨rfl, rfl, rfl, rfl⟩)) (pss_one (ps_ret (pv 2)))) pss_nil)
      (pss_cons (ps_set (i := 3) nd rfl (Or.inr rfl) (pe_callTy (call_dictP rfl) (by rfl) (T.z "dict") (by decide +kernel) (pa_cons (pe_lst (pa_cons (pe_tup (pa_cons (pe_ix ix_tup (pv 1) pe_int (fun _ _ => rfl)) (pa_cons (pe_ix ix_tup (pv 1) pe_int (fun _ _ => rfl)) pa_nil))) (pa_cons (pe_tup (pa_cons (pe_ix ix_tup (pv 1) pe_int (fun _ _ => rfl)) (pa_cons (pe_ix ix_tup (pv 1) pe_int (fun _ _ => rfl)) pa_nil))) pa_nil))) pa_nil)))
      (pss_one (ps_ret (pe_callTy (call_dictP rfl) (by rfl) (T.z "dict") (by decide +kernel) (pa_cons (pe_lock (pe_lc (own := [("_law_source", 4)]) (g := gName 4) (tt := tYes) rfl nd (pi_keys (pv 2)) (blkOk_by (own := [("_law_source", 4)]) (N := nStepped) (sc := defScope (top 49)) (by decide +kernel))
        (fun _ _ _ _ _ => pg_name (i := 4) nd rfl (Or.inl rfl)) (fun _ _ _ _ _ => pts_nil) (fun _ _ _ _ _ => pe_tup (pa_cons (pv 4) (pa_cons (pe_dget2 hu (pv 3) (pe_dget hu (pv 2) (pv 4) (fun _ _ => rfl)) (pe_dget hu (pv 2) (pv 4) (fun _ _ => rfl)) ⟨rfl, rfl, rfl, rfl⟩) pa_nil))))) pa_nil)))))), ?_⟩
    refine ⟨_, rfl, d, _, rfl, .inl hd, fun p hp => ?_⟩
    have tp : t ≠ p := ne_of_none ht hp
    have ht1 : (upd H p (.dK (kz l))) t = some (.tup st.vs) := (upd_ne tp).trans ht
    refine ⟨_, rfl, t, _, _, _, rfl, rfl, SqT.of ht1, st.at0, rfl, _, rfl, ?_⟩
    have h1 : (upd H p (.dK (kz l))) p = some (.dK (kz l)) := upd_same
    cases st with
    | forget a =>
      rw [decide_eq_true (show V.str (Step.forget a).nm = V.str "forget" from rfl)]
      refine iteT ⟨_, rfl, p, rfl, .inl ⟨_, .inl h1⟩, _, rfl, t, _, 1, V.int a, rfl, rfl, SqT.of ht1, rfl, _, Sum.inl a, h1, rfl, ?_⟩
      rw [dropK_kz, upd_upd]
      exact ⟨_, rfl, k _ p (Fr.refl.new hp) hp upd_same⟩
    | swap a b =>
      rw [decide_eq_false (show ¬ V.str (Step.swap a b).nm = V.str "forget" by intro z; cases z)]
      refine iteF ?_
      have f1 : Fr [] H (upd H p (.dK (kz l))) := Fr.refl.new hp
      generalize upd H p (.dK (kz l)) = H1 at h1 ht1 f1 ⊢
      refine ⟨_, rfl, t, _, 1, V.int a, rfl, rfl, SqT.of ht1, rfl, _, rfl, t, _, 2, V.int b, rfl, rfl, SqT.of ht1, rfl, by show 2 ≤ sizeLine; decide, fun t1 ht1' => ?_⟩
      have z1 : t ≠ t1 := ne_of_none ht1 ht1'
      have ht2 : (upd H1 t1 (.tup [V.int a, V.int b])) t = some (.tup (Step.swap a b).vs) := (upd_ne z1).trans ht1
      refine ⟨_, rfl, t, _, 2, V.int b, rfl, rfl, SqT.of ht2, rfl, _, rfl, t, _, 1, V.int a, rfl, rfl, SqT.of ht2, rfl, by show 2 ≤ sizeLine; decide, fun t2 ht2' => ?_⟩
      refine ⟨by show 2 ≤ sizeLine; decide, fun L hL => ?_⟩
      have e12 : t1 ≠ t2 := ne_of_none upd_same ht2'
      have e1L : t1 ≠ L := ne_of_none ((upd_ne e12).trans upd_same) hL
      have e2L : t2 ≠ L := ne_of_none upd_same hL
      have g1 : ∀ q o, H1 q = some o → (upd (upd (upd H1 t1 (.tup [V.int a, V.int b])) t2 (.tup [V.int b, V.int a])) L (.lst [V.ref t1, V.ref t2])) q = some o := fun q o e => by
        have e1 := (upd_ne (o := HO.tup [V.int a, V.int b]) (ne_of_none e ht1')).trans e
        have e2 := (upd_ne (o := HO.tup [V.int b, V.int a]) (ne_of_none e1 ht2')).trans e1
        exact (upd_ne (ne_of_none e2 hL)).trans e2
      refine ⟨L, [t1, t2], kz [(a, b), (b, a)], rfl, SqL.of upd_same, .cons (SqT.of ((upd_ne e1L).trans ((upd_ne e12).trans upd_same))) (.cons (SqT.of ((upd_ne e2L).trans upd_same)) .nil), fun pn hpn => ?_⟩
      have em := merge_kz [(a, b), (b, a)] [] (by simp; exact ok.2.2)
      rw [show ([] : List (Key × V)) = kz [] from rfl, em, List.nil_append]
      have g2 : ∀ q o, H1 q = some o → (upd (upd (upd (upd H1 t1 (.tup [V.int a, V.int b])) t2 (.tup [V.int b, V.int a])) L (.lst [V.ref t1, V.ref t2])) pn (.dK (kz [(a, b), (b, a)]))) q = some o := fun q o e => by
        have := g1 q o e
        rw [upd_ne (ne_of_none this hpn)]
        exact this
      have hn : (upd (upd (upd (upd H1 t1 (.tup [V.int a, V.int b])) t2 (.tup [V.int b, V.int a])) L (.lst [V.ref t1, V.ref t2])) pn (.dK (kz [(a, b), (b, a)]))) pn = some (.dK (kz [(a, b), (b, a)])) := upd_same
      have hp2 := g2 _ _ h1
      have npn : p ≠ pn := ne_of_none (g1 _ _ h1) hpn
      have f2 : Fr [] H (upd (upd (upd (upd H1 t1 (.tup [V.int a, V.int b])) t2 (.tup [V.int b, V.int a])) L (.lst [V.ref t1, V.ref t2])) pn (.dK (kz [(a, b), (b, a)]))) := fun q o e m => g2 q o (f1 q o e m)
      generalize upd (upd (upd (upd H1 t1 (.tup [V.int a, V.int b])) t2 (.tup [V.int b, V.int a])) L (.lst [V.ref t1, V.ref t2])) pn (.dK (kz [(a, b), (b, a)])) = H2 at hn hp2 f2 ⊢
      refine ⟨p, _, hp2, trivial, fun od => ?_⟩
      refine ⟨_, rfl, p, od, rfl, .inl ⟨kz l, upd_same, fun D hD => ?_⟩⟩
      obtain ⟨hD0, neD⟩ := lock_none hp2 hD
      have nDn : pn ≠ D := ne_of_none hn hD0
      refine lc_it walk_keys (fun i H' => ∃ ps, H' D = some (.lst (ps.map V.ref)) ∧ PairsAt H' ps (steppedT (l.take i) (.swap a b)) ∧ ps.length ≤ i ∧ SameX D (upd H2 p (.frz od (.dK (kz l)))) H') ?_ ?_ ?_ ?_
      · exact ⟨[], upd_same, .nil, Nat.le_refl _, fun q o hq ho => by rw [upd_ne hq]; exact ho⟩
      · rintro i H' _ ⟨_, _, _, _, s⟩
        exact s _ _ neD.symm upd_same
      · rintro i x _ H3 hi ⟨ps, p1, p2, p3, p4⟩ ⟨rfl, key, v, hk, rfl⟩
        obtain ⟨hil, rfl, rfl⟩ := kz_get' hk
        have fz : H3 p = some (.frz od (.dK (kz l))) := p4 _ _ neD.symm upd_same
        have h2 : H3 pn = some (.dK (kz [(a, b), (b, a)])) := p4 _ _ nDn ((upd_ne npn.symm).trans hn)
        have g : DGet H3 p (V.int l[i].1) (some (V.int l[i].2)) := .inl ⟨kz l, Sum.inl l[i].1, .inr ⟨od, fz⟩, rfl, by rw [valV_kz, lk_of (s := l[i].1) (t := l[i].2) ga.src (List.getElem_mem hil)]; rfl⟩
        refine ⟨rfl, _, rfl, _, rfl, pn, rfl, .inl ⟨_, .inl h2⟩, _, rfl, _, rfl, p, V.int l[i].2, rfl, g, _, rfl, _, rfl, p, V.int l[i].2, rfl, g, _, DGet.k (k := Sum.inl l[i].2) h2, ?_⟩
        rw [valV_kz]
        rw [names_nm]
        refine ⟨by show 2 ≤ sizeLine; decide, fun t5 ht5 => ?_⟩
        have nD : D ≠ t5 := ne_of_none p1 ht5
        refine ⟨_, (upd_ne nD).trans p1, by rw [List.length_map]; have := ga.len; exact small1000 (by omega), ps ++ [t5], ?_, ?_, by simp; omega, ?_⟩
        · rw [upd_same, List.map_append]
          rfl
        · have := p2.snoc (s := l[i].1) (t := nm a b l[i].2) (zs := ps.map V.ref ++ [V.ref t5]) ht5 p1
          have e9 : steppedT (l.take (i + 1)) (.swap a b) = steppedT (l.take i) (.swap a b) ++ [(l[i].1, nm a b l[i].2)] := by
            rw [stepped_swap, stepped_swap, List.take_succ_eq_append_getElem hil, List.map_append]
            rfl
          rw [e9]
          exact this
        · intro q o hq ho
          have := p4 q o hq ho
          rw [upd_ne hq, upd_ne (ne_of_none this ht5)]
          exact this
      · rintro H3 ⟨ps, p1, p2, p3, p4⟩
        rw [kz_len, List.take_length] at p2
        refine ⟨p4 _ _ neD.symm upd_same, ?_⟩
        have s0 := lock_same hp2 hD p4
        have c1 : (upd H3 p (.dK (kz l))) D = some (.lst (ps.map V.ref)) := (upd_ne neD).trans p1
        have c2 : PairsAt (upd H3 p (.dK (kz l))) ps (steppedT l (.swap a b)) := pairs_same p2 fun q o e => by
          have : q ≠ p := ne_of e (p4 _ _ neD.symm upd_same) (by intro z; cases z)
          rw [upd_ne this]
          exact e
        have hs : ((steppedT l (.swap a b)).map (·.1)).Nodup := by
          have e : (steppedT l (.swap a b)).map (·.1) = l.map (·.1) := by
            rw [stepped_swap, List.map_map]
            rfl
          rw [e]
          exact ga.src
        refine ⟨D, ps, _, rfl, SqL.of c1, pairs_kv c2, fun q hq => ?_⟩
        have e := merge_kz (steppedT l (.swap a b)) [] (by rw [List.nil_append]; exact hs)
        rw [e, List.nil_append]
        have f4 : Fr [] H (upd H3 p (.dK (kz l))) := f2.trans (same_fr s0 [])
        have hq0 : H q = none := by
          cases z : H q with
          | none => rfl
          | some o => rw [f4 _ _ z (fun _ => by simp)] at hq; cases hq
        exact k _ q (f4.new hq0) hq0 upd_same
end
end K74
end
-- K74O
section
set_option maxRecDepth 100000
set_option maxHeartbeats 4000000
/-! The law's drawn things. -/
namespace K74
open PySem PySem.Spec PyProof.Rows L2
section
variable {P : Program} {w : World} {K : PySem.W.Frag} {mg : Str → Option Value} {base : Heap}
def spUser : Sp := fun vs H Q _ => ∃ (p : Addr), vs = [.ref p] ∧ PoolAt H p ∧ ∀ H' u, Fr [p] H H' → PoolAt H' p → u ∈ users → Q (.str u) H'
theorem sc_user : FnScope ["_law_pool"] ["_law_pool"] (defScope (top 55)) := ⟨rfl, rfl, rfl, by decide +kernel, rfl, by decide +kernel, by decide +kernel⟩
theorem g_user (T : Txt K mg) : GC P w K mg base CX0 2 "_law_user" ["_law_pool"] spUser := by
  have GD := g_draw (P := P) (w := w) (base := base) T
  refine gc0_of (T.fn 55 (by decide)) sc_user (fun vs H Q E h => ?_) (fun f cdv A outer s H vs Q E hr h => ?_) fun _ _ _ _ _ _ us hl => match us, hl with | [_], _ => rfl
  · obtain ⟨_, rfl, _⟩ := h
    rfl
  · obtain ⟨p, rfl, hp, k⟩ := h
    refine ⟨_, pss_one (ps_ret (pe_ix ix_list (pe_lst (pa_cons pe_str (pa_cons pe_str (pa_cons pe_str pa_nil)))) (pe_gc GD hr pass0 (pa_cons (pv 0) (pa_cons pe_int pa_nil))) (fun _ _ => rfl))), ?_⟩
    refine ⟨by show 3 ≤ sizeLine; decide, fun L hL => ?_⟩
    have pL : p ≠ L := by obtain ⟨a, b, h, _⟩ := hp; exact ne_of_none h hL
    have f1 : Fr [p] H (upd H L (.lst [V.str "ann", V.str "bob", V.str "abcdefgh"])) := Fr.refl.new hL
    refine ⟨_, rfl, p, 3, rfl, hp.fr (S := []) (Fr.refl.new hL) (by simp), by decide, by decide, fun H2 d f2 hp2 hd => ?_⟩
    have hL2 : H2 L = some (.lst [V.str "ann", V.str "bob", V.str "abcdefgh"]) := f2 _ _ upd_same fun _ => by simp; exact pL.symm
    have fin : ∀ u, atI [V.str "ann", V.str "bob", V.str "abcdefgh"] ((d : Nat) : Int) = some (V.str u) → u ∈ users → rIxL K (V.ref L) (V.int d) H2 Q := fun u e hu =>
      ⟨L, _, _, V.str u, rfl, rfl, SqL.of hL2, e, k H2 u (f1.trans f2) hp2 hu⟩
    rcases (show d = 0 ∨ d = 1 ∨ d = 2 by omega) with rfl | rfl | rfl
    · exact fin "ann" rfl (by decide +kernel)
    · exact fin "bob" rfl (by decide +kernel)
    · exact fin "abcdefgh" rfl (by decide +kernel)
def spLawStep : Sp := fun vs H Q _ => ∃ (p : Addr) (n : Nat), vs = [.ref p, .int n] ∧ PoolAt H p ∧ 1 ≤ n ∧ n ≤ 9 ∧ ∀ H' (t : Addr) (st : Step), Fr [p] H H' → PoolAt H' p → H t = none → H' t = some (.tup st.vs) → st.Ok n → Q (.ref t) H'
abbrev nLawStep : List Str := ["_law_pool", "_law_size", "_law_one"]
theorem sc_law_step : FnScope nLawStep ["_law_pool", "_law_size"] (defScope (top 48)) := ⟨rfl, rfl, rfl, by decide +kernel, rfl, by decide +kernel, by decide +kernel⟩
theorem fr_none {S : List Addr} {H H' : Hp} {t : Addr} (f : Fr S H H') (h : H' t = none) (hS : ∀ a ∈ S, H' a ≠ none) : H t = none := by
  cases z : H t with
  | none => rfl
  | some o => exact absurd (f t o z fun _ m => hS t m h) (by rw [h]; simp)
theorem PoolAt.some {H : Hp} {p : Addr} (m : PoolAt H p) : H p ≠ none := by obtain ⟨a, b, h, _⟩ := m; rw [h]; simp
theorem pool_none {H H' : Hp} {p t : Addr} (f : Fr [p] H H') (m : PoolAt H' p) (h : H' t = none) : H t = none := fr_none f h fun a ha => by rw [List.mem_singleton.mp ha]; exact m.some
theorem g_law_step (T : Txt K mg) : GC P w K mg base CX0 2 "_law_step" ["_law_pool", "_law_size"] spLawStep := by
  have GD := g_draw (P := P) (w := w) (base := base) T
  refine gc0_of (T.fn 48 (by decide)) sc_law_step (fun vs H Q E h => ?_) (fun f cdv A outer s H vs Q E hr h => ?_) fun _ _ _ _ _ _ us hl => match us, hl with | [_, _], _ => rfl
  · obtain ⟨_, _, rfl, _⟩ := h
    rfl
  · obtain ⟨p, n, rfl, hp, n1, n9, k⟩ := h
    have nd := sc_law_step.nd
    refine ⟨_, pss_cons (ps_if (PW.pt (pw_or (pt_cmpR op_eq (pv 1) pe_int (nomark _)) (pw_or1 (pt_cmpR op_eq (pe_gc GD hr pass0 (pa_cons (pv 0) (pa_cons pe_int pa_nil))) pe_int (nomark _)))))
        (pss_one (ps_ret (pe_tup (pa_cons pe_str (pa_cons (pe_gc GD hr pass0 (pa_cons (pv 0) (pa_cons (pv 1) pa_nil))) pa_nil))))) pss_nil)
      (pss_cons (ps_set (i := 2) nd rfl (Or.inl rfl) (pe_gc GD hr pass0 (pa_cons (pv 0) (pa_cons (pv 1) pa_nil))))
      (pss_one (ps_ret (pe_tup (pa_cons pe_str (pa_cons (pv 2) (pa_cons (pe_op op_modN (pe_op op_add (pe_op op_add (pv 2) pe_int) (pe_gc GD hr pass0 (pa_cons (pv 0) (pa_cons (pe_op op_sub (pv 1) pe_int) pa_nil)))) (pv 1)) pa_nil))))))), ?_⟩
    -- the two ends
    have forget : ∀ H1, Fr [p] H H1 → PoolAt H1 p → tTup (tCons (tC (V.str "forget")) (tCons (tCall spDraw [] E0 (tCons (tVar 0) (tCons (tVar 1) tNil))) tNil)) (L2.start nLawStep [V.ref p, V.int n]) H1 Q := fun H1 f1 h1 => by
      refine ⟨_, rfl, _, rfl, p, n, rfl, h1, n1, n9, fun H2 d f2 h2 hd => ?_⟩
      refine ⟨by show 2 ≤ sizeLine; decide, fun t ht => ?_⟩
      have ht0 := pool_none (f1.trans f2) h2 ht
      exact k _ t (.forget d) ((f1.trans f2).new ht0) (h2.fr (S := []) (Fr.refl.new ht) (by simp)) ht0 upd_same ⟨by omega, by omega⟩
    refine ⟨_, rfl, rfl, _, rfl, ?_⟩
    by_cases e1 : n = 1
    · subst e1
      rw [decide_eq_true (show V.int ((1 : Nat) : Int) = V.int 1 from rfl)]
      exact iteT (forget H Fr.refl hp)
    · rw [decide_eq_false (show ¬ V.int (n : Int) = V.int 1 from fun z => e1 (by have := V.int.inj z; omega))]
      refine iteF ⟨_, rfl, p, 3, rfl, hp, by decide, by decide, fun H1 d f1 h1 hd => ?_⟩
      refine ⟨rfl, _, rfl, ?_⟩
      refine ite2 (fun _ => forget H1 f1 h1) fun _ => ?_
      refine ⟨_, rfl, _, rfl, p, n, rfl, h1, n1, n9, fun H2 a f2 h2 ha => ?_⟩
      refine ⟨_, rfl, _, rfl, _, _, rfl, rfl, _, rfl, _, rfl, _, _, rfl, rfl, p, n - 1, ?_, h2, by omega, by omega, fun H3 b f3 h3 hb => ?_⟩
      · show [V.ref p, V.int ((n : Int) - 1)] = [V.ref p, V.int ((n - 1 : Nat) : Int)]
        rw [show ((n : Int) - 1) = ((n - 1 : Nat) : Int) by omega]
      · refine ⟨_, _, rfl, rfl, _, rfl, _, _, rfl, rfl, by omega, by show 3 ≤ sizeLine; decide, fun t ht => ?_⟩
        have ht0 := pool_none ((f1.trans f2).trans f3) h3 ht
        obtain ⟨c, hc, ec⟩ := fmod_nat (a := (a : Int) + 1 + b) (n := n) (by omega) n1
        have ht1 := k (upd H3 t (.tup (Step.swap a c).vs)) t (.swap a c) (((f1.trans f2).trans f3).new ht0) (h3.fr (S := []) (Fr.refl.new ht) (by simp)) ht0 upd_same ⟨⟨by omega, by omega⟩, ⟨by omega, by omega⟩, fun z => ?_⟩
        · show Q (V.ref t) (upd H3 t (.tup [V.str "swap", V.int a, V.int (Int.fmod ((a : Int) + 1 + b) n)]))
          rw [ec]
          exact ht1
        · rw [Int.fmod_eq_emod_of_nonneg _ (Int.natCast_nonneg _)] at ec
          by_cases q : a + 1 + b < n
          · rw [Int.emod_eq_of_lt (by omega) (by omega)] at ec
            omega
          · have e2 : ((a : Int) + 1 + b) % n = (a : Int) + 1 + b - n := by
              rw [show ((a : Int) + 1 + b) = ((a : Int) + 1 + b - n) + n by omega, Int.add_emod_right, Int.emod_eq_of_lt (by omega) (by omega)]
              omega
            rw [e2] at ec
            omega
def spArrows : Sp := fun vs H Q _ => ∃ (p : Addr) (n : Nat), vs = [.ref p, .int n] ∧ PoolAt H p ∧ 1 ≤ n ∧ n ≤ 9 ∧ ∀ H' (d : Addr) (l : Tbl), Fr [p] H H' → PoolAt H' p → H d = none → H' d = some (.dK (kz l)) → GA n l → Q (.ref d) H'
abbrev nArrows : List Str := ["_law_pool", "_law_size", "_law_left", "_law_found", "_law_rare", "_law_source"]
theorem sc_arrows : FnScope nArrows ["_law_pool", "_law_size"] (defScope (top 43)) := ⟨rfl, rfl, rfl, by decide +kernel, rfl, by decide +kernel, by decide +kernel⟩
theorem erase_perm : ∀ {ls : List Int} {j : Nat} (h : j < ls.length), (ls[j] :: ls.eraseIdx j).Perm ls
  | x :: r, 0, _ => List.Perm.refl _
  | x :: r, j + 1, h => by
    have ih := erase_perm (ls := r) (j := j) (by simpa using h)
    exact (List.Perm.swap x (r[j]'(by simpa using h)) (r.eraseIdx j)).trans (ih.cons x)
theorem erase_map : ∀ (ls : List Int) (j : Nat), (ls.map V.int).eraseIdx j = (ls.eraseIdx j).map V.int
  | [], _ => rfl
  | x :: r, 0 => rfl
  | x :: r, j + 1 => congrArg (V.int x :: ·) (erase_map r j)
theorem seqIx {b n : Nat} (h : b < n) : seqIndex? (b : Int) n = some b := (ixN_seq (by unfold ixN; rw [if_pos (by omega), if_pos (by omega)]; simp)).1
/-- what is found so far, what is left -/
structure Draws (n i : Nat) (F : Tbl) (ls : List Int) : Prop where
  asc : Asc F
  src : ∀ p ∈ F, 0 ≤ p.1 ∧ p.1 < i
  nd : (F.map (·.2) ++ ls).Nodup
  rng : ∀ x ∈ F.map (·.2) ++ ls, 0 ≤ x ∧ x < n
  len : F.length + ls.length = n
  le : F.length ≤ i
theorem Draws.ga {n : Nat} {F : Tbl} {ls : List Int} (d : Draws n n F ls) : GA n F :=
  ⟨⟨fun p hp => ⟨d.src p hp, d.rng _ (List.mem_append_left _ (List.mem_map_of_mem hp))⟩, asc_src d.asc, (List.nodup_append.mp d.nd).1⟩, d.asc⟩
theorem Draws.skip {n i : Nat} {F : Tbl} {ls : List Int} (d : Draws n i F ls) : Draws n (i + 1) F ls := ⟨d.asc, fun p hp => by have := d.src p hp; omega, d.nd, d.rng, d.len, Nat.le_succ_of_le d.le⟩
theorem Draws.take {n i j : Nat} {F : Tbl} {ls : List Int} (d : Draws n i F ls) (hj : j < ls.length) : Draws n (i + 1) (F ++ [((i : Int), ls[j])]) (ls.eraseIdx j) := by
  have hp : ((F ++ [((i : Int), ls[j])]).map (·.2) ++ ls.eraseIdx j).Perm (F.map (·.2) ++ ls) := by
    rw [List.map_append, List.append_assoc]
    refine List.Perm.append_left _ ?_
    exact erase_perm hj
  refine ⟨?_, fun p hp => ?_, hp.nodup_iff.mpr d.nd, fun x hx => d.rng x (hp.mem_iff.mp hx), ?_, ?_⟩
  · refine List.pairwise_append.mpr ⟨d.asc, by simp, fun p hp q hq => ?_⟩
    have := d.src p hp
    simp at hq
    subst hq
    exact this.2
  · rcases List.mem_append.mp hp with h | h
    · have := d.src p h
      omega
    · simp at h
      subst h
      exact ⟨by simp, by simp; omega⟩
  · have := d.len
    rw [List.length_append, List.length_eraseIdx_of_lt hj]
    simp
    omega
  · have := d.le
    rw [List.length_append]
    simp
    omega
theorem g_arrows (T : Txt K mg) : GC P w K mg base CX0 2 "_law_arrows" ["_law_pool", "_law_size"] spArrows := by
  have GD := g_draw (P := P) (w := w) (base := base) T
  refine gc0_of (T.fn 43 (by decide)) sc_arrows (fun vs H Q E h => ?_) (fun f cdv A outer s H vs Q E hr h => ?_) fun _ _ _ _ _ _ us hl => match us, hl with | [_, _], _ => rfl
  · obtain ⟨_, _, rfl, _⟩ := h
    rfl
  · obtain ⟨p, n, rfl, hp, n1, n9, k⟩ := h
    have nd := sc_arrows.nd
    have hu := huH (L2H.roomH_of hr)
    refine ⟨_, pss_cons (ps_par3 (i := 2) (j := 3) (l := 4) rfl nd rfl rfl rfl (by decide) (by decide) (by decide) rfl rfl rfl (pa_cons (pe_listRg rfl rfl (T.z "list") (prg_1 rfl (T.z "range") (pv 1))) (pa_cons pe_dnewK (pa_cons (pe_op op_add pe_int (pe_gc GD hr pass0 (pa_cons (pv 0) (pa_cons pe_int pa_nil)))) pa_nil))) (by rfl))
      (pss_cons (ps_for PassesOwn.never rfl (pi_range1 rfl (T.z "range") (pa_cons (pv 1) pa_nil)) (pg_name (i := 5) nd rfl (Or.inl rfl))
        (pss_one (ps_if (PW.pt (pw_or (pt_cmpR op_gt (pe_gc GD hr pass0 (pa_cons (pv 0) (pa_cons (pv 4) pa_nil))) pe_int (nomark _)) (pw_or1 (pt_cmpR op_eq (pv 4) pe_int (nomark _)))))
          (pss_one (ps_dput hu (pv 3) (pv 5) (pe_bm PySem.F.plainAttrs_list PySem.F.slot_list_pop PySem.F.type_list_pop mt_popAt (pv 2) (pa_cons (pe_gc GD hr pass0 (pa_cons (pv 0) (pa_cons (pe_callB call_len_seq (by rfl) (T.z "len") PySem.boot_len (pa_cons (pv 2) pa_nil)) pa_nil))) pa_nil)) rfl)) pss_nil)))
      (pss_one (ps_ret (pv 3)))), ?_⟩
    have pne : ∀ q, H q = none → q ≠ p := fun q hq z => hp.some (by rw [← z]; exact hq)
    have e0 : rgV 0 (n : Int) = ((List.range n).map fun i => ((i : Nat) : Int)).map V.int := by
      unfold rgV
      rw [List.map_map, Int.sub_zero, Int.toNat_natCast]
      refine List.map_congr_left fun i _ => ?_
      show V.int (0 + (i : Int)) = V.int i
      rw [Int.zero_add]
    refine ⟨_, rfl, n, rfl, RgOk.of_le (by decide) (by omega) (by decide) (by omega), fun L hL => ?_⟩
    rw [e0]
    intro D hD
    have LD : L ≠ D := ne_of_none upd_same hD
    have hD0 : H D = none := by rwa [upd_ne LD.symm] at hD
    have f0 : Fr [p] H (upd (upd H L (.lst (((List.range n).map fun i => ((i : Nat) : Int)).map V.int))) D (.dK [])) := (Fr.refl.new hL).new hD0
    refine ⟨_, rfl, p, 5, rfl, hp.fr (S := []) ((Fr.refl.new hL).new hD0) (by simp), by decide, by decide, fun H2 r f2 h2 hr5 => ?_⟩
    refine ⟨_, _, rfl, rfl, _, _, _, rfl, ?_⟩
    have l2 : H2 L = some (.lst (((List.range n).map fun i => ((i : Nat) : Int)).map V.int)) := f2 _ _ ((upd_ne LD).trans upd_same) fun _ => by simp; exact pne L hL
    have d2 : H2 D = some (.dK (kz [])) := f2 _ _ upd_same fun _ => by simp; exact pne D hD0
    have fr2 := f0.trans f2
    refine ⟨_, rfl, n, rfl, by omega, by omega, ?_⟩
    rw [Int.toNat_natCast]
    refine for_it walk_rg0 (fun i σ H' => ∃ F ls x5, σ = [some (.ref p), some (.int n), some (.ref L), some (.ref D), some (.int (1 + (r : Int))), x5] ∧ Draws n i F ls ∧ H' L = some (.lst (ls.map V.int)) ∧ H' D = some (.dK (kz F)) ∧ PoolAt H' p ∧ Fr [p] H H') ?_ (fun _ _ _ _ _ => trivial) ?_ ?_
    · refine ⟨[], _, _, rfl, ⟨List.Pairwise.nil, fun q hq => by simp at hq, ?_, fun x hx => ?_, by simp, Nat.le_refl _⟩, l2, d2, h2, fr2⟩
      · unfold List.Nodup
        rw [List.map_nil, List.nil_append, List.pairwise_map]
        exact (List.pairwise_lt_range (n := n)).imp fun h => by omega
      · rw [List.map_nil, List.nil_append] at hx
        obtain ⟨i, hi, rfl⟩ := List.mem_map.mp hx
        have := List.mem_range.mp hi
        omega
    · rintro i _ σ _ H3 hi ⟨F, ls, x5, rfl, dr, q1, q2, q3, q4⟩ ⟨rfl, rfl⟩
      have hl1 : 1 ≤ ls.length := by have := dr.len; have := dr.le; omega
      have hl9 : ls.length ≤ 9 := by have := dr.len; omega
      have body : ∀ H4, Fr [p] H3 H4 → PoolAt H4 p → sDPut (tVar 3) (tVar 5) (tBM K "list" rPopAt (tVar 2) (tCons (tCall spDraw [] E0 (tCons (tVar 0) (tCons (tCB (fun xs H Q => ∃ p ys, xs = [V.ref p] ∧ (SqL K H p ys ∨ SqT K H p ys) ∧ Q (V.int ys.length) H) (tCons (tVar 2) tNil)) tNil))) tNil))
          { nx := fun σ H' => ∃ F ls x5, σ = [some (.ref p), some (.int n), some (.ref L), some (.ref D), some (.int (1 + (r : Int))), x5] ∧ Draws n (i + 1) F ls ∧ H' L = some (.lst (ls.map V.int)) ∧ H' D = some (.dK (kz F)) ∧ PoolAt H' p ∧ Fr [p] H H', rt := fun _ _ => False, bk := fun _ _ => False, ct := fun _ _ => False }
          [some (.ref p), some (.int n), some (.ref L), some (.ref D), some (.int (1 + (r : Int))), some (.int (i : Nat))] H4 := fun H4 f4 h4 => by
        have l4 := f4 _ _ q1 fun _ => by simp; exact pne L hL
        have d4 := f4.imm q2 (mut_kz F)
        refine ⟨_, rfl, .inl ⟨rfl, _, SqL.of l4⟩, ?_⟩
        refine ⟨_, rfl, _, rfl, L, _, rfl, .inl (SqL.of l4), p, ls.length, by rw [List.length_map]; rfl, h4, hl1, hl9, fun H5 b f5 h5 hb => ?_⟩
        have l5 := f5 _ _ l4 fun _ => by simp; exact pne L hL
        have d5 := f5.imm d4 (mut_kz F)
        refine ⟨L, _, b, b, V.int ls[b], rfl, rfl, l5, by omega, by omega, seqIx (by rw [List.length_map]; exact hb), by rw [List.getElem?_map, List.getElem?_eq_getElem hb]; rfl, ?_⟩
        refine ⟨_, rfl, _, rfl, D, _, rfl, DPut.k (k := Sum.inl (i : Int)) ((upd_ne LD.symm).trans d5) (by rw [kz_len]; have := dr.le; exact small1000 (by omega)), ?_⟩
        refine ⟨F ++ [((i : Int), ls[b])], ls.eraseIdx b, _, rfl, dr.take hb, ?_, ?_, ?_, ?_⟩
        · rw [upd_ne LD, upd_same, erase_map]
        · rw [upd_same, putK_new _ (by
            rw [valV_kz, lk_none.mpr]
            · rfl
            · intro z
              obtain ⟨q, hq, e⟩ := List.mem_map.mp z
              have := (dr.src q hq).2
              omega)]
          simp [kz]
        · obtain ⟨a, c, h, r1, r2, r3⟩ := h5
          exact ⟨a, c, by rw [upd_ne (pne D hD0).symm, upd_ne (pne L hL).symm]; exact h, r1, r2, r3⟩
        · exact ((((q4.trans f4).trans f5).new hL).new hD0)
      refine ⟨_, rfl, _, rfl, p, 1 + r, ?_, q3, by omega, by omega, fun H4 a f4 h4 ha => ?_⟩
      · show [V.ref p, V.int (1 + (r : Int))] = [V.ref p, V.int ((1 + r : Nat) : Int)]
        rw [show (1 + (r : Int)) = ((1 + r : Nat) : Int) by omega]
      · refine ⟨_, _, rfl, rfl, _, rfl, ite2 (fun _ => body H4 f4 h4) fun _ => ?_⟩
        refine ⟨_, rfl, rfl, _, rfl, ite2 (fun _ => body H4 f4 h4) fun _ => ?_⟩
        exact ⟨F, ls, _, rfl, dr.skip, f4 _ _ q1 fun _ => by simp; exact pne L hL, f4.imm q2 (mut_kz F), h4, q4.trans f4⟩
    · rintro σ H3 ⟨F, ls, x5, rfl, dr, q1, q2, q3, q4⟩
      exact ⟨_, rfl, k H3 D F q4 q3 hD0 q2 dr.ga⟩
def spModel : Sp := fun vs H Q _ => ∃ (n : Nat), vs = [.int n] ∧ n ≤ 300 ∧ ∀ H' (m : Addr), Fr [] H H' → H m = none → ModAt H' m n [fullT n] [] → Q (.ref m) H'
theorem sc_model : FnScope ["_law_size"] ["_law_size"] (defScope (top 54)) := ⟨rfl, rfl, rfl, by decide +kernel, rfl, by decide +kernel, by decide +kernel⟩
theorem merge_mdl (n : Nat) (tl ll : Addr) : mergeK [] (mdl n tl ll) = mdl n tl ll := by rfl
theorem g_model (T : Txt K mg) : GC P w K mg base CX0 2 "_law_model" ["_law_size"] spModel := by
  have G := g_full (P := P) (w := w) (base := base) T
  refine gc0_of (T.fn 54 (by decide)) sc_model (fun vs H Q E h => ?_) (fun f cdv A outer s H vs Q E hr h => ?_) fun _ _ _ _ _ _ us hl => match us, hl with | [_], _ => rfl
  · obtain ⟨_, rfl, _⟩ := h
    rfl
  · obtain ⟨n, rfl, n1, k⟩ := h
    refine ⟨_, pss_one (ps_ret (pe_disp (pps_cons pe_str (pv 0) (pps_cons pe_str (pe_lst (pa_cons (pe_gc G hr pass0 (pa_cons (pv 0) pa_nil)) pa_nil)) (pps_cons pe_str (pe_lst pa_nil) pps_nil))) (by rfl) (by rfl) (fun z => by cases z) (by decide))), ?_⟩
    intro m hm
    refine ⟨_, rfl, _, rfl, n, rfl, n1, fun H1 p f1 hp0 hp => ?_⟩
    refine ⟨by show 1 ≤ sizeLine; decide, fun tl htl => ?_⟩
    refine ⟨by show 0 ≤ sizeLine; decide, fun ll hll => ?_⟩
    have m1 : H1 m = some (.dK []) := f1.imm upd_same rfl
    have mt : m ≠ tl := ne_of_none m1 htl
    have tll : tl ≠ ll := ne_of_none upd_same hll
    have mll : m ≠ ll := ne_of_none ((upd_ne mt).trans m1) hll
    have pm : p ≠ m := fun z => by rw [z, upd_same] at hp0; cases hp0
    have ptl : p ≠ tl := ne_of_none hp htl
    have pll : p ≠ ll := ne_of_none ((upd_ne ptl).trans hp) hll
    refine ⟨by rw [upd_ne mll, upd_ne mt]; exact m1, mdl n tl ll, rfl, by show 3 ≤ 15; decide, ?_⟩
    rw [merge_mdl]
    have htl0 : H tl = none := by
      have : (upd H m (.dK [])) tl = none := by
        cases z : (upd H m (.dK [])) tl with
        | none => rfl
        | some o => rw [f1 _ _ z (fun _ => by simp)] at htl; cases htl
      rwa [upd_ne mt.symm] at this
    have hll0 : H ll = none := by
      rw [upd_ne tll.symm] at hll
      have : (upd H m (.dK [])) ll = none := by
        cases z : (upd H m (.dK [])) ll with
        | none => rfl
        | some o => rw [f1 _ _ z (fun _ => by simp)] at hll; cases hll
      rwa [upd_ne mll.symm] at this
    have fr : Fr [] H (upd (upd (upd H1 tl (.lst [V.ref p])) ll (.lst [])) m (.dK (mdl n tl ll))) := (((((Fr.refl.new hm).trans f1).new htl0).new hll0).new hm)
    refine k _ m fr hm ⟨tl, ll, upd_same, ⟨⟨[V.ref p], ?_, .cons ⟨p, rfl, ?_⟩ .nil⟩, ⟨[], ?_, .nil⟩⟩⟩
    · rw [upd_ne mt.symm, upd_ne tll, upd_same]
    · rw [upd_ne pm, upd_ne pll, upd_ne ptl]
      exact hp
    · rw [upd_ne mll.symm, upd_same]
end
end K74
end
-- K74Q
section
set_option maxRecDepth 100000
set_option maxHeartbeats 4000000
/-! What a session shows is what the model says. -/
namespace K74
open PySem PySem.Spec PyProof.Rows L2
def logD (log : List (Str × Str)) : List PyData := log.map fun e => .tuple [.str e.1, .str e.2]
theorem logD_at {K : PySem.W.Frag} {H : Hp} {xs : List V} {log : List (Str × Str)} (h : Paired (EntAt H) xs log) : DpAll K H xs (logD log) := by
  induction h with
  | nil => exact .nil
  | cons a t ih =>
    obtain ⟨t, rfl, e⟩ := a
    exact .cons (.tup (SqT.of e) (.cons (.str _) (.cons (.str _) .nil))) ih
theorem logD_lay {log : List (Str × Str)} (h : ∀ e ∈ log, PyData.strOk e.1 = true ∧ PyData.strOk e.2 = true) : PyData.canLayAll0 (logD log) = true := by
  induction log with
  | nil => simp [logD, PyData.canLayAll0]
  | cons e r ih =>
    have h1 := h e List.mem_cons_self
    have h2 := ih fun x hx => h x (List.mem_cons_of_mem _ hx)
    unfold logD at h2 ⊢
    rw [List.map_cons]
    simp [PyData.canLayAll0, PyData.canLay0, h1.1, h1.2, h2]
theorem logD_depth (log : List (Str × Str)) : PyData.depthAll (logD log) ≤ 1 := by
  induction log with
  | nil => simp [logD, PyData.depthAll]
  | cons e r ih =>
    unfold logD at ih ⊢
    rw [List.map_cons]
    simp only [PyData.depthAll, PyData.depth]
    omega
theorem logD_shaped {log : List (Str × Str)} (h : ∀ e ∈ log, PyData.strOk e.1 = true ∧ PyData.strOk e.2 = true) : SeqAt.shaped (.list (logD log)) = true := by
  unfold SeqAt.shaped
  have h1 := logD_lay h
  have h2 := logD_depth log
  rw [Bool.and_eq_true_iff]
  refine ⟨by simp only [PyData.canLay0]; exact h1, decide_eq_true ?_⟩
  simp only [PyData.depth]
  omega
theorem last_snoc {α : Type} {l : List α} {n : Nat} (h : l.length = n + 1) : ∃ l' x, l = l' ++ [x] ∧ l'.length = n := by
  have hne : l ≠ [] := fun z => by rw [z] at h; cases h
  exact ⟨l.dropLast, l.getLast hne, (List.dropLast_concat_getLast hne).symm, by rw [List.length_dropLast, h]; rfl⟩
theorem huH64 {k : Nat} {A : Around} (hr : L2H.RoomH k A) : A.units + 64 < cLine := by
  have := hr.un
  omega
theorem fs_none (I : SI) (pr lg ea : Addr) (x : Str) (h : (sesFields.all fun y => !(x == y)) = true := by decide) : (I.fs pr lg ea).lookup x = none := by
  unfold sesFields at h
  simp only [List.all_cons, List.all_nil, Bool.and_true, Bool.and_eq_true, Bool.not_eq_true'] at h
  obtain ⟨h1, h2, h3, h4⟩ := h
  unfold SI.fs SI.ex
  cases I.least with
  | none => simp only [List.lookup, h1, h2, h3]
  | some m => simp only [List.lookup, h1, h2, h3, h4]
section
variable {H : Hp} {m tl ll : Addr} {n : Nat}
theorem mdl_size (h : H m = some (.dK (mdl n tl ll))) : DGet H m (V.str "size") (some (V.int n)) := DGet.k (k := Sum.inr "size") h
theorem mdl_tables (h : H m = some (.dK (mdl n tl ll))) : DGet H m (V.str "tables") (some (V.ref tl)) := DGet.k (k := Sum.inr "tables") h
theorem mdl_log (h : H m = some (.dK (mdl n tl ll))) : DGet H m (V.str "log") (some (V.ref ll)) := DGet.k (k := Sum.inr "log") h
end
/-- session and model, each by its own facts -/
theorem SessAt.sesI {K : PySem.W.Frag} {H : Hp} {s : Addr} {I : SI} {n : Nat} {tabs : List Tbl} {log : List (Str × Str)} (h : SessAt K H s I n tabs log) : ∃ pr lg ea, SesI H s I.C pr lg ea ∧ H s = some (.ins I.C I.dx (I.fs pr lg ea)) ∧ SessD K H n pr lg ea tabs log :=
  let ⟨_, pr, lg, ea, h1, h2⟩ := h; ⟨pr, lg, ea, ⟨I.dx, I.ex, h1⟩, h1, h2⟩
section
variable {P : Program} {w : World} {K : PySem.W.Frag} {mg : Str → Option Value} {base : Heap}
/-- Map(n, d), for a place that says more of what follows -/
theorem mk_mapV {H : Hp} {n : Nat} {d : Addr} {l : Tbl} {Q : Addr → Hp → Prop} (hd : H d = some (.dK (kz l))) (g : Good n l) (n1 : 1 ≤ n) (n2 : n ≤ 300) (h : ∀ H' a, Fr [] H H' → H a = none → MapAt K H' a n (canon n l) → Q a H') :
    ∀ y dy, H y = none → H dy = none → dy ≠ y → spMapInit K [.ref y, .int n, .ref d] (upd (upd H dy (.own y)) y (.ins (cM K) dy [])) (fun v H2 => v = .non ∧ Q y H2) E0 := fun y dy hy hdy ne =>
  ⟨y, dy, n, d, l, rfl, upd_same, by rw [upd_ne (ne_of_none hd hy), upd_ne (ne_of_none hd hdy)]; exact hd, g, n1, n2, fun H' ad s h1 h2 => ⟨rfl, h H' y (s.fr hy hdy []) hy ⟨dy, ad, h1, h2⟩⟩⟩
def spShows (K : PySem.W.Frag) : Sp := fun vs H Q _ => ∃ (s m : Addr) (I : SI) (n b : Nat), vs = [.ref s, .ref m] ∧ Cpl K H s m I n b ∧ b ≤ 1000 ∧ ∀ H', Fr [] H H' → Q (.bl true) H'
abbrev nShows : List Str := ["_law_session", "_law_model_here", "_law_present", "_law_number"]
theorem sc_shows : FnScope nShows ["_law_session", "_law_model_here"] (defScope (top 53)) := ⟨rfl, rfl, rfl, by decide +kernel, rfl, by decide +kernel, by decide +kernel⟩
theorem g_shows (T : Txt K mg) : GG P w K mg base 6 "_law_shows" ["_law_session", "_law_model_here"] (spShows K) := by
  have GM := k_Map (P := P) (w := w) (base := base) T
  have GE := m_eq (P := P) (w := w) (base := base) T
  refine gg_of (T.fn 53 (by decide)) sc_shows (fun vs H Q E h => ?_) (fun f cdv A outer s H vs Q E c pn cool hr h => ?_) fun _ _ _ _ _ _ us hl => match us, hl with | [_, _], _ => rfl
  · obtain ⟨_, _, _, _, _, rfl, _⟩ := h
    rfl
  · obtain ⟨a, m, I, n, b, rfl, ⟨tabs, log, hs, hm, hh⟩, hb, k⟩ := h
    have nd := sc_shows.nd
    have hu := huH hr
    have S := T.sc hs.1
    have GP := p_present (P := P) (w := w) (mg := mg) (base := base) S
    have GL := m_log (P := P) (w := w) (base := base) S (T.z "list")
    have GN := m_ses_len (P := P) (w := w) (base := base) S (T.z "len")
    have GA' := m_at (P := P) (w := w) (base := base) T S
    have hu64 := huH64 hr
    refine ⟨_, pss_cons (ps_set (i := 2) nd rfl (Or.inl rfl) (pe_mk GM cool hr (pa_cons (pe_dget hu (pv 1) pe_str (fun _ _ => rfl)) (pa_cons (pe_ix ix_list (pe_dget hu (pv 1) pe_str (fun _ _ => rfl)) (pe_un un_neg pe_int) (fun _ _ => rfl)) pa_nil))))
      (pss_cons (ps_if (PW.pt (pw_or (pt_cmpR (op_neI (C' := cM K) GE T.eqM T.neM T.fM.mo cool hr) (pe_pr (pv 0) S.cf.cl GP cool hr) (pv 2) (nomark _))
          (pw_or (pt_cmpR (op_neD hu64) (pe_mg0 (pv 0) S.cf.cl GL cool hr) (pe_dget hu (pv 1) pe_str (fun _ _ => rfl)) (nomark _))
          (pw_or1 (pt_cmpR op_ne (pe_callB (call_lenI GN cool hr) (by rfl) (T.z "len") PySem.boot_len (pa_cons (pv 0) pa_nil)) (pe_callB call_len_seq (by rfl) (T.z "len") PySem.boot_len (pa_cons (pe_dget hu (pv 1) pe_str (fun _ _ => rfl)) pa_nil)) (nomark _)))))) (pss_one ps_never) pss_nil)
      (pss_cons (ps_forRange cool PassesOwn.never (T.z "range") (pa_cons (pe_op op_add (pe_callB call_len_seq (by rfl) (T.z "len") PySem.boot_len (pa_cons (pe_dget hu (pv 1) pe_str (fun _ _ => rfl)) pa_nil)) pe_int) pa_nil) (pg_name (i := 3) nd rfl (Or.inl rfl))
        (pss_one (ps_if (pt_cmpR (op_neI (C' := cM K) GE T.eqM T.neM T.fM.mo cool hr) (pe_mg (pv 0) S.cf.cl GA' cool hr (pa_cons (pv 3) pa_nil)) (pe_mk GM cool hr (pa_cons (pe_dget hu (pv 1) pe_str (fun _ _ => rfl)) (pa_cons (pe_ix ix_list (pe_dget hu (pv 1) pe_str (fun _ _ => rfl)) (pv 3) (fun _ _ => rfl)) pa_nil))) (nomark _)) (pss_one ps_never) pss_nil)))
      (pss_one (ps_ret pe_bl)))), ?_⟩
    obtain ⟨pr, lg, ea, si, hsa, ⟨⟨lx, hlg, plg⟩, ⟨ys, hea, pea⟩⟩⟩ := hs.sesI
    obtain ⟨tl, ll, hmm, ⟨⟨tx, htl, ptl⟩, ⟨ly, hll, pll⟩⟩⟩ := id hm
    have htlen := Paired.length ptl
    have hllen := Paired.length plg
    have hlylen := Paired.length pll
    have hylen := Paired.length pea
    rw [hh.len] at htlen hylen
    have hys : ys.length = log.length := by simpa using hylen
    obtain ⟨tx', xl, rfl, htx'⟩ := last_snoc htlen
    obtain ⟨lt, glt, tp, rfl, htp⟩ := pr_get' ptl (show (tx' ++ [xl])[log.length]? = some xl by rw [← htx']; simp)
    obtain ⟨lt', glt', _, eqr, mpr⟩ := pr_get' pea (show (ys ++ [V.ref pr])[log.length]? = some (V.ref pr) by rw [← hys]; simp)
    cases glt.symm.trans glt'
    cases eqr
    have gal := hh.ga _ (List.mem_of_getElem? glt)
    have n1 := hh.n1
    have n5 := hh.n5
    -- present = Map(..)
    refine ⟨_, rfl, m, _, rfl, mdl_size hmm, ?_⟩
    refine ⟨_, rfl, m, _, rfl, mdl_tables hmm, _, rfl, tl, _, _, _, rfl, rfl, SqL.of htl, atI_last _ _, ?_⟩
    refine mk_mapV (K := K) (l := lt) htp gal.toGood n1 (by omega) fun H1 q f1 hq0 hq => ?_
    rw [canon_self gal] at hq
    have si1 : SesI H1 a I.C pr lg ea := ⟨I.dx, I.ex, f1 _ _ hsa fun _ => by simp⟩
    have hm1 := f1 _ _ hmm fun _ => by simp
    -- session.present != present
    have mpr1 := mpr.fr f1
    obtain ⟨dxa, ada, ha1, ha2⟩ := id mpr1
    obtain ⟨dxb, adb, hb1, hb2⟩ := id hq
    refine ⟨_, rfl, a, _, _, rfl, f1 _ _ hsa (fun _ => by simp), a, pr, lg, ea, rfl, si1, ?_⟩
    refine ⟨_, rfl, pr, q, dxa, dxb, _, _, rfl, rfl, ha1, hb1, pr, q, n, lt, rfl, mpr1, hq, gal.src, true, rfl, _, rfl, iteF ?_⟩
    -- session.log() != model['log']
    have hlg1 : H1 lg = some (.tup lx) := f1.imm hlg rfl
    refine ⟨_, rfl, a, _, _, rfl, f1 _ _ hsa (fun _ => by simp), fs_none I pr lg ea _, a, pr, lg, ea, lx, rfl, si1, hlg1, fun p2 hp2 => ?_⟩
    have f2 : Fr [] H (upd H1 p2 (.lst lx)) := f1.newer hp2
    have hm2 := f2 _ _ hmm fun _ => by simp
    refine ⟨_, rfl, m, _, rfl, mdl_log hm2, ?_⟩
    refine ⟨.list (logD log), .list (logD log), .lst (SqL.of upd_same) (logD_at (pr_fr (fun _ _ z => z.fr f2) plg)), .lst (SqL.of (f2.imm hll (mut_refs (refs_ent pll)))) (logD_at (pr_fr (fun _ _ z => z.fr f2) pll)), logD_shaped hh.ent, logD_shaped hh.ent, ?_⟩
    rw [SeqAt.eqv_refl _ (SeqAt.canLay_of_shaped (logD_shaped hh.ent))]
    refine ⟨_, rfl, iteF ?_⟩
    -- len(session) != len(model['log'])
    have si2 : SesI (upd H1 p2 (.lst lx)) a I.C pr lg ea := ⟨I.dx, I.ex, f2 _ _ hsa fun _ => by simp⟩
    refine ⟨_, rfl, a, _, _, rfl, f2 _ _ hsa (fun _ => by simp), a, pr, lg, ea, lx, rfl, si2, f2.imm hlg rfl, lx.length, rfl, by omega, by have := hh.le; omega, ?_⟩
    refine ⟨_, rfl, m, _, rfl, mdl_log hm2, ll, _, rfl, .inl (SqL.of (f2.imm hll (mut_refs (refs_ent pll)))), rfl, _, rfl, ?_⟩
    rw [hllen, hlylen]
    refine iteNS rfl ?_
    -- the numbers
    refine ⟨_, rfl, m, _, rfl, mdl_log hm2, ll, _, rfl, .inl (SqL.of (f2.imm hll (mut_refs (refs_ent pll)))), _, _, rfl, rfl, (log.length : Int) + 1, by rw [hlylen], by omega, by have := hh.le; omega, ?_⟩
    rw [show ((log.length : Int) + 1).toNat = log.length + 1 by omega]
    refine for_it walk_rg0 (fun i σ H' => ∃ x2 x3, σ = [some (.ref a), some (.ref m), x2, x3] ∧ Fr [] H H') ?_ (fun _ _ _ _ _ => trivial) ?_ ?_
    · exact ⟨_, _, rfl, f2⟩
    · rintro i _ σ _ H3 hi ⟨x2, x3, rfl, f3⟩ ⟨rfl, rfl⟩
      have si3 : SesI H3 a I.C pr lg ea := ⟨I.dx, I.ex, f3 _ _ hsa fun _ => by simp⟩
      have hys' : (ys ++ [V.ref pr]).length = log.length + 1 := by rw [List.length_append, hys]; rfl
      obtain ⟨v, hv⟩ : ∃ v, (ys ++ [V.ref pr])[i]? = some v := ⟨(ys ++ [V.ref pr])[i], List.getElem?_eq_getElem (by omega)⟩
      obtain ⟨li, gli, mi, rfl, mpi⟩ := pr_get' pea hv
      obtain ⟨_, ht2, ti, rfl, hti⟩ := pr_get ptl gli |> fun ⟨y, h1, h2⟩ => (⟨y, h1, h2⟩ : ∃ y, (tx' ++ [V.ref tp])[i]? = some y ∧ TabAt H y li)
      have gai := hh.ga _ (List.mem_of_getElem? gli)
      refine ⟨_, rfl, a, _, _, rfl, f3 _ _ hsa (fun _ => by simp), fs_none I pr lg ea _, _, rfl, a, pr, lg, ea, lx, ys, i, V.ref mi, rfl, si3, f3.imm hlg rfl, f3.imm hea rfl, by omega, by have := hh.le; have := small1000 (Nat.le_refl 1000); omega, hv, fun p4 hp4 => ?_⟩
      have f4 : Fr [] H (upd H3 p4 (.tup (ys ++ [.ref pr]))) := f3.newer hp4
      have hm4 := f4 _ _ hmm fun _ => by simp
      refine ⟨_, rfl, m, _, rfl, mdl_size hm4, ?_⟩
      refine ⟨_, rfl, m, _, rfl, mdl_tables hm4, _, rfl, tl, _, _, _, rfl, rfl, SqL.of (f4.imm htl (mut_refs (refs_tab ptl))), atI_nat ht2, ?_⟩
      refine mk_mapV (K := K) (l := li) (f4.imm hti (mut_kz li)) gai.toGood n1 (by omega) fun H5 q5 f5 hq50 hq5 => ?_
      rw [canon_self gai] at hq5
      have mp5 := mpi.fr (f4.trans f5)
      obtain ⟨dxc, adc, hc1, hc2⟩ := id mp5
      obtain ⟨dxd, add, hd1, hd2⟩ := id hq5
      refine ⟨mi, q5, dxc, dxd, _, _, rfl, rfl, hc1, hd1, mi, q5, n, li, rfl, mp5, hq5, gai.src, true, rfl, _, rfl, iteF ?_⟩
      exact ⟨_, _, rfl, f4.trans f5⟩
    · rintro σ H3 ⟨x2, x3, rfl, f3⟩
      exact k H3 f3
end
end K74
end
-- K74Y
section
set_option maxRecDepth 100000
set_option maxHeartbeats 4000000
/-! The program's own errors that keep what they are given: made, raised, read. -/
namespace PySem
namespace HandSPX
open Builtin Builtin.ObjectAttr PySem.W PySem.Calls PyProof.Rows
section
variable {prog : Program} {w : World} {A : Around} {R : Result → Shared → Prop} {hp : Heap} {g : Array GenState} {d : Drawn} {t : Nat} {os : OsState}
/-- the first store into an own exception straight over B -/
theorem exc_osaB {B : String} {bmB : List Value} (S0 : StoreFacts B bmB "object.__setattr__" "object") {K : W.Frag} {name : Str} {tk : Tok} {v : Value} {x C : Addr} {fv : Array Value} {cd : ClassData}
    (X : K.In hp) (hx : hp.get? x = some { cls := .ref C, data := .fields fv }) (hcd : W.clsIn K C = some cd) (hm : cd.mro = .ref C :: bmB) (hh : cd.hasDict = true) (ha : W.findIn K (.ref C) name = some none)
    (hq : ∀ h' tk' dx, (∀ b o, b ≠ x → hp.get? b = some o → h'.get? b = some o) → hp.objs.size ≤ dx → dx ≠ x → h'.get? x = some { cls := .ref C, dict := some dx, data := .fields fv } →
      h'.Ns1 dx (fun y => if y = name then some v else none) → R (.ok (.ret .none)) ⟨h', g, d, tk', os⟩) :
    codeAny (model prog w) A (.call (.builtin "object.__setattr__") ⟨[.ref x, .str name tk, v], []⟩) R ⟨hp, g, d, t, os⟩ := by
  have I : W.InstAt hp x { cls := .ref C, data := .fields fv } C none := ⟨hx, rfl, rfl, trivial⟩
  have SF := F.store_object
  have ne : cd.mro.isEmpty = false := by rw [hm]; rfl
  have hob : cd.mro.contains (.type "object") = true := by rw [hm, List.contains_cons, S0.hasOwner, Bool.or_true]
  have hxs : x ≠ hp.objs.size := Nat.ne_of_lt (Heap.lt_size hx)
  have sub : W.Looks (model prog w) hp (isInstance (.ref x) (.type "object")) true := I.type.andThen (W.looks_mroIn X (by unfold W.mroIn; rw [hcd, Option.bind_some, if_neg (by rw [ne]; decide), hob]))
  refine codeAny_call_builtin SF.slot.plain SF.entry (@W.check_slot (model prog w) _ _ ⟨hp, g, d, t, os⟩ "object.__setattr__" "object" "__setattr__" (.ref x) [.str name tk, v] [] _ SF.kind SF.split sub (SF.args (.ref x) (.str name tk) v) ?_)
  have hmr : W.Looks (model prog w) hp (mroOf (.ref C)) cd.mro := (W.looks_clsIn X hcd).andThen .now
  have L3 : W.Looks (model prog w) hp (storeTaker? none) none := .now
  have hcls : W.Looks (model prog w) hp (classData C) cd := W.looks_clsIn X hcd
  rw [W.osa_eq, refuse_eq]
  refine wpAny_bind (wpAny_bind (I.type.at (wpAny_bind (hmr.at ?_))))
  rw [hm, refuseLoop_ref, S0.passes]
  refine wpAny_pure (wpAny_bind (I.type.at (wpAny_bind ((W.looks_findIn X ha).at (wpAny_bind (L3.at ?_))))))
  show wpAny _ _ (storeInOwnDict (.ref x) (.ref C) (.str name tk) name v false) _ _ _
  obtain ⟨nm, bs, mro, ns, qn, hd, sn, sb, ab, col, del⟩ := cd
  dsimp only at hh
  subst hh
  unfold storeInOwnDict ownDictForStores
  repeat (first | with_reducible refine store_in_new ?_ ?_ | with_reducible refine wpAny_loadPart_at hx ?_ | with_reducible refine hcls.at ?_ | wp_step)
  · exact ⟨_, #[], _, (Heap.get?_update_ne _ _ _ _ hxs.symm).trans (Heap.get?_push_at rfl rfl), rfl, fun e he => absurd he (by simp), fun _ => rfl⟩
  · intro h' tk' hn' hs
    have hx₁ : (hp.push { cls := .type "dict", data := .dict #[] }).get? x = some { cls := .ref C, data := .fields fv } := Heap.get?_push_of_some _ hx
    refine hq h' tk' hp.objs.size (fun b o hb ho => ?_) (Nat.le_refl _) hxs.symm ?_ hn'
    · exact (hs.2 b (Nat.ne_of_lt (Heap.lt_size ho))).trans ((Heap.get?_update_ne _ _ _ _ hb).trans (Heap.get?_push_of_some _ ho))
    · exact (hs.2 x hxs).trans (Heap.get?_update_self _ hx₁ rfl)
end
end HandSPX
end PySem

namespace K74.OwnNotLast
section
open PySem
open PySem.W PySem.Calls PyProof.Rows PySem.HandSPX
/-! ### the text of __init__ -/
def iA (p1 p2 : Pos) : Arguments := { posonlyargs := [], args := [{ arg := "self", annotation := none, pos := p1 }, { arg := "user", annotation := none, pos := p2 }], vararg := none, kwonlyargs := [], kw_defaults := [], kwarg := none, defaults := [] }
def iB (q1 q2 q3 q4 : Pos) : List Stmt := [.Assign [.Attribute (.Name "self" q1) "user" q2] (.Name "user" q3) q4]
def iS : Scope := { kind := .function, names := [(PySem.Str.ofString "self", .local), (PySem.Str.ofString "user", .local)], isGenerator := false, isCoroutine := false, more := [] }
/-- what the written part says of Low, at C, and of its __init__, at fI -/
structure LowTxt (K : Frag) (mg : Str → Option Value) (C fI : Addr) : Prop where
  gC : mg "NotLast" = some (.ref C)
  cls : ∃ nm q N bs bm sn sub ab col dd k0 k1 k2 k3 k5, K.lookup C = some (excClassObj nm q C N bs bm true sn sub ab col dd k0 k1 k2 k3 k5 "RuntimeError.__new__") ∧ bm = ([.type "RuntimeError", .type "Exception", .type "BaseException", .type "object"] : List Value)
  sa : findIn K (.ref C) "__setattr__" = some (some (.builtin "object.__setattr__"))
  ga : findIn K (.ref C) "__getattribute__" = some (some (.builtin "BaseException.__getattribute__"))
  gg : findIn K (.ref C) "__getattr__" = some none
  noN : findIn K (.ref C) "user" = some none
  iC : findIn K (.ref C) "__init__" = some (some (.ref fI))
  tC : typeIn K (.ref fI) = some (.type "function")
  kC : keepIn K (.ref C) = true
  exC : subIn K (.ref C) (.type "BaseException") = some true
  tyC : typeIn K (.ref C) = some (.type "type")
  hdC : hasDictIn K C = true
  te : exmOne K (.ref C) (.ref C) = some true
  fn : ∃ (oc : Value) (od : Option Addr) (doc pm : Value) (an : Option Addr) (cdv ct : Value) (osl : Array (Option Value)) (p1 p2 q1 q2 q3 q4 : Pos),
    K.lookup fI = some ⟨oc, od, .func (fnOf "__init__" "NotLast.__init__" (iA p1 p2) (iB q1 q2 q3 q4) iS .none .none doc pm an cdv ct), osl⟩ ∧ codeIn K cdv "NotLast.__init__" = true
theorem one_size (v : Value) : [v].length ≤ sizeLine := by
  rw [sizeLine_eq]
  exact (by decide : 1 ≤ 16777216)
theorem kept_but {K : Frag} {h h' : Heap} {x : Addr} (X : K.In h) (hx : K.lookup x = none) (k : ∀ b o, b ≠ x → h.get? b = some o → h'.get? b = some o) : K.In h' := fun a o e =>
  k a o (fun z => by rw [z, hx] at e; cases e) (X a o e)
theorem ldC {M : Model} {s : Shared} {name : Str} {scope : Scope} {L a : Addr} {cd : Value} {m : Str → Option Value} {x : Str} {pos : Pos} {v : Value} {Q : Value → Shared → Prop} {A : Around} {E : Value → Shared → Prop} (hn : s.heap.Ns L m) (hv : m x = some v) (h : Q v s)
    (hk : scope.kind = .function := by rfl) (hl : (envOfC name scope L a cd).kindOf x = some .local := by rfl) (hd : (x == ("__debug__" : Str)) = false := by decide) :
    wpAny M A (eval (.Name x pos) (envOfC name scope L a cd)) Q E s := wpAny_Name (wpAny_loadName_local hk hl hn hv h) hd
/-- what __init__ leaves of a fresh exception at x -/
structure InitEnd (h h' : Heap) (x C dx t1 : Addr) (v : Value) : Prop where
  keep : ∀ b o, b ≠ x → h.get? b = some o → h'.get? b = some o
  obj : h'.get? x = some { cls := .ref C, dict := some dx, data := .fields #[.ref t1, .none, .none, .none, .bool false, .none] }
  dbig : h.objs.size ≤ dx
  dne : dx ≠ x
  ns : h'.Ns1 dx (fun y => if y = "user" then some v else none)
/-- a made Low -/
structure OwnMade (h h' : Heap) (e C d : Addr) (v : Value) : Prop where
  keep : ∀ b o, h.get? b = some o → h'.get? b = some o
  new : h.objs.size ≤ e
  obj : ∃ oe vs, h'.get? e = some oe ∧ oe.cls = .ref C ∧ oe.dict = some d ∧ oe.data = .fields vs ∧ vs[1]? = some .none ∧ vs[2]? = some .none
  dbig : h.objs.size ≤ d
  dne : d ≠ e
  ns : h'.Ns1 d (fun y => if y = "user" then some v else none)
section
variable {prog : Program} {w : World} {A : Around} {E : Value → Shared → Prop} {R : Result → Shared → Prop} {s : Shared} {K : Frag} {mg : Str → Option Value} {C fI : Addr}
theorem low_init (T : LowTxt K mg C fI) {x t0 : Addr} {v : Value} (X : K.In s.heap) (hlim : s.heap.NoLimit) (hx : s.heap.get? x = some (excO C t0)) (hnx : K.lookup x = none) (hroom : A.depth < recursionLimit)
    (hq : ∀ h' tk dx, InitEnd s.heap h' x C dx t0 v → R (.ok (.ret .none)) { s with heap := h', toks := tk }) :
    codeAny (model prog w) A (.call (.ref fI) ⟨[.ref x, v], []⟩) R s := by
  obtain ⟨oc, od, doc, pm, an, cdv, ct, osl, p1, p2, q1, q2, q3, q4, ho, hcd⟩ := T.fn
  obtain ⟨nm, q, N, bs, bm, sn, sub, ab, col, dd, k0, k1, k2, k3, k5, hC, hbm⟩ := T.cls
  have hcl : clsIn K C = some { name := nm, bases := bs, mro := .ref C :: bm, ns := N, qualname := q, hasDict := true, slotNames := sn, subclasses := sub, abstract := ab, collection := col, hasDel := false } := by unfold clsIn; rw [hC] <;> rfl
  refine Att.call_fn (binds := [("self", .ref x), ("user", v)]) X hlim ho hcd hroom (BindsTo.of_eq (by first | rfl | with_unfolding_all rfl)) (by first | rfl | decide | with_unfolding_all rfl) (fun s₁ IC => ?_) rfl rfl rfl
  obtain ⟨h₁, tk₁, rfl⟩ := IC.toInCall.same
  have k : ∀ b o, s.heap.get? b = some o → h₁.get? b = some o := IC.toInCall.keep
  have hn := IC.toInCall.ns
  have hxL : s.heap.objs.size ≠ x := Nat.ne_of_gt (Heap.lt_size hx)
  have X₁ : K.In h₁ := X.keeps k
  have hx₁ := k _ _ hx
  -- self.by = by
  show wpAny _ _ (execs _ _) _ _ _
  refine wpAny_execs_cons (plainObj_wpAny_Assign_Attribute ?_)
  refine ldC (v := v) hn (by first | rfl | with_unfolding_all rfl | kernel_rfl) (ldC (v := .ref x) hn (by first | rfl | with_unfolding_all rfl | kernel_rfl) ?_)
  refine set_plain X₁ (ox := excO C t0) (od := none) ⟨hx₁, rfl, rfl, trivial⟩ T.sa ?_
  refine exc_osaB PySem.F.store_RuntimeError X₁ hx₁ hcl (show (.ref C :: bm) = Value.ref C :: ([.type "RuntimeError", .type "Exception", .type "BaseException", .type "object"] : List Value) by rw [hbm]) rfl T.noN (fun h₃ tk₃ dx k₃ dn dne hx₃ hn₃ => ?_)
  show wpAny _ _ (execs _ _) _ _ _
  have z : s.heap.objs.size < h₁.objs.size := hn.lt
  exact wpAny_execs_nil (hq h₃ tk₃ dx ⟨fun b o hb e => k₃ b o hb (k b o e), hx₃, Nat.le_of_lt (Nat.lt_of_lt_of_le z dn), dne, hn₃⟩)
theorem low_made (T : LowTxt K mg C fI) {v : Value} (X : K.In s.heap) (hlim : s.heap.NoLimit) (hroom : A.depth + 1 < recursionLimit)
    (hq : ∀ h' tk e d, OwnMade s.heap h' e C d v → R (.ok (.ret (.ref e))) { s with heap := h', toks := tk }) :
    codeAny (model prog w) A (.call (.ref C) ⟨[v], []⟩) R s := by
  obtain ⟨nm, q, N, bs, bm, sn, sub, ab, col, dd, k0, k1, k2, k3, k5, hC, hbm⟩ := T.cls
  obtain ⟨hp, g, dr, tk, os⟩ := s
  have k : ∀ b o, hp.get? b = some o → ((hp.push (kdv_tup [v])).push (excO C hp.objs.size)).get? b = some o := fun b o e => Heap.get?_push_of_some _ (Heap.get?_push_of_some _ e)
  have hget : ((hp.push (kdv_tup [v])).push (excO C hp.objs.size)).get? (hp.objs.size + 1) = some (excO C hp.objs.size) := by heap_get
  have hnx : K.lookup (hp.objs.size + 1) = none := by
    cases e : K.lookup (hp.objs.size + 1) with
    | none => rfl
    | some o =>
      have z : hp.get? (hp.objs.size + 1) = some o := X _ _ e
      exact absurd (Nat.lt_of_succ_lt (Heap.lt_size z)) (Nat.lt_irrefl _)
  refine call_own PySem.F.excBase_RuntimeError (fun X => by rw [hbm]) (X _ _ hC) (looks_findIn X T.iC) (fun self => bind_fn X self T.tC) (one_size v) ?_
  refine low_init (s := ⟨(hp.push (kdv_tup [v])).push (excO C hp.objs.size), g, dr, tk, os⟩) T (X.keeps k) (hlim.keeps k) hget hnx ?_ fun h' tk' dx ⟨k', hx, dn, dne, hns⟩ => ?_
  · show A.depth + 1 < recursionLimit
    exact hroom
  · have old : ∀ b o, hp.get? b = some o → h'.get? b = some o := fun b o e => k' b o (Nat.ne_of_lt (Nat.lt_succ_of_lt (Heap.lt_size e))) (k b o e)
    have z : hp.objs.size + 1 + 1 ≤ dx := by
      first
        | (simpa only [Heap.size_push] using dn)
        | exact dn
        | (have q := dn; rw [Heap.size_push, Heap.size_push] at q; exact q)
    exact ⟨rfl, hq h' tk' (hp.objs.size + 1) dx ⟨old, Nat.le_succ _, ⟨_, _, hx, rfl, rfl, rfl, rfl, rfl⟩, Nat.le_trans (Nat.le_trans (Nat.le_succ _) (Nat.le_succ _)) z, dne, hns⟩⟩
end
end
section
open PySem PySem.Spec PyProof.Rows L2
theorem relO_low {v : V} {v' : Value} (r : RelV v v') (f : Str) : RelO (List.lookup f [(("user" : Str), v)]) (if f = "user" then some v' else none) := by
  by_cases hw : f = "user"
  · subst hw
    rw [if_pos rfl]
    have q : List.lookup ("user" : Str) [(("user" : Str), v)] = some v := by simp [List.lookup]
    rw [q]
    exact r
  · rw [if_neg hw]
    have qw : (f == ("user" : Str)) = false := by simpa using hw
    have q2 : List.lookup f [(("user" : Str), v)] = none := by simp [List.lookup, qw]
    rw [q2]
    trivial
section
variable {X : Cx} {C fI : Addr}
/-- Low(e) -/
def tMkLow (C : Addr) (ta : TA) : L2.St → Hp → XK → Prop := fun σ H Q => ta σ H fun vs H1 => ∃ v, vs = [v] ∧ ∀ d, H1 d = none → Q (.ref C) (some d) (upd H1 d (.xd [(("user" : Str), v)]))
theorem pmk_low {a : Expr} {ta : TA} {p pos : Pos} {k : Nat} (T : K74.OwnNotLast.LowTxt X.K X.mg C fI) (hr : Room k X.A) (ha : PA X [a] ta) (hg : Gl X "NotLast" := by rfl)
    (he : starEach (a :: []) X.env = (false, eval a X.env) :: starEach [] X.env := by rfl) (hpl : (backTo pos (starEach [] X.env)).any (·.1) = false := by rfl) :
    L2N.PMk X (.Call (.Name "NotLast" p) [a] [] pos) (tMkLow C ta) := by
  intro pins s σ H Q I h
  refine wpAny_Call_Name_kw (ld_glob I hg T.gC ?_)
  refine PySem.W.callWith_K (h₀ := X.base) I.ok.mod.kin T.kC (thn (ha.run pos pins s σ H _ I h) fun us s1 hh => ?_) he hpl
  obtain ⟨vs, H1, I1, r1, v, ev, q1⟩ := hh
  subst ev
  refine ⟨I1.kIn, ?_⟩
  cases r1 with
  | cons rv rn =>
    rename_i v' us'
    cases rn
    show wpAny _ _ (call (.ref C) [v']) _ _ _
    have hlim := I1.nolimit
    obtain ⟨hp, g, dr, tk, os⟩ := s1
    refine wpAny_call (K74.OwnNotLast.low_made T I1.kIn hlim (by have := hr.dp; omega) fun h' tk' e d M => ?_)
    show L2N.MkP X pins σ Q (.ref e) ⟨h', g, dr, tk', os⟩
    obtain ⟨oe, fv, hoe, hc, hd, hdat, h1, h2⟩ := M.obj
    have hns := M.ns
    obtain ⟨G', g1, g2⟩ := restrict h' fun b => decide (b ≠ e)
    have gk : ∀ b, b ≠ e → G'.get? b = h'.get? b := fun b hb => g1 b (decide_eq_true hb)
    have ge : G'.get? e = none := g2 e (by simp)
    have old : ∀ b o, hp.get? b = some o → G'.get? b = some o := fun b o q => (gk b (Nat.ne_of_lt (Nat.lt_of_lt_of_le (Heap.lt_size q) M.new))).trans (M.keep b o q)
    have ob : ObjOk X.prog X.w (upd H1 d (.xd [(("user" : Str), v)])) G' d (.xd [(("user" : Str), v)]) :=
      ⟨_, hns.at (fun o q => (gk d M.dne).trans q), fun f => relO_low rv f⟩
    have J : Inv X pins σ (upd H1 d (.xd [(("user" : Str), v)])) ⟨G', g, dr, tk', os⟩ := I1.laid (t' := tk') old M.dbig ob
    refine ⟨e, oe, fv, ⟨G', g, dr, tk', os⟩, _, .ref C, some d, rfl, J, fun b o q => ?_, ge, hoe, ⟨hc, hd, fun vs z => by rw [hdat] at z; cases z; exact h2⟩, hdat, h1, ?_, rfl, I1.bare, raises_own T.exC T.tyC, q1 d (I1.hok.fresh M.dbig)⟩
    · by_cases hb : b = e
      · have q' : G'.get? b = some o := q
        rw [hb, ge] at q'; cases q'
      · exact (gk b hb).symm.trans q
    · rw [upd_ne (Ne.symm M.dne)]
      exact I1.hok.fresh M.new
/-- raise Low(e) -/
def tRaiseLow (C : Addr) (W : WX) (ta : TA) : TS := fun _ σ H => tMkLow C ta σ H fun cls d H' => W cls d σ H'
theorem ps_raiseLow {a : Expr} {ta : TA} {W : WX} {p pos pos2 : Pos} {k : Nat} (hc : X.calm = true) (T : K74.OwnNotLast.LowTxt X.K X.mg C fI) (hr : Room k X.A) (tk : L2N.Takes X W) (ha : PA X [a] ta) (hg : Gl X "NotLast" := by rfl)
    (he : starEach (a :: []) X.env = (false, eval a X.env) :: starEach [] X.env := by rfl) (hpl : (backTo pos (starEach [] X.env)).any (·.1) = false := by rfl) :
    PS X (.Raise (some (.Call (.Name "NotLast" p) [a] [] pos)) none pos2) (tRaiseLow C W ta) := L2N.ps_raise hc tk (pmk_low T hr ha hg he hpl)
/-- low.by, low the exception that the suite holds (at a; its class cls, its dict d) -/
def tByLow (C : Addr) (a : Addr) (cls : Value) (d : Option Addr) (te : TE) : TE := fun σ H Q => te σ H fun x H1 => x = .ref a ∧ cls = .ref C ∧ ∃ (dd : Addr) (v : V), d = some dd ∧ H1 dd = some (.xd [(("user" : Str), v)]) ∧ Q v H1
theorem pe_byLow {a : Addr} {oe : Obj} {cls : Value} {d : Option Addr} {pn : List (Addr × Obj)} {e : Expr} {te : TE} {pos : Pos} (T : K74.OwnNotLast.LowTxt X.K X.mg C fI) (hz : Zc cls d oe) (hf : ∃ vs, oe.data = .fields vs) (he : PE (X.suite a ((a, oe) :: pn)) e te)
    (hb : attributeBase e "user" X.env (eval e X.env) = eval e X.env := by rfl) :
    PE (X.suite a ((a, oe) :: pn)) (.Attribute e "user" pos) (tByLow C a cls d te) := by
  refine ⟨fun pins s σ H Q I h => ?_⟩
  refine attr_of hb (thn (he.run pins s σ H _ I h) fun u s1 hh => ?_)
  obtain ⟨x, H1, I1, rx, ex, ec, dd, v, ed, ea, q⟩ := hh
  subst ex
  obtain rfl : u = Value.ref a := rx
  subst ec
  subst ed
  obtain ⟨ha, _⟩ := I1.pin (a, oe) (List.mem_append_left _ List.mem_cons_self)
  obtain ⟨vs, hd⟩ := hf
  have hx : ObjOk X.prog X.w H1 s1.heap dd (.xd [(("user" : Str), v)]) := I1.hok dd _ ea
  obtain ⟨mA, hns, hr⟩ := hx
  obtain ⟨od, ho, hl⟩ := lookIn_ns hns
  have l : List.lookup ("user" : Str) [(("user" : Str), v)] = some v := by simp [List.lookup]
  obtain ⟨u, hu, ru⟩ := RelO.some_of (v := v) (o := mA "user") (by rw [← l]; exact hr "user")
  have J : PySem.W.InstAt s1.heap a oe C (some od) := ⟨ha, hz.1, by unfold PySem.W.notCls; rw [hd] <;> rfl, by rw [hz.2]; exact ho⟩
  exact HandSPX.exc_get I1.kIn J T.ga T.gg T.exC (PySem.W.findObj_own T.hdC T.noN rfl (by rw [hl, hu])) (handed_of ru) ⟨v, H1, I1.tok _, ru, q⟩
end
end
end K74.OwnNotLast
namespace K74.OwnNothingToUndo
section
open PySem
open PySem.W PySem.Calls PyProof.Rows PySem.HandSPX
/-! ### the text of __init__ -/
def iA (p1 p2 : Pos) : Arguments := { posonlyargs := [], args := [{ arg := "self", annotation := none, pos := p1 }, { arg := "user", annotation := none, pos := p2 }], vararg := none, kwonlyargs := [], kw_defaults := [], kwarg := none, defaults := [] }
def iB (q1 q2 q3 q4 : Pos) : List Stmt := [.Assign [.Attribute (.Name "self" q1) "user" q2] (.Name "user" q3) q4]
def iS : Scope := { kind := .function, names := [(PySem.Str.ofString "self", .local), (PySem.Str.ofString "user", .local)], isGenerator := false, isCoroutine := false, more := [] }
/-- what the written part says of Low, at C, and of its __init__, at fI -/
structure LowTxt (K : Frag) (mg : Str → Option Value) (C fI : Addr) : Prop where
  gC : mg "NothingToUndo" = some (.ref C)
  cls : ∃ nm q N bs bm sn sub ab col dd k0 k1 k2 k3 k5, K.lookup C = some (excClassObj nm q C N bs bm true sn sub ab col dd k0 k1 k2 k3 k5 "LookupError.__new__") ∧ bm = ([.type "LookupError", .type "Exception", .type "BaseException", .type "object"] : List Value)
  sa : findIn K (.ref C) "__setattr__" = some (some (.builtin "object.__setattr__"))
  ga : findIn K (.ref C) "__getattribute__" = some (some (.builtin "BaseException.__getattribute__"))
  gg : findIn K (.ref C) "__getattr__" = some none
  noN : findIn K (.ref C) "user" = some none
  iC : findIn K (.ref C) "__init__" = some (some (.ref fI))
  tC : typeIn K (.ref fI) = some (.type "function")
  kC : keepIn K (.ref C) = true
  exC : subIn K (.ref C) (.type "BaseException") = some true
  tyC : typeIn K (.ref C) = some (.type "type")
  hdC : hasDictIn K C = true
  te : exmOne K (.ref C) (.ref C) = some true
  fn : ∃ (oc : Value) (od : Option Addr) (doc pm : Value) (an : Option Addr) (cdv ct : Value) (osl : Array (Option Value)) (p1 p2 q1 q2 q3 q4 : Pos),
    K.lookup fI = some ⟨oc, od, .func (fnOf "__init__" "NothingToUndo.__init__" (iA p1 p2) (iB q1 q2 q3 q4) iS .none .none doc pm an cdv ct), osl⟩ ∧ codeIn K cdv "NothingToUndo.__init__" = true
theorem one_size (v : Value) : [v].length ≤ sizeLine := by
  rw [sizeLine_eq]
  exact (by decide : 1 ≤ 16777216)
theorem kept_but {K : Frag} {h h' : Heap} {x : Addr} (X : K.In h) (hx : K.lookup x = none) (k : ∀ b o, b ≠ x → h.get? b = some o → h'.get? b = some o) : K.In h' := fun a o e =>
  k a o (fun z => by rw [z, hx] at e; cases e) (X a o e)
theorem ldC {M : Model} {s : Shared} {name : Str} {scope : Scope} {L a : Addr} {cd : Value} {m : Str → Option Value} {x : Str} {pos : Pos} {v : Value} {Q : Value → Shared → Prop} {A : Around} {E : Value → Shared → Prop} (hn : s.heap.Ns L m) (hv : m x = some v) (h : Q v s)
    (hk : scope.kind = .function := by rfl) (hl : (envOfC name scope L a cd).kindOf x = some .local := by rfl) (hd : (x == ("__debug__" : Str)) = false := by decide) :
    wpAny M A (eval (.Name x pos) (envOfC name scope L a cd)) Q E s := wpAny_Name (wpAny_loadName_local hk hl hn hv h) hd
/-- what __init__ leaves of a fresh exception at x -/
structure InitEnd (h h' : Heap) (x C dx t1 : Addr) (v : Value) : Prop where
  keep : ∀ b o, b ≠ x → h.get? b = some o → h'.get? b = some o
  obj : h'.get? x = some { cls := .ref C, dict := some dx, data := .fields #[.ref t1, .none, .none, .none, .bool false, .none] }
  dbig : h.objs.size ≤ dx
  dne : dx ≠ x
  ns : h'.Ns1 dx (fun y => if y = "user" then some v else none)
/-- a made Low -/
structure OwnMade (h h' : Heap) (e C d : Addr) (v : Value) : Prop where
  keep : ∀ b o, h.get? b = some o → h'.get? b = some o
  new : h.objs.size ≤ e
  obj : ∃ oe vs, h'.get? e = some oe ∧ oe.cls = .ref C ∧ oe.dict = some d ∧ oe.data = .fields vs ∧ vs[1]? = some .none ∧ vs[2]? = some .none
  dbig : h.objs.size ≤ d
  dne : d ≠ e
  ns : h'.Ns1 d (fun y => if y = "user" then some v else none)
section
variable {prog : Program} {w : World} {A : Around} {E : Value → Shared → Prop} {R : Result → Shared → Prop} {s : Shared} {K : Frag} {mg : Str → Option Value} {C fI : Addr}
theorem low_init (T : LowTxt K mg C fI) {x t0 : Addr} {v : Value} (X : K.In s.heap) (hlim : s.heap.NoLimit) (hx : s.heap.get? x = some (excO C t0)) (hnx : K.lookup x = none) (hroom : A.depth < recursionLimit)
    (hq : ∀ h' tk dx, InitEnd s.heap h' x C dx t0 v → R (.ok (.ret .none)) { s with heap := h', toks := tk }) :
    codeAny (model prog w) A (.call (.ref fI) ⟨[.ref x, v], []⟩) R s := by
  obtain ⟨oc, od, doc, pm, an, cdv, ct, osl, p1, p2, q1, q2, q3, q4, ho, hcd⟩ := T.fn
  obtain ⟨nm, q, N, bs, bm, sn, sub, ab, col, dd, k0, k1, k2, k3, k5, hC, hbm⟩ := T.cls
  have hcl : clsIn K C = some { name := nm, bases := bs, mro := .ref C :: bm, ns := N, qualname := q, hasDict := true, slotNames := sn, subclasses := sub, abstract := ab, collection := col, hasDel := false } := by unfold clsIn; rw [hC] <;> rfl
  refine Att.call_fn (binds := [("self", .ref x), ("user", v)]) X hlim ho hcd hroom (BindsTo.of_eq (by first | rfl | with_unfolding_all rfl)) (by first | rfl | decide | with_unfolding_all rfl) (fun s₁ IC => ?_) rfl rfl rfl
  obtain ⟨h₁, tk₁, rfl⟩ := IC.toInCall.same
  have k : ∀ b o, s.heap.get? b = some o → h₁.get? b = some o := IC.toInCall.keep
  have hn := IC.toInCall.ns
  have hxL : s.heap.objs.size ≠ x := Nat.ne_of_gt (Heap.lt_size hx)
  have X₁ : K.In h₁ := X.keeps k
  have hx₁ := k _ _ hx
  -- self.by = by
  show wpAny _ _ (execs _ _) _ _ _
  refine wpAny_execs_cons (plainObj_wpAny_Assign_Attribute ?_)
  refine ldC (v := v) hn (by first | rfl | with_unfolding_all rfl | kernel_rfl) (ldC (v := .ref x) hn (by first | rfl | with_unfolding_all rfl | kernel_rfl) ?_)
  refine set_plain X₁ (ox := excO C t0) (od := none) ⟨hx₁, rfl, rfl, trivial⟩ T.sa ?_
  refine exc_osaB PySem.F.store_LookupError X₁ hx₁ hcl (show (.ref C :: bm) = Value.ref C :: ([.type "LookupError", .type "Exception", .type "BaseException", .type "object"] : List Value) by rw [hbm]) rfl T.noN (fun h₃ tk₃ dx k₃ dn dne hx₃ hn₃ => ?_)
  show wpAny _ _ (execs _ _) _ _ _
  have z : s.heap.objs.size < h₁.objs.size := hn.lt
  exact wpAny_execs_nil (hq h₃ tk₃ dx ⟨fun b o hb e => k₃ b o hb (k b o e), hx₃, Nat.le_of_lt (Nat.lt_of_lt_of_le z dn), dne, hn₃⟩)
theorem low_made (T : LowTxt K mg C fI) {v : Value} (X : K.In s.heap) (hlim : s.heap.NoLimit) (hroom : A.depth + 1 < recursionLimit)
    (hq : ∀ h' tk e d, OwnMade s.heap h' e C d v → R (.ok (.ret (.ref e))) { s with heap := h', toks := tk }) :
    codeAny (model prog w) A (.call (.ref C) ⟨[v], []⟩) R s := by
  obtain ⟨nm, q, N, bs, bm, sn, sub, ab, col, dd, k0, k1, k2, k3, k5, hC, hbm⟩ := T.cls
  obtain ⟨hp, g, dr, tk, os⟩ := s
  have k : ∀ b o, hp.get? b = some o → ((hp.push (kdv_tup [v])).push (excO C hp.objs.size)).get? b = some o := fun b o e => Heap.get?_push_of_some _ (Heap.get?_push_of_some _ e)
  have hget : ((hp.push (kdv_tup [v])).push (excO C hp.objs.size)).get? (hp.objs.size + 1) = some (excO C hp.objs.size) := by heap_get
  have hnx : K.lookup (hp.objs.size + 1) = none := by
    cases e : K.lookup (hp.objs.size + 1) with
    | none => rfl
    | some o =>
      have z : hp.get? (hp.objs.size + 1) = some o := X _ _ e
      exact absurd (Nat.lt_of_succ_lt (Heap.lt_size z)) (Nat.lt_irrefl _)
  refine call_own PySem.F.excBase_LookupError (fun X => by rw [hbm]) (X _ _ hC) (looks_findIn X T.iC) (fun self => bind_fn X self T.tC) (one_size v) ?_
  refine low_init (s := ⟨(hp.push (kdv_tup [v])).push (excO C hp.objs.size), g, dr, tk, os⟩) T (X.keeps k) (hlim.keeps k) hget hnx ?_ fun h' tk' dx ⟨k', hx, dn, dne, hns⟩ => ?_
  · show A.depth + 1 < recursionLimit
    exact hroom
  · have old : ∀ b o, hp.get? b = some o → h'.get? b = some o := fun b o e => k' b o (Nat.ne_of_lt (Nat.lt_succ_of_lt (Heap.lt_size e))) (k b o e)
    have z : hp.objs.size + 1 + 1 ≤ dx := by
      first
        | (simpa only [Heap.size_push] using dn)
        | exact dn
        | (have q := dn; rw [Heap.size_push, Heap.size_push] at q; exact q)
    exact ⟨rfl, hq h' tk' (hp.objs.size + 1) dx ⟨old, Nat.le_succ _, ⟨_, _, hx, rfl, rfl, rfl, rfl, rfl⟩, Nat.le_trans (Nat.le_trans (Nat.le_succ _) (Nat.le_succ _)) z, dne, hns⟩⟩
end
end
section
open PySem PySem.Spec PyProof.Rows L2
theorem relO_low {v : V} {v' : Value} (r : RelV v v') (f : Str) : RelO (List.lookup f [(("user" : Str), v)]) (if f = "user" then some v' else none) := by
  by_cases hw : f = "user"
  · subst hw
    rw [if_pos rfl]
    have q : List.lookup ("user" : Str) [(("user" : Str), v)] = some v := by simp [List.lookup]
    rw [q]
    exact r
  · rw [if_neg hw]
    have qw : (f == ("user" : Str)) = false := by simpa using hw
    have q2 : List.lookup f [(("user" : Str), v)] = none := by simp [List.lookup, qw]
    rw [q2]
    trivial
section
variable {X : Cx} {C fI : Addr}
/-- Low(e) -/
def tMkLow (C : Addr) (ta : TA) : L2.St → Hp → XK → Prop := fun σ H Q => ta σ H fun vs H1 => ∃ v, vs = [v] ∧ ∀ d, H1 d = none → Q (.ref C) (some d) (upd H1 d (.xd [(("user" : Str), v)]))
theorem pmk_low {a : Expr} {ta : TA} {p pos : Pos} {k : Nat} (T : K74.OwnNothingToUndo.LowTxt X.K X.mg C fI) (hr : Room k X.A) (ha : PA X [a] ta) (hg : Gl X "NothingToUndo" := by rfl)
    (he : starEach (a :: []) X.env = (false, eval a X.env) :: starEach [] X.env := by rfl) (hpl : (backTo pos (starEach [] X.env)).any (·.1) = false := by rfl) :
    L2N.PMk X (.Call (.Name "NothingToUndo" p) [a] [] pos) (tMkLow C ta) := by
  intro pins s σ H Q I h
  refine wpAny_Call_Name_kw (ld_glob I hg T.gC ?_)
  refine PySem.W.callWith_K (h₀ := X.base) I.ok.mod.kin T.kC (thn (ha.run pos pins s σ H _ I h) fun us s1 hh => ?_) he hpl
  obtain ⟨vs, H1, I1, r1, v, ev, q1⟩ := hh
  subst ev
  refine ⟨I1.kIn, ?_⟩
  cases r1 with
  | cons rv rn =>
    rename_i v' us'
    cases rn
    show wpAny _ _ (call (.ref C) [v']) _ _ _
    have hlim := I1.nolimit
    obtain ⟨hp, g, dr, tk, os⟩ := s1
    refine wpAny_call (K74.OwnNothingToUndo.low_made T I1.kIn hlim (by have := hr.dp; omega) fun h' tk' e d M => ?_)
    show L2N.MkP X pins σ Q (.ref e) ⟨h', g, dr, tk', os⟩
    obtain ⟨oe, fv, hoe, hc, hd, hdat, h1, h2⟩ := M.obj
    have hns := M.ns
    obtain ⟨G', g1, g2⟩ := restrict h' fun b => decide (b ≠ e)
    have gk : ∀ b, b ≠ e → G'.get? b = h'.get? b := fun b hb => g1 b (decide_eq_true hb)
    have ge : G'.get? e = none := g2 e (by simp)
    have old : ∀ b o, hp.get? b = some o → G'.get? b = some o := fun b o q => (gk b (Nat.ne_of_lt (Nat.lt_of_lt_of_le (Heap.lt_size q) M.new))).trans (M.keep b o q)
    have ob : ObjOk X.prog X.w (upd H1 d (.xd [(("user" : Str), v)])) G' d (.xd [(("user" : Str), v)]) :=
      ⟨_, hns.at (fun o q => (gk d M.dne).trans q), fun f => relO_low rv f⟩
    have J : Inv X pins σ (upd H1 d (.xd [(("user" : Str), v)])) ⟨G', g, dr, tk', os⟩ := I1.laid (t' := tk') old M.dbig ob
    refine ⟨e, oe, fv, ⟨G', g, dr, tk', os⟩, _, .ref C, some d, rfl, J, fun b o q => ?_, ge, hoe, ⟨hc, hd, fun vs z => by rw [hdat] at z; cases z; exact h2⟩, hdat, h1, ?_, rfl, I1.bare, raises_own T.exC T.tyC, q1 d (I1.hok.fresh M.dbig)⟩
    · by_cases hb : b = e
      · have q' : G'.get? b = some o := q
        rw [hb, ge] at q'; cases q'
      · exact (gk b hb).symm.trans q
    · rw [upd_ne (Ne.symm M.dne)]
      exact I1.hok.fresh M.new
/-- raise Low(e) -/
def tRaiseLow (C : Addr) (W : WX) (ta : TA) : TS := fun _ σ H => tMkLow C ta σ H fun cls d H' => W cls d σ H'
theorem ps_raiseLow {a : Expr} {ta : TA} {W : WX} {p pos pos2 : Pos} {k : Nat} (hc : X.calm = true) (T : K74.OwnNothingToUndo.LowTxt X.K X.mg C fI) (hr : Room k X.A) (tk : L2N.Takes X W) (ha : PA X [a] ta) (hg : Gl X "NothingToUndo" := by rfl)
    (he : starEach (a :: []) X.env = (false, eval a X.env) :: starEach [] X.env := by rfl) (hpl : (backTo pos (starEach [] X.env)).any (·.1) = false := by rfl) :
    PS X (.Raise (some (.Call (.Name "NothingToUndo" p) [a] [] pos)) none pos2) (tRaiseLow C W ta) := L2N.ps_raise hc tk (pmk_low T hr ha hg he hpl)
/-- low.by, low the exception that the suite holds (at a; its class cls, its dict d) -/
def tByLow (C : Addr) (a : Addr) (cls : Value) (d : Option Addr) (te : TE) : TE := fun σ H Q => te σ H fun x H1 => x = .ref a ∧ cls = .ref C ∧ ∃ (dd : Addr) (v : V), d = some dd ∧ H1 dd = some (.xd [(("user" : Str), v)]) ∧ Q v H1
theorem pe_byLow {a : Addr} {oe : Obj} {cls : Value} {d : Option Addr} {pn : List (Addr × Obj)} {e : Expr} {te : TE} {pos : Pos} (T : K74.OwnNothingToUndo.LowTxt X.K X.mg C fI) (hz : Zc cls d oe) (hf : ∃ vs, oe.data = .fields vs) (he : PE (X.suite a ((a, oe) :: pn)) e te)
    (hb : attributeBase e "user" X.env (eval e X.env) = eval e X.env := by rfl) :
    PE (X.suite a ((a, oe) :: pn)) (.Attribute e "user" pos) (tByLow C a cls d te) := by
  refine ⟨fun pins s σ H Q I h => ?_⟩
  refine attr_of hb (thn (he.run pins s σ H _ I h) fun u s1 hh => ?_)
  obtain ⟨x, H1, I1, rx, ex, ec, dd, v, ed, ea, q⟩ := hh
  subst ex
  obtain rfl : u = Value.ref a := rx
  subst ec
  subst ed
  obtain ⟨ha, _⟩ := I1.pin (a, oe) (List.mem_append_left _ List.mem_cons_self)
  obtain ⟨vs, hd⟩ := hf
  have hx : ObjOk X.prog X.w H1 s1.heap dd (.xd [(("user" : Str), v)]) := I1.hok dd _ ea
  obtain ⟨mA, hns, hr⟩ := hx
  obtain ⟨od, ho, hl⟩ := lookIn_ns hns
  have l : List.lookup ("user" : Str) [(("user" : Str), v)] = some v := by simp [List.lookup]
  obtain ⟨u, hu, ru⟩ := RelO.some_of (v := v) (o := mA "user") (by rw [← l]; exact hr "user")
  have J : PySem.W.InstAt s1.heap a oe C (some od) := ⟨ha, hz.1, by unfold PySem.W.notCls; rw [hd] <;> rfl, by rw [hz.2]; exact ho⟩
  exact HandSPX.exc_get I1.kIn J T.ga T.gg T.exC (PySem.W.findObj_own T.hdC T.noN rfl (by rw [hl, hu])) (handed_of ru) ⟨v, H1, I1.tok _, ru, q⟩
end
end
end K74.OwnNothingToUndo
namespace K74.OwnTooFew
section
open PySem
open PySem.W PySem.Calls PyProof.Rows PySem.HandSPX
/-! ### the text of __init__ -/
def iA (p1 p2 : Pos) : Arguments := { posonlyargs := [], args := [{ arg := "self", annotation := none, pos := p1 }, { arg := "number", annotation := none, pos := p2 }], vararg := none, kwonlyargs := [], kw_defaults := [], kwarg := none, defaults := [] }
def iB (q1 q2 q3 q4 : Pos) : List Stmt := [.Assign [.Attribute (.Name "self" q1) "number" q2] (.Name "number" q3) q4]
def iS : Scope := { kind := .function, names := [(PySem.Str.ofString "self", .local), (PySem.Str.ofString "number", .local)], isGenerator := false, isCoroutine := false, more := [] }
/-- what the written part says of Low, at C, and of its __init__, at fI -/
structure LowTxt (K : Frag) (mg : Str → Option Value) (C fI : Addr) : Prop where
  gC : mg "TooFew" = some (.ref C)
  cls : ∃ nm q N bs bm sn sub ab col dd k0 k1 k2 k3 k5, K.lookup C = some (excClassObj nm q C N bs bm true sn sub ab col dd k0 k1 k2 k3 k5 "RuntimeError.__new__") ∧ bm = ([.type "RuntimeError", .type "Exception", .type "BaseException", .type "object"] : List Value)
  sa : findIn K (.ref C) "__setattr__" = some (some (.builtin "object.__setattr__"))
  ga : findIn K (.ref C) "__getattribute__" = some (some (.builtin "BaseException.__getattribute__"))
  gg : findIn K (.ref C) "__getattr__" = some none
  noN : findIn K (.ref C) "number" = some none
  iC : findIn K (.ref C) "__init__" = some (some (.ref fI))
  tC : typeIn K (.ref fI) = some (.type "function")
  kC : keepIn K (.ref C) = true
  exC : subIn K (.ref C) (.type "BaseException") = some true
  tyC : typeIn K (.ref C) = some (.type "type")
  hdC : hasDictIn K C = true
  te : exmOne K (.ref C) (.ref C) = some true
  fn : ∃ (oc : Value) (od : Option Addr) (doc pm : Value) (an : Option Addr) (cdv ct : Value) (osl : Array (Option Value)) (p1 p2 q1 q2 q3 q4 : Pos),
    K.lookup fI = some ⟨oc, od, .func (fnOf "__init__" "TooFew.__init__" (iA p1 p2) (iB q1 q2 q3 q4) iS .none .none doc pm an cdv ct), osl⟩ ∧ codeIn K cdv "TooFew.__init__" = true
theorem one_size (v : Value) : [v].length ≤ sizeLine := by
  rw [sizeLine_eq]
  exact (by decide : 1 ≤ 16777216)
theorem kept_but {K : Frag} {h h' : Heap} {x : Addr} (X : K.In h) (hx : K.lookup x = none) (k : ∀ b o, b ≠ x → h.get? b = some o → h'.get? b = some o) : K.In h' := fun a o e =>
  k a o (fun z => by rw [z, hx] at e; cases e) (X a o e)
theorem ldC {M : Model} {s : Shared} {name : Str} {scope : Scope} {L a : Addr} {cd : Value} {m : Str → Option Value} {x : Str} {pos : Pos} {v : Value} {Q : Value → Shared → Prop} {A : Around} {E : Value → Shared → Prop} (hn : s.heap.Ns L m) (hv : m x = some v) (h : Q v s)
    (hk : scope.kind = .function := by rfl) (hl : (envOfC name scope L a cd).kindOf x = some .local := by rfl) (hd : (x == ("__debug__" : Str)) = false := by decide) :
    wpAny M A (eval (.Name x pos) (envOfC name scope L a cd)) Q E s := wpAny_Name (wpAny_loadName_local hk hl hn hv h) hd
/-- what __init__ leaves of a fresh exception at x -/
structure InitEnd (h h' : Heap) (x C dx t1 : Addr) (v : Value) : Prop where
  keep : ∀ b o, b ≠ x → h.get? b = some o → h'.get? b = some o
  obj : h'.get? x = some { cls := .ref C, dict := some dx, data := .fields #[.ref t1, .none, .none, .none, .bool false, .none] }
  dbig : h.objs.size ≤ dx
  dne : dx ≠ x
  ns : h'.Ns1 dx (fun y => if y = "number" then some v else none)
/-- a made Low -/
structure OwnMade (h h' : Heap) (e C d : Addr) (v : Value) : Prop where
  keep : ∀ b o, h.get? b = some o → h'.get? b = some o
  new : h.objs.size ≤ e
  obj : ∃ oe vs, h'.get? e = some oe ∧ oe.cls = .ref C ∧ oe.dict = some d ∧ oe.data = .fields vs ∧ vs[1]? = some .none ∧ vs[2]? = some .none
  dbig : h.objs.size ≤ d
  dne : d ≠ e
  ns : h'.Ns1 d (fun y => if y = "number" then some v else none)
section
variable {prog : Program} {w : World} {A : Around} {E : Value → Shared → Prop} {R : Result → Shared → Prop} {s : Shared} {K : Frag} {mg : Str → Option Value} {C fI : Addr}
theorem low_init (T : LowTxt K mg C fI) {x t0 : Addr} {v : Value} (X : K.In s.heap) (hlim : s.heap.NoLimit) (hx : s.heap.get? x = some (excO C t0)) (hnx : K.lookup x = none) (hroom : A.depth < recursionLimit)
    (hq : ∀ h' tk dx, InitEnd s.heap h' x C dx t0 v → R (.ok (.ret .none)) { s with heap := h', toks := tk }) :
    codeAny (model prog w) A (.call (.ref fI) ⟨[.ref x, v], []⟩) R s := by
  obtain ⟨oc, od, doc, pm, an, cdv, ct, osl, p1, p2, q1, q2, q3, q4, ho, hcd⟩ := T.fn
  obtain ⟨nm, q, N, bs, bm, sn, sub, ab, col, dd, k0, k1, k2, k3, k5, hC, hbm⟩ := T.cls
  have hcl : clsIn K C = some { name := nm, bases := bs, mro := .ref C :: bm, ns := N, qualname := q, hasDict := true, slotNames := sn, subclasses := sub, abstract := ab, collection := col, hasDel := false } := by unfold clsIn; rw [hC] <;> rfl
  refine Att.call_fn (binds := [("self", .ref x), ("number", v)]) X hlim ho hcd hroom (BindsTo.of_eq (by first | rfl | with_unfolding_all rfl)) (by first | rfl | decide | with_unfolding_all rfl) (fun s₁ IC => ?_) rfl rfl rfl
  obtain ⟨h₁, tk₁, rfl⟩ := IC.toInCall.same
  have k : ∀ b o, s.heap.get? b = some o → h₁.get? b = some o := IC.toInCall.keep
  have hn := IC.toInCall.ns
  have hxL : s.heap.objs.size ≠ x := Nat.ne_of_gt (Heap.lt_size hx)
  have X₁ : K.In h₁ := X.keeps k
  have hx₁ := k _ _ hx
  -- self.by = by
  show wpAny _ _ (execs _ _) _ _ _
  refine wpAny_execs_cons (plainObj_wpAny_Assign_Attribute ?_)
  refine ldC (v := v) hn (by first | rfl | with_unfolding_all rfl | kernel_rfl) (ldC (v := .ref x) hn (by first | rfl | with_unfolding_all rfl | kernel_rfl) ?_)
  refine set_plain X₁ (ox := excO C t0) (od := none) ⟨hx₁, rfl, rfl, trivial⟩ T.sa ?_
  refine exc_osaB PySem.F.store_RuntimeError X₁ hx₁ hcl (show (.ref C :: bm) = Value.ref C :: ([.type "RuntimeError", .type "Exception", .type "BaseException", .type "object"] : List Value) by rw [hbm]) rfl T.noN (fun h₃ tk₃ dx k₃ dn dne hx₃ hn₃ => ?_)
  show wpAny _ _ (execs _ _) _ _ _
  have z : s.heap.objs.size < h₁.objs.size := hn.lt
  exact wpAny_execs_nil (hq h₃ tk₃ dx ⟨fun b o hb e => k₃ b o hb (k b o e), hx₃, Nat.le_of_lt (Nat.lt_of_lt_of_le z dn), dne, hn₃⟩)
theorem low_made (T : LowTxt K mg C fI) {v : Value} (X : K.In s.heap) (hlim : s.heap.NoLimit) (hroom : A.depth + 1 < recursionLimit)
    (hq : ∀ h' tk e d, OwnMade s.heap h' e C d v → R (.ok (.ret (.ref e))) { s with heap := h', toks := tk }) :
    codeAny (model prog w) A (.call (.ref C) ⟨[v], []⟩) R s := by
  obtain ⟨nm, q, N, bs, bm, sn, sub, ab, col, dd, k0, k1, k2, k3, k5, hC, hbm⟩ := T.cls
  obtain ⟨hp, g, dr, tk, os⟩ := s
  have k : ∀ b o, hp.get? b = some o → ((hp.push (kdv_tup [v])).push (excO C hp.objs.size)).get? b = some o := fun b o e => Heap.get?_push_of_some _ (Heap.get?_push_of_some _ e)
  have hget : ((hp.push (kdv_tup [v])).push (excO C hp.objs.size)).get? (hp.objs.size + 1) = some (excO C hp.objs.size) := by heap_get
  have hnx : K.lookup (hp.objs.size + 1) = none := by
    cases e : K.lookup (hp.objs.size + 1) with
    | none => rfl
    | some o =>
      have z : hp.get? (hp.objs.size + 1) = some o := X _ _ e
      exact absurd (Nat.lt_of_succ_lt (Heap.lt_size z)) (Nat.lt_irrefl _)
  refine call_own PySem.F.excBase_RuntimeError (fun X => by rw [hbm]) (X _ _ hC) (looks_findIn X T.iC) (fun self => bind_fn X self T.tC) (one_size v) ?_
  refine low_init (s := ⟨(hp.push (kdv_tup [v])).push (excO C hp.objs.size), g, dr, tk, os⟩) T (X.keeps k) (hlim.keeps k) hget hnx ?_ fun h' tk' dx ⟨k', hx, dn, dne, hns⟩ => ?_
  · show A.depth + 1 < recursionLimit
    exact hroom
  · have old : ∀ b o, hp.get? b = some o → h'.get? b = some o := fun b o e => k' b o (Nat.ne_of_lt (Nat.lt_succ_of_lt (Heap.lt_size e))) (k b o e)
    have z : hp.objs.size + 1 + 1 ≤ dx := by
      first
        | (simpa only [Heap.size_push] using dn)
        | exact dn
        | (have q := dn; rw [Heap.size_push, Heap.size_push] at q; exact q)
    exact ⟨rfl, hq h' tk' (hp.objs.size + 1) dx ⟨old, Nat.le_succ _, ⟨_, _, hx, rfl, rfl, rfl, rfl, rfl⟩, Nat.le_trans (Nat.le_trans (Nat.le_succ _) (Nat.le_succ _)) z, dne, hns⟩⟩
end
end
section
open PySem PySem.Spec PyProof.Rows L2
theorem relO_low {v : V} {v' : Value} (r : RelV v v') (f : Str) : RelO (List.lookup f [(("number" : Str), v)]) (if f = "number" then some v' else none) := by
  by_cases hw : f = "number"
  · subst hw
    rw [if_pos rfl]
    have q : List.lookup ("number" : Str) [(("number" : Str), v)] = some v := by simp [List.lookup]
    rw [q]
    exact r
  · rw [if_neg hw]
    have qw : (f == ("number" : Str)) = false := by simpa using hw
    have q2 : List.lookup f [(("number" : Str), v)] = none := by simp [List.lookup, qw]
    rw [q2]
    trivial
section
variable {X : Cx} {C fI : Addr}
/-- Low(e) -/
def tMkLow (C : Addr) (ta : TA) : L2.St → Hp → XK → Prop := fun σ H Q => ta σ H fun vs H1 => ∃ v, vs = [v] ∧ ∀ d, H1 d = none → Q (.ref C) (some d) (upd H1 d (.xd [(("number" : Str), v)]))
theorem pmk_low {a : Expr} {ta : TA} {p pos : Pos} {k : Nat} (T : K74.OwnTooFew.LowTxt X.K X.mg C fI) (hr : Room k X.A) (ha : PA X [a] ta) (hg : Gl X "TooFew" := by rfl)
    (he : starEach (a :: []) X.env = (false, eval a X.env) :: starEach [] X.env := by rfl) (hpl : (backTo pos (starEach [] X.env)).any (·.1) = false := by rfl) :
    L2N.PMk X (.Call (.Name "TooFew" p) [a] [] pos) (tMkLow C ta) := by
  intro pins s σ H Q I h
  refine wpAny_Call_Name_kw (ld_glob I hg T.gC ?_)
  refine PySem.W.callWith_K (h₀ := X.base) I.ok.mod.kin T.kC (thn (ha.run pos pins s σ H _ I h) fun us s1 hh => ?_) he hpl
  obtain ⟨vs, H1, I1, r1, v, ev, q1⟩ := hh
  subst ev
  refine ⟨I1.kIn, ?_⟩
  cases r1 with
  | cons rv rn =>
    rename_i v' us'
    cases rn
    show wpAny _ _ (call (.ref C) [v']) _ _ _
    have hlim := I1.nolimit
    obtain ⟨hp, g, dr, tk, os⟩ := s1
    refine wpAny_call (K74.OwnTooFew.low_made T I1.kIn hlim (by have := hr.dp; omega) fun h' tk' e d M => ?_)
    show L2N.MkP X pins σ Q (.ref e) ⟨h', g, dr, tk', os⟩
    obtain ⟨oe, fv, hoe, hc, hd, hdat, h1, h2⟩ := M.obj
    have hns := M.ns
    obtain ⟨G', g1, g2⟩ := restrict h' fun b => decide (b ≠ e)
    have gk : ∀ b, b ≠ e → G'.get? b = h'.get? b := fun b hb => g1 b (decide_eq_true hb)
    have ge : G'.get? e = none := g2 e (by simp)
    have old : ∀ b o, hp.get? b = some o → G'.get? b = some o := fun b o q => (gk b (Nat.ne_of_lt (Nat.lt_of_lt_of_le (Heap.lt_size q) M.new))).trans (M.keep b o q)
    have ob : ObjOk X.prog X.w (upd H1 d (.xd [(("number" : Str), v)])) G' d (.xd [(("number" : Str), v)]) :=
      ⟨_, hns.at (fun o q => (gk d M.dne).trans q), fun f => relO_low rv f⟩
    have J : Inv X pins σ (upd H1 d (.xd [(("number" : Str), v)])) ⟨G', g, dr, tk', os⟩ := I1.laid (t' := tk') old M.dbig ob
    refine ⟨e, oe, fv, ⟨G', g, dr, tk', os⟩, _, .ref C, some d, rfl, J, fun b o q => ?_, ge, hoe, ⟨hc, hd, fun vs z => by rw [hdat] at z; cases z; exact h2⟩, hdat, h1, ?_, rfl, I1.bare, raises_own T.exC T.tyC, q1 d (I1.hok.fresh M.dbig)⟩
    · by_cases hb : b = e
      · have q' : G'.get? b = some o := q
        rw [hb, ge] at q'; cases q'
      · exact (gk b hb).symm.trans q
    · rw [upd_ne (Ne.symm M.dne)]
      exact I1.hok.fresh M.new
/-- raise Low(e) -/
def tRaiseLow (C : Addr) (W : WX) (ta : TA) : TS := fun _ σ H => tMkLow C ta σ H fun cls d H' => W cls d σ H'
theorem ps_raiseLow {a : Expr} {ta : TA} {W : WX} {p pos pos2 : Pos} {k : Nat} (hc : X.calm = true) (T : K74.OwnTooFew.LowTxt X.K X.mg C fI) (hr : Room k X.A) (tk : L2N.Takes X W) (ha : PA X [a] ta) (hg : Gl X "TooFew" := by rfl)
    (he : starEach (a :: []) X.env = (false, eval a X.env) :: starEach [] X.env := by rfl) (hpl : (backTo pos (starEach [] X.env)).any (·.1) = false := by rfl) :
    PS X (.Raise (some (.Call (.Name "TooFew" p) [a] [] pos)) none pos2) (tRaiseLow C W ta) := L2N.ps_raise hc tk (pmk_low T hr ha hg he hpl)
/-- low.by, low the exception that the suite holds (at a; its class cls, its dict d) -/
def tByLow (C : Addr) (a : Addr) (cls : Value) (d : Option Addr) (te : TE) : TE := fun σ H Q => te σ H fun x H1 => x = .ref a ∧ cls = .ref C ∧ ∃ (dd : Addr) (v : V), d = some dd ∧ H1 dd = some (.xd [(("number" : Str), v)]) ∧ Q v H1
theorem pe_byLow {a : Addr} {oe : Obj} {cls : Value} {d : Option Addr} {pn : List (Addr × Obj)} {e : Expr} {te : TE} {pos : Pos} (T : K74.OwnTooFew.LowTxt X.K X.mg C fI) (hz : Zc cls d oe) (hf : ∃ vs, oe.data = .fields vs) (he : PE (X.suite a ((a, oe) :: pn)) e te)
    (hb : attributeBase e "number" X.env (eval e X.env) = eval e X.env := by rfl) :
    PE (X.suite a ((a, oe) :: pn)) (.Attribute e "number" pos) (tByLow C a cls d te) := by
  refine ⟨fun pins s σ H Q I h => ?_⟩
  refine attr_of hb (thn (he.run pins s σ H _ I h) fun u s1 hh => ?_)
  obtain ⟨x, H1, I1, rx, ex, ec, dd, v, ed, ea, q⟩ := hh
  subst ex
  obtain rfl : u = Value.ref a := rx
  subst ec
  subst ed
  obtain ⟨ha, _⟩ := I1.pin (a, oe) (List.mem_append_left _ List.mem_cons_self)
  obtain ⟨vs, hd⟩ := hf
  have hx : ObjOk X.prog X.w H1 s1.heap dd (.xd [(("number" : Str), v)]) := I1.hok dd _ ea
  obtain ⟨mA, hns, hr⟩ := hx
  obtain ⟨od, ho, hl⟩ := lookIn_ns hns
  have l : List.lookup ("number" : Str) [(("number" : Str), v)] = some v := by simp [List.lookup]
  obtain ⟨u, hu, ru⟩ := RelO.some_of (v := v) (o := mA "number") (by rw [← l]; exact hr "number")
  have J : PySem.W.InstAt s1.heap a oe C (some od) := ⟨ha, hz.1, by unfold PySem.W.notCls; rw [hd] <;> rfl, by rw [hz.2]; exact ho⟩
  exact HandSPX.exc_get I1.kIn J T.ga T.gg T.exC (PySem.W.findObj_own T.hdC T.noN rfl (by rw [hl, hu])) (handed_of ru) ⟨v, H1, I1.tok _, ru, q⟩
end
end
end K74.OwnTooFew
namespace K74.OwnInvalidSteps
section
open PySem
open PySem.W PySem.Calls PyProof.Rows PySem.HandSPX
/-! ### the text of __init__ -/
def iA (p1 p2 : Pos) : Arguments := { posonlyargs := [], args := [{ arg := "self", annotation := none, pos := p1 }, { arg := "position", annotation := none, pos := p2 }], vararg := none, kwonlyargs := [], kw_defaults := [], kwarg := none, defaults := [] }
def iB (q1 q2 q3 q4 : Pos) : List Stmt := [.Assign [.Attribute (.Name "self" q1) "position" q2] (.Name "position" q3) q4]
def iS : Scope := { kind := .function, names := [(PySem.Str.ofString "self", .local), (PySem.Str.ofString "position", .local)], isGenerator := false, isCoroutine := false, more := [] }
/-- what the written part says of Low, at C, and of its __init__, at fI -/
structure LowTxt (K : Frag) (mg : Str → Option Value) (C fI : Addr) : Prop where
  gC : mg "InvalidSteps" = some (.ref C)
  cls : ∃ nm q N bs bm sn sub ab col dd k0 k1 k2 k3 k5, K.lookup C = some (excClassObj nm q C N bs bm true sn sub ab col dd k0 k1 k2 k3 k5 "ValueError.__new__") ∧ bm = ([.type "ValueError", .type "Exception", .type "BaseException", .type "object"] : List Value)
  sa : findIn K (.ref C) "__setattr__" = some (some (.builtin "object.__setattr__"))
  ga : findIn K (.ref C) "__getattribute__" = some (some (.builtin "BaseException.__getattribute__"))
  gg : findIn K (.ref C) "__getattr__" = some none
  noN : findIn K (.ref C) "position" = some none
  iC : findIn K (.ref C) "__init__" = some (some (.ref fI))
  tC : typeIn K (.ref fI) = some (.type "function")
  kC : keepIn K (.ref C) = true
  exC : subIn K (.ref C) (.type "BaseException") = some true
  tyC : typeIn K (.ref C) = some (.type "type")
  hdC : hasDictIn K C = true
  te : exmOne K (.ref C) (.ref C) = some true
  fn : ∃ (oc : Value) (od : Option Addr) (doc pm : Value) (an : Option Addr) (cdv ct : Value) (osl : Array (Option Value)) (p1 p2 q1 q2 q3 q4 : Pos),
    K.lookup fI = some ⟨oc, od, .func (fnOf "__init__" "InvalidSteps.__init__" (iA p1 p2) (iB q1 q2 q3 q4) iS .none .none doc pm an cdv ct), osl⟩ ∧ codeIn K cdv "InvalidSteps.__init__" = true
theorem one_size (v : Value) : [v].length ≤ sizeLine := by
  rw [sizeLine_eq]
  exact (by decide : 1 ≤ 16777216)
theorem kept_but {K : Frag} {h h' : Heap} {x : Addr} (X : K.In h) (hx : K.lookup x = none) (k : ∀ b o, b ≠ x → h.get? b = some o → h'.get? b = some o) : K.In h' := fun a o e =>
  k a o (fun z => by rw [z, hx] at e; cases e) (X a o e)
theorem ldC {M : Model} {s : Shared} {name : Str} {scope : Scope} {L a : Addr} {cd : Value} {m : Str → Option Value} {x : Str} {pos : Pos} {v : Value} {Q : Value → Shared → Prop} {A : Around} {E : Value → Shared → Prop} (hn : s.heap.Ns L m) (hv : m x = some v) (h : Q v s)
    (hk : scope.kind = .function := by rfl) (hl : (envOfC name scope L a cd).kindOf x = some .local := by rfl) (hd : (x == ("__debug__" : Str)) = false := by decide) :
    wpAny M A (eval (.Name x pos) (envOfC name scope L a cd)) Q E s := wpAny_Name (wpAny_loadName_local hk hl hn hv h) hd
/-- what __init__ leaves of a fresh exception at x -/
structure InitEnd (h h' : Heap) (x C dx t1 : Addr) (v : Value) : Prop where
  keep : ∀ b o, b ≠ x → h.get? b = some o → h'.get? b = some o
  obj : h'.get? x = some { cls := .ref C, dict := some dx, data := .fields #[.ref t1, .none, .none, .none, .bool false, .none] }
  dbig : h.objs.size ≤ dx
  dne : dx ≠ x
  ns : h'.Ns1 dx (fun y => if y = "position" then some v else none)
/-- a made Low -/
structure OwnMade (h h' : Heap) (e C d : Addr) (v : Value) : Prop where
  keep : ∀ b o, h.get? b = some o → h'.get? b = some o
  new : h.objs.size ≤ e
  obj : ∃ oe vs, h'.get? e = some oe ∧ oe.cls = .ref C ∧ oe.dict = some d ∧ oe.data = .fields vs ∧ vs[1]? = some .none ∧ vs[2]? = some .none
  dbig : h.objs.size ≤ d
  dne : d ≠ e
  ns : h'.Ns1 d (fun y => if y = "position" then some v else none)
section
variable {prog : Program} {w : World} {A : Around} {E : Value → Shared → Prop} {R : Result → Shared → Prop} {s : Shared} {K : Frag} {mg : Str → Option Value} {C fI : Addr}
theorem low_init (T : LowTxt K mg C fI) {x t0 : Addr} {v : Value} (X : K.In s.heap) (hlim : s.heap.NoLimit) (hx : s.heap.get? x = some (excO C t0)) (hnx : K.lookup x = none) (hroom : A.depth < recursionLimit)
    (hq : ∀ h' tk dx, InitEnd s.heap h' x C dx t0 v → R (.ok (.ret .none)) { s with heap := h', toks := tk }) :
    codeAny (model prog w) A (.call (.ref fI) ⟨[.ref x, v], []⟩) R s := by
  obtain ⟨oc, od, doc, pm, an, cdv, ct, osl, p1, p2, q1, q2, q3, q4, ho, hcd⟩ := T.fn
  obtain ⟨nm, q, N, bs, bm, sn, sub, ab, col, dd, k0, k1, k2, k3, k5, hC, hbm⟩ := T.cls
  have hcl : clsIn K C = some { name := nm, bases := bs, mro := .ref C :: bm, ns := N, qualname := q, hasDict := true, slotNames := sn, subclasses := sub, abstract := ab, collection := col, hasDel := false } := by unfold clsIn; rw [hC] <;> rfl
  refine Att.call_fn (binds := [("self", .ref x), ("position", v)]) X hlim ho hcd hroom (BindsTo.of_eq (by first | rfl | with_unfolding_all rfl)) (by first | rfl | decide | with_unfolding_all rfl) (fun s₁ IC => ?_) rfl rfl rfl
  obtain ⟨h₁, tk₁, rfl⟩ := IC.toInCall.same
  have k : ∀ b o, s.heap.get? b = some o → h₁.get? b = some o := IC.toInCall.keep
  have hn := IC.toInCall.ns
  have hxL : s.heap.objs.size ≠ x := Nat.ne_of_gt (Heap.lt_size hx)
  have X₁ : K.In h₁ := X.keeps k
  have hx₁ := k _ _ hx
  -- self.by = by
  show wpAny _ _ (execs _ _) _ _ _
  refine wpAny_execs_cons (plainObj_wpAny_Assign_Attribute ?_)
  refine ldC (v := v) hn (by first | rfl | with_unfolding_all rfl | kernel_rfl) (ldC (v := .ref x) hn (by first | rfl | with_unfolding_all rfl | kernel_rfl) ?_)
  refine set_plain X₁ (ox := excO C t0) (od := none) ⟨hx₁, rfl, rfl, trivial⟩ T.sa ?_
  refine exc_osaB PySem.F.store_ValueError X₁ hx₁ hcl (show (.ref C :: bm) = Value.ref C :: ([.type "ValueError", .type "Exception", .type "BaseException", .type "object"] : List Value) by rw [hbm]) rfl T.noN (fun h₃ tk₃ dx k₃ dn dne hx₃ hn₃ => ?_)
  show wpAny _ _ (execs _ _) _ _ _
  have z : s.heap.objs.size < h₁.objs.size := hn.lt
  exact wpAny_execs_nil (hq h₃ tk₃ dx ⟨fun b o hb e => k₃ b o hb (k b o e), hx₃, Nat.le_of_lt (Nat.lt_of_lt_of_le z dn), dne, hn₃⟩)
theorem low_made (T : LowTxt K mg C fI) {v : Value} (X : K.In s.heap) (hlim : s.heap.NoLimit) (hroom : A.depth + 1 < recursionLimit)
    (hq : ∀ h' tk e d, OwnMade s.heap h' e C d v → R (.ok (.ret (.ref e))) { s with heap := h', toks := tk }) :
    codeAny (model prog w) A (.call (.ref C) ⟨[v], []⟩) R s := by
  obtain ⟨nm, q, N, bs, bm, sn, sub, ab, col, dd, k0, k1, k2, k3, k5, hC, hbm⟩ := T.cls
  obtain ⟨hp, g, dr, tk, os⟩ := s
  have k : ∀ b o, hp.get? b = some o → ((hp.push (kdv_tup [v])).push (excO C hp.objs.size)).get? b = some o := fun b o e => Heap.get?_push_of_some _ (Heap.get?_push_of_some _ e)
  have hget : ((hp.push (kdv_tup [v])).push (excO C hp.objs.size)).get? (hp.objs.size + 1) = some (excO C hp.objs.size) := by heap_get
  have hnx : K.lookup (hp.objs.size + 1) = none := by
    cases e : K.lookup (hp.objs.size + 1) with
    | none => rfl
    | some o =>
      have z : hp.get? (hp.objs.size + 1) = some o := X _ _ e
      exact absurd (Nat.lt_of_succ_lt (Heap.lt_size z)) (Nat.lt_irrefl _)
  refine call_own PySem.F.excBase_ValueError (fun X => by rw [hbm]) (X _ _ hC) (looks_findIn X T.iC) (fun self => bind_fn X self T.tC) (one_size v) ?_
  refine low_init (s := ⟨(hp.push (kdv_tup [v])).push (excO C hp.objs.size), g, dr, tk, os⟩) T (X.keeps k) (hlim.keeps k) hget hnx ?_ fun h' tk' dx ⟨k', hx, dn, dne, hns⟩ => ?_
  · show A.depth + 1 < recursionLimit
    exact hroom
  · have old : ∀ b o, hp.get? b = some o → h'.get? b = some o := fun b o e => k' b o (Nat.ne_of_lt (Nat.lt_succ_of_lt (Heap.lt_size e))) (k b o e)
    have z : hp.objs.size + 1 + 1 ≤ dx := by
      first
        | (simpa only [Heap.size_push] using dn)
        | exact dn
        | (have q := dn; rw [Heap.size_push, Heap.size_push] at q; exact q)
    exact ⟨rfl, hq h' tk' (hp.objs.size + 1) dx ⟨old, Nat.le_succ _, ⟨_, _, hx, rfl, rfl, rfl, rfl, rfl⟩, Nat.le_trans (Nat.le_trans (Nat.le_succ _) (Nat.le_succ _)) z, dne, hns⟩⟩
end
end
section
open PySem PySem.Spec PyProof.Rows L2
theorem relO_low {v : V} {v' : Value} (r : RelV v v') (f : Str) : RelO (List.lookup f [(("position" : Str), v)]) (if f = "position" then some v' else none) := by
  by_cases hw : f = "position"
  · subst hw
    rw [if_pos rfl]
    have q : List.lookup ("position" : Str) [(("position" : Str), v)] = some v := by simp [List.lookup]
    rw [q]
    exact r
  · rw [if_neg hw]
    have qw : (f == ("position" : Str)) = false := by simpa using hw
    have q2 : List.lookup f [(("position" : Str), v)] = none := by simp [List.lookup, qw]
    rw [q2]
    trivial
section
variable {X : Cx} {C fI : Addr}
/-- Low(e) -/
def tMkLow (C : Addr) (ta : TA) : L2.St → Hp → XK → Prop := fun σ H Q => ta σ H fun vs H1 => ∃ v, vs = [v] ∧ ∀ d, H1 d = none → Q (.ref C) (some d) (upd H1 d (.xd [(("position" : Str), v)]))
theorem pmk_low {a : Expr} {ta : TA} {p pos : Pos} {k : Nat} (T : K74.OwnInvalidSteps.LowTxt X.K X.mg C fI) (hr : Room k X.A) (ha : PA X [a] ta) (hg : Gl X "InvalidSteps" := by rfl)
    (he : starEach (a :: []) X.env = (false, eval a X.env) :: starEach [] X.env := by rfl) (hpl : (backTo pos (starEach [] X.env)).any (·.1) = false := by rfl) :
    L2N.PMk X (.Call (.Name "InvalidSteps" p) [a] [] pos) (tMkLow C ta) := by
  intro pins s σ H Q I h
  refine wpAny_Call_Name_kw (ld_glob I hg T.gC ?_)
  refine PySem.W.callWith_K (h₀ := X.base) I.ok.mod.kin T.kC (thn (ha.run pos pins s σ H _ I h) fun us s1 hh => ?_) he hpl
  obtain ⟨vs, H1, I1, r1, v, ev, q1⟩ := hh
  subst ev
  refine ⟨I1.kIn, ?_⟩
  cases r1 with
  | cons rv rn =>
    rename_i v' us'
    cases rn
    show wpAny _ _ (call (.ref C) [v']) _ _ _
    have hlim := I1.nolimit
    obtain ⟨hp, g, dr, tk, os⟩ := s1
    refine wpAny_call (K74.OwnInvalidSteps.low_made T I1.kIn hlim (by have := hr.dp; omega) fun h' tk' e d M => ?_)
    show L2N.MkP X pins σ Q (.ref e) ⟨h', g, dr, tk', os⟩
    obtain ⟨oe, fv, hoe, hc, hd, hdat, h1, h2⟩ := M.obj
    have hns := M.ns
    obtain ⟨G', g1, g2⟩ := restrict h' fun b => decide (b ≠ e)
    have gk : ∀ b, b ≠ e → G'.get? b = h'.get? b := fun b hb => g1 b (decide_eq_true hb)
    have ge : G'.get? e = none := g2 e (by simp)
    have old : ∀ b o, hp.get? b = some o → G'.get? b = some o := fun b o q => (gk b (Nat.ne_of_lt (Nat.lt_of_lt_of_le (Heap.lt_size q) M.new))).trans (M.keep b o q)
    have ob : ObjOk X.prog X.w (upd H1 d (.xd [(("position" : Str), v)])) G' d (.xd [(("position" : Str), v)]) :=
      ⟨_, hns.at (fun o q => (gk d M.dne).trans q), fun f => relO_low rv f⟩
    have J : Inv X pins σ (upd H1 d (.xd [(("position" : Str), v)])) ⟨G', g, dr, tk', os⟩ := I1.laid (t' := tk') old M.dbig ob
    refine ⟨e, oe, fv, ⟨G', g, dr, tk', os⟩, _, .ref C, some d, rfl, J, fun b o q => ?_, ge, hoe, ⟨hc, hd, fun vs z => by rw [hdat] at z; cases z; exact h2⟩, hdat, h1, ?_, rfl, I1.bare, raises_own T.exC T.tyC, q1 d (I1.hok.fresh M.dbig)⟩
    · by_cases hb : b = e
      · have q' : G'.get? b = some o := q
        rw [hb, ge] at q'; cases q'
      · exact (gk b hb).symm.trans q
    · rw [upd_ne (Ne.symm M.dne)]
      exact I1.hok.fresh M.new
/-- raise Low(e) -/
def tRaiseLow (C : Addr) (W : WX) (ta : TA) : TS := fun _ σ H => tMkLow C ta σ H fun cls d H' => W cls d σ H'
theorem ps_raiseLow {a : Expr} {ta : TA} {W : WX} {p pos pos2 : Pos} {k : Nat} (hc : X.calm = true) (T : K74.OwnInvalidSteps.LowTxt X.K X.mg C fI) (hr : Room k X.A) (tk : L2N.Takes X W) (ha : PA X [a] ta) (hg : Gl X "InvalidSteps" := by rfl)
    (he : starEach (a :: []) X.env = (false, eval a X.env) :: starEach [] X.env := by rfl) (hpl : (backTo pos (starEach [] X.env)).any (·.1) = false := by rfl) :
    PS X (.Raise (some (.Call (.Name "InvalidSteps" p) [a] [] pos)) none pos2) (tRaiseLow C W ta) := L2N.ps_raise hc tk (pmk_low T hr ha hg he hpl)
/-- low.by, low the exception that the suite holds (at a; its class cls, its dict d) -/
def tByLow (C : Addr) (a : Addr) (cls : Value) (d : Option Addr) (te : TE) : TE := fun σ H Q => te σ H fun x H1 => x = .ref a ∧ cls = .ref C ∧ ∃ (dd : Addr) (v : V), d = some dd ∧ H1 dd = some (.xd [(("position" : Str), v)]) ∧ Q v H1
theorem pe_byLow {a : Addr} {oe : Obj} {cls : Value} {d : Option Addr} {pn : List (Addr × Obj)} {e : Expr} {te : TE} {pos : Pos} (T : K74.OwnInvalidSteps.LowTxt X.K X.mg C fI) (hz : Zc cls d oe) (hf : ∃ vs, oe.data = .fields vs) (he : PE (X.suite a ((a, oe) :: pn)) e te)
    (hb : attributeBase e "position" X.env (eval e X.env) = eval e X.env := by rfl) :
    PE (X.suite a ((a, oe) :: pn)) (.Attribute e "position" pos) (tByLow C a cls d te) := by
  refine ⟨fun pins s σ H Q I h => ?_⟩
  refine attr_of hb (thn (he.run pins s σ H _ I h) fun u s1 hh => ?_)
  obtain ⟨x, H1, I1, rx, ex, ec, dd, v, ed, ea, q⟩ := hh
  subst ex
  obtain rfl : u = Value.ref a := rx
  subst ec
  subst ed
  obtain ⟨ha, _⟩ := I1.pin (a, oe) (List.mem_append_left _ List.mem_cons_self)
  obtain ⟨vs, hd⟩ := hf
  have hx : ObjOk X.prog X.w H1 s1.heap dd (.xd [(("position" : Str), v)]) := I1.hok dd _ ea
  obtain ⟨mA, hns, hr⟩ := hx
  obtain ⟨od, ho, hl⟩ := lookIn_ns hns
  have l : List.lookup ("position" : Str) [(("position" : Str), v)] = some v := by simp [List.lookup]
  obtain ⟨u, hu, ru⟩ := RelO.some_of (v := v) (o := mA "position") (by rw [← l]; exact hr "position")
  have J : PySem.W.InstAt s1.heap a oe C (some od) := ⟨ha, hz.1, by unfold PySem.W.notCls; rw [hd] <;> rfl, by rw [hz.2]; exact ho⟩
  exact HandSPX.exc_get I1.kIn J T.ga T.gg T.exC (PySem.W.findObj_own T.hdC T.noN rfl (by rw [hl, hu])) (handed_of ru) ⟨v, H1, I1.tok _, ru, q⟩
end
end
end K74.OwnInvalidSteps
end
-- K74Za
section
set_option maxRecDepth 100000
set_option maxHeartbeats 4000000
/-! Sessions changed: change_to, undo. -/
namespace K74
open PySem PySem.Spec PyProof.Rows L2
def cNL (K : PySem.W.Frag) : Addr := He.ga K "NotLast"
def cNT (K : PySem.W.Frag) : Addr := He.ga K "NothingToUndo"
def cTF (K : PySem.W.Frag) : Addr := He.ga K "TooFew"
def cIS (K : PySem.W.Frag) : Addr := He.ga K "InvalidSteps"
/-- the text and the errors' classes -/
structure TX (K : PySem.W.Frag) (mg : Str → Option Value) : Prop extends Txt K mg where
  nl : ∃ fI, OwnNotLast.LowTxt K mg (cNL K) fI
  nt : ∃ fI, OwnNothingToUndo.LowTxt K mg (cNT K) fI
  tf : ∃ fI, OwnTooFew.LowTxt K mg (cTF K) fI
  iS' : ∃ fI, OwnInvalidSteps.LowTxt K mg (cIS K) fI
  neSK : cS K ≠ cK K
  eqS : ∀ C, C = cS K ∨ C = cK K → PySem.W.notFirst K C (.ref C) = true
  neS : ∀ C, C = cS K ∨ C = cK K → PySem.W.findIn K (.ref C) "__ne__" = some (some (.builtin "object.__ne__"))
  nlnt : PySem.W.exmOne K (.ref (cNL K)) (.ref (cNT K)) = some false
theorem SI.Ok.two {K : PySem.W.Frag} {I : SI} (ok : I.Ok K) : I.C = cS K ∨ I.C = cK K := by
  obtain ⟨C, dx, least⟩ := I
  cases least with
  | none => exact .inl ok
  | some m => exact .inr ok
theorem cut_last (xs : List V) (x : V) : cutV (xs ++ [x]) none (some (-1)) = xs ∧ ¬ (HT.sIx (xs ++ [x]).length 0 none = 0 ∧ HT.sIx (xs ++ [x]).length (xs ++ [x]).length (some (-1)) = (xs ++ [x]).length) := by
  have h0 : ∀ n : Nat, HT.sIx n 0 none = 0 := fun n => rfl
  have h1 : HT.sIx (xs ++ [x]).length (xs ++ [x]).length (some (-1)) = xs.length := by
    unfold HT.sIx
    rw [List.length_append]
    simp
    omega
  refine ⟨?_, fun z => ?_⟩
  · unfold cutV
    rw [h0, h1, List.drop_zero, Nat.sub_zero, List.take_left]
  · rw [h1, List.length_append] at z
    simp at z
section
variable {P : Program} {w : World} {K : PySem.W.Frag} {mg : Str → Option Value} {base : Heap} {C : Addr}
/-- self.check_next(later) -/
def spNext (K : PySem.W.Frag) (C : Addr) : Sp := fun vs H Q E => ∃ (s b : Addr) (I : SI) (n : Nat) (l : Tbl) (pr lg ea : Addr), vs = [.ref s, .ref b] ∧ I.Ok K ∧ I.C = C ∧ H s = some (.ins I.C I.dx (I.fs pr lg ea)) ∧ MapAt K H b n l ∧ l.length ≤ 300 ∧
  ((∀ m, I.least = some m → m ≤ l.length) → ∀ H', Fr [] H H' → Q .non H') ∧ (∀ m, I.least = some m → l.length < m → ∀ H' d, Fr [] H H' → H d = none → H' d = some (.xd [("number", .int l.length)]) → E (.ref (cTF K)) (some d) H')
abbrev NX (P : Program) (w : World) (K : PySem.W.Frag) (mg : Str → Option Value) (base : Heap) (C : Addr) : Prop := MC P w K mg base (L2N.CX P w) C 8 "check_next" ["self", "later"] (spNext K C)
def spChange (K : PySem.W.Frag) (C : Addr) : Sp := fun vs H Q E => ∃ (s b : Addr) (I : SI) (n : Nat) (l : Tbl) (u a : Str) (tabs : List Tbl) (log : List (Str × Str)), vs = [.ref s, .str u, .str a, .ref b] ∧ I.C = C ∧ SessAt K H s I n tabs log ∧ MapAt K H b n l ∧ l.length ≤ 300 ∧ log.length ≤ 1000 ∧ tabs.length = log.length + 1 ∧
  ((∀ m, I.least = some m → m ≤ l.length) → ∀ H', Fr [s] H H' → SessAt K H' s I n (tabs ++ [l]) (log ++ [(u, a)]) → Q (.ref b) H') ∧ (∀ m, I.least = some m → l.length < m → ∀ H' d, Fr [] H H' → H d = none → H' d = some (.xd [("number", .int l.length)]) → E (.ref (cTF K)) (some d) H')
abbrev nChange : List Str := ["self", "user", "action", "later"]
theorem sc_change : FnScope nChange ["self", "user", "action", "later"] (defScope (sub 38 4)) := ⟨rfl, rfl, rfl, by decide +kernel, rfl, by decide +kernel, by decide +kernel⟩
theorem m_change (T : TX K mg) (S : SC K C) (N : NX P w K mg base C) : MC P w K mg base (L2N.CX P w) C 9 "change_to" ["self", "user", "action", "later"] (spChange K C) := by
  refine mc_of (S.ms (4, "Session.change_to") (by decide +kernel)) sc_change (fun vs H Q E h => ?_) (fun f cdv A outer s H vs Q E hr h => ?_) fun _ _ _ _ _ _ us hl => match us, hl with | [_, _, _, _], _ => rfl
  · obtain ⟨_, _, _, _, _, _, _, _, _, rfl, _⟩ := h
    rfl
  · obtain ⟨a, b, I, n, l, u, ac, tabs, log, rfl, hC, hs, mb, hl, hlog, hlen, k1, k2⟩ := h
    subst hC
    have tk := L2N.takes_of (X := cxOf (L2N.CX P w) P w K mg base nChange "Session.change_to" (defScope (sub 38 4)) f cdv A outer s H E) rfl rfl rfl rfl
    refine ⟨_, pss_cons (ps_expr (pe_mc (pv 0) S.cf.cl N hr (L2N.passes_call tk fun _ _ _ _ e => e) (pa_cons (pv 3) pa_nil)))
      (pss_cons (ps_fld (pv 0) (pe_tup (StX.pa_star (pe_fld (pv 0) rfl) (pa_cons (pe_fld (pv 0) rfl) pa_nil))) rfl)
      (pss_cons (ps_fld (pv 0) (pe_tup (StX.pa_star (pe_fld (pv 0) rfl) (pa_cons (pe_tup (pa_cons (pv 1) (pa_cons (pv 2) pa_nil))) pa_nil))) rfl)
      (pss_cons (ps_fld (pv 0) (pv 3) rfl) (pss_one (ps_ret (pv 3)))))), ?_⟩
    obtain ⟨pr, lg, ea, si, hsa, ⟨⟨lx, hlg, plg⟩, ⟨ys, hea, pea⟩⟩⟩ := hs.sesI
    have hllen := Paired.length plg
    have hys : ys.length = log.length := by
      have := Paired.length pea
      rw [hlen] at this
      simpa using this
    refine ⟨_, rfl, a, I.dx, _, rfl, hsa, fs_none I pr lg ea _, _, rfl, a, b, I, n, l, pr, lg, ea, rfl, hs.1, rfl, hsa, mb, hl, fun hm H1 f1 => ?_, fun m h1 h2 H' d f1 h3 h4 => k2 m h1 h2 H' d f1 h3 h4⟩
    have h1 := f1 _ _ hsa fun _ => by simp
    have hz := small1000 (Nat.le_refl 1000)
    refine ⟨_, rfl, a, _, I.dx, _, _, rfl, h1, S.cf.cl, S.na _ (by decide +kernel), rfl, ea, ys, rfl, .inl (SqT.of (f1.imm hea rfl)), _, rfl, a, _, I.dx, _, _, rfl, h1, S.cf.cl, S.na _ (by decide +kernel), rfl, by rw [List.length_append]; show ys.length + 1 ≤ sizeLine; omega, fun t1 ht1 => ?_⟩
    have n1 : a ≠ t1 := ne_of_none h1 ht1
    refine ⟨_, rfl, a, _, I.dx, _, rfl, (upd_ne n1).trans h1, S.cf.cl, S.na _ (by decide +kernel), fs_len I pr lg ea, ?_⟩
    have f2 : Fr [a] H (upd (upd H1 t1 (.tup (ys ++ [.ref pr]))) a (.ins I.C I.dx (I.fs pr lg t1))) := ((f1.mono (by simp)).newer ht1).set List.mem_cons_self hsa rfl
    have h2 : (upd (upd H1 t1 (.tup (ys ++ [.ref pr]))) a (.ins I.C I.dx (I.fs pr lg t1))) a = some (.ins I.C I.dx (I.fs pr lg t1)) := upd_same
    have e1 : (upd (upd H1 t1 (.tup (ys ++ [.ref pr]))) a (.ins I.C I.dx (I.fs pr lg t1))) t1 = some (.tup (ys ++ [.ref pr])) := (upd_ne n1.symm).trans upd_same
    have ht1' : H t1 = none := by
      cases z : H t1 with
      | none => rfl
      | some o => rw [f1 _ _ z (fun _ => by simp)] at ht1; cases ht1
    rw [show putF "own_earlier" (V.ref t1) (I.fs pr lg ea) = I.fs pr lg t1 from rfl]
    generalize upd (upd H1 t1 (.tup (ys ++ [.ref pr]))) a (.ins I.C I.dx (I.fs pr lg t1)) = H2 at f2 h2 e1 ⊢
    refine ⟨_, rfl, a, _, I.dx, _, _, rfl, h2, S.cf.cl, S.na _ (by decide +kernel), rfl, lg, lx, rfl, .inl (SqT.of (f2.imm hlg rfl)), _, rfl, _, rfl, by show 2 ≤ sizeLine; decide, fun t2 ht2 => ?_⟩
    refine ⟨by rw [List.length_append]; show lx.length + 1 ≤ sizeLine; omega, fun t3 ht3 => ?_⟩
    have n2 : a ≠ t2 := ne_of_none h2 ht2
    have n3 : a ≠ t3 := ne_of_none ((upd_ne n2).trans h2) ht3
    have n23 : t2 ≠ t3 := ne_of_none upd_same ht3
    refine ⟨_, rfl, a, _, I.dx, _, rfl, (upd_ne n3).trans ((upd_ne n2).trans h2), S.cf.cl, S.na _ (by decide +kernel), fs_len I pr lg t1, ?_⟩
    have f3 : Fr [a] H (upd (upd (upd H2 t2 (.tup [.str u, .str ac])) t3 (.tup (lx ++ [.ref t2]))) a (.ins I.C I.dx (I.fs pr t3 t1))) := ((f2.newer ht2).newer ht3).set List.mem_cons_self hsa rfl
    have h3 : (upd (upd (upd H2 t2 (.tup [.str u, .str ac])) t3 (.tup (lx ++ [.ref t2]))) a (.ins I.C I.dx (I.fs pr t3 t1))) a = some (.ins I.C I.dx (I.fs pr t3 t1)) := upd_same
    have e1' : (upd (upd (upd H2 t2 (.tup [.str u, .str ac])) t3 (.tup (lx ++ [.ref t2]))) a (.ins I.C I.dx (I.fs pr t3 t1))) t1 = some (.tup (ys ++ [.ref pr])) := by
      have q1 := (upd_ne (o := HO.tup [V.str u, V.str ac]) (ne_of_none e1 ht2)).trans e1
      have q2 := (upd_ne (o := HO.tup (lx ++ [V.ref t2])) (ne_of_none q1 ht3)).trans q1
      exact (upd_ne n1.symm).trans q2
    have e2 : (upd (upd (upd H2 t2 (.tup [.str u, .str ac])) t3 (.tup (lx ++ [.ref t2]))) a (.ins I.C I.dx (I.fs pr t3 t1))) t2 = some (.tup [.str u, .str ac]) := (upd_ne n2.symm).trans ((upd_ne n23).trans upd_same)
    have e3 : (upd (upd (upd H2 t2 (.tup [.str u, .str ac])) t3 (.tup (lx ++ [.ref t2]))) a (.ins I.C I.dx (I.fs pr t3 t1))) t3 = some (.tup (lx ++ [.ref t2])) := (upd_ne n3.symm).trans upd_same
    rw [show putF "own_log" (V.ref t3) (I.fs pr lg t1) = I.fs pr t3 t1 from rfl]
    generalize upd (upd (upd H2 t2 (.tup [.str u, .str ac])) t3 (.tup (lx ++ [.ref t2]))) a (.ins I.C I.dx (I.fs pr t3 t1)) = H3 at f3 h3 e1' e2 e3 ⊢
    refine ⟨_, rfl, _, rfl, a, _, I.dx, _, rfl, h3, S.cf.cl, S.na _ (by decide +kernel), fs_len I pr t3 t1, ?_⟩
    refine ⟨_, rfl, k1 hm _ (f3.set List.mem_cons_self hsa rfl) ⟨hs.1, b, t3, t1, upd_same, ?_⟩⟩
    have f4 : Fr [a] H (upd H3 a (.ins I.C I.dx (I.fs b t3 t1))) := f3.set List.mem_cons_self hsa rfl
    refine ⟨⟨lx ++ [.ref t2], ?_, pr_append (pr_fr (fun _ _ z => z.fr f4) plg) (.cons ⟨t2, rfl, ?_⟩ .nil)⟩, ⟨ys ++ [.ref pr], ?_, pr_append (pr_fr (fun _ _ z => z.fr f4) pea) (.cons ⟨b, rfl, mb.fr f4⟩ .nil)⟩⟩
    · rw [upd_ne (ne_of e3 h3 (by intro z; cases z))]; exact e3
    · rw [upd_ne (ne_of e2 h3 (by intro z; cases z))]; exact e2
    · rw [upd_ne (ne_of e1' h3 (by intro z; cases z))]; exact e1'
end
end K74
end
-- K74Zb
section
set_option maxRecDepth 100000
set_option maxHeartbeats 4000000
/-! Session.undo. -/
namespace K74
open PySem PySem.Spec PyProof.Rows L2
theorem logT_shaped {log : List (Str × Str)} (h : ∀ e ∈ log, PyData.strOk e.1 = true ∧ PyData.strOk e.2 = true) : SeqAt.shaped (.tuple (logD log)) = true := by
  unfold SeqAt.shaped
  have h1 := logD_lay h
  have h2 := logD_depth log
  rw [Bool.and_eq_true_iff]
  refine ⟨by simp only [PyData.canLay0]; exact h1, decide_eq_true ?_⟩
  simp only [PyData.depth]
  omega
theorem eqv_nil (log : List (Str × Str)) : PyData.eqv (.tuple (logD log)) (.tuple []) = log.isEmpty := by
  cases log with
  | nil => rfl
  | cons e r => rfl
section
variable {P : Program} {w : World} {K : PySem.W.Frag} {mg : Str → Option Value} {base : Heap} {C : Addr}
def spUndo (K : PySem.W.Frag) (C : Addr) : Sp := fun vs H Q E => ∃ (s : Addr) (I : SI) (n b : Nat) (u : Str) (tabs : List Tbl) (log : List (Str × Str)), vs = [.ref s, .str u] ∧ I.C = C ∧ SessAt K H s I n tabs log ∧ Hist n b tabs log ∧ b ≤ 1000 ∧ u ∈ users ∧
  (log = [] → ∀ H' d, Fr [] H H' → H d = none → H' d = some (.xd [("user", .str u)]) → E (.ref (cNT K)) (some d) H') ∧
  (∀ log' e, log = log' ++ [e] → e.1 ≠ u → ∀ H' d, Fr [] H H' → H d = none → H' d = some (.xd [("user", .str e.1)]) → E (.ref (cNL K)) (some d) H') ∧
  (∀ log' e tabs' l l0, log = log' ++ [e] → e.1 = u → tabs = tabs' ++ [l0, l] → ∀ H' q, Fr [s] H H' → SessAt K H' s I n (tabs' ++ [l0]) log' → MapAt K H' q n l0 → Q (.ref q) H')
theorem sc_undo : FnScope ["self", "user"] ["self", "user"] (defScope (sub 38 8)) := ⟨rfl, rfl, rfl, by decide +kernel, rfl, by decide +kernel, by decide +kernel⟩
theorem m_undo (T : TX K mg) (S : SC K C) : MC P w K mg base (L2N.CX P w) C 4 "undo" ["self", "user"] (spUndo K C) := by
  have GU := g_check_user (P := P) (w := w) (base := base) T.toTxt
  obtain ⟨fnt, NT⟩ := T.nt
  obtain ⟨fnl, NL⟩ := T.nl
  refine mc_of (S.ms (8, "Session.undo") (by decide +kernel)) sc_undo (fun vs H Q E h => ?_) (fun f cdv A outer s H vs Q E hr h => ?_) fun _ _ _ _ _ _ us hl => match us, hl with | [_, _], _ => rfl
  · obtain ⟨_, _, _, _, _, _, _, rfl, _⟩ := h
    rfl
  · obtain ⟨a, I, n, b, u, tabs, log, rfl, hC, hs, hh, hb, hu, k1, k2, k3⟩ := h
    subst hC
    have tk := L2N.takes_of (X := cxOf (L2N.CX P w) P w K mg base ["self", "user"] "Session.undo" (defScope (sub 38 8)) f cdv A outer s H E) rfl rfl rfl rfl
    have hu64 := huH64 (L2H.roomH_of hr)
    refine ⟨_, pss_cons (ps_expr (pe_gc GU hr pass0 (pa_cons (pv 1) pa_nil)))
      (pss_cons (ps_if (pt_cmpR (op_eqD hu64) (pe_fld (pv 0) rfl) (pe_tup pa_nil) (nomark _)) (pss_one (OwnNothingToUndo.ps_raiseLow rfl NT hr tk (pa_cons (pv 1) pa_nil))) pss_nil)
      (pss_cons (ps_if (pt_cmpR op_ne (pe_ix ix_tup (pe_ix ix_tup (pe_fld (pv 0) rfl) (pe_un un_neg pe_int) (fun _ _ => rfl)) pe_int (fun _ _ => rfl)) (pv 1) (nomark _)) (pss_one (OwnNotLast.ps_raiseLow rfl NL hr tk (pa_cons (pe_ix ix_tup (pe_ix ix_tup (pe_fld (pv 0) rfl) (pe_un un_neg pe_int) (fun _ _ => rfl)) pe_int (fun _ _ => rfl)) pa_nil))) pss_nil)
      (pss_cons (ps_fld (pv 0) (pe_ix ix_tup (pe_fld (pv 0) rfl) (pe_un un_neg pe_int) (fun _ _ => rfl)) rfl)
      (pss_cons (ps_fld (pv 0) (pe_slice sl_tup (pe_fld (pv 0) rfl) po_none (po_some (pe_un un_neg pe_int))) rfl)
      (pss_cons (ps_fld (pv 0) (pe_slice sl_tup (pe_fld (pv 0) rfl) po_none (po_some (pe_un un_neg pe_int))) rfl)
      (pss_one (ps_ret (pe_fld (pv 0) rfl)))))))), ?_⟩
    obtain ⟨pr, lg, ea, si, hsa, ⟨⟨lx, hlg, plg⟩, ⟨ys, hea, pea⟩⟩⟩ := hs.sesI
    have hllen := Paired.length plg
    have hys : ys.length = log.length := by
      have := Paired.length pea
      rw [hh.len] at this
      simpa using this
    refine ⟨_, rfl, u, rfl, hu, fun H1 f1 => ?_⟩
    have h1 := f1 _ _ hsa fun _ => by simp
    have hlg1 := f1.imm hlg rfl
    have hea1 := f1.imm hea rfl
    refine ⟨_, rfl, a, _, I.dx, _, _, rfl, h1, S.cf.cl, S.na _ (by decide +kernel), rfl, by show 0 ≤ sizeLine; decide, fun t0 ht0 => ?_⟩
    have f2 := f1.newer (o := HO.tup []) ht0
    have n0 : a ≠ t0 := ne_of_none h1 ht0
    have h2 := (upd_ne (o := HO.tup []) n0).trans h1
    have hlg2 := f2.imm hlg rfl
    have hea2 := f2.imm hea rfl
    refine ⟨.tuple (logD log), .tuple [], .tup (SqT.of hlg2) (logD_at (pr_fr (fun _ _ z => z.fr f2) plg)), .tup (SqT.of upd_same) .nil, logT_shaped hh.ent, by decide, ?_⟩
    rw [eqv_nil]
    refine ⟨_, rfl, ?_⟩
    cases hlog : log with
    | nil =>
      refine iteT ⟨_, rfl, V.str u, rfl, fun d hd => ?_⟩
      have hd0 : H d = none := by
        cases z : H d with
        | none => rfl
        | some o => rw [f2 _ _ z (fun _ => by simp)] at hd; cases hd
      exact k1 hlog _ d (f2.newer hd) hd0 upd_same
    | cons e0 r0 =>
      refine iteF ?_
      obtain ⟨log', e, hle, hlen'⟩ := last_snoc (l := log) (n := r0.length) (by rw [hlog]; rfl)
      obtain ⟨lx', xl, rfl, hlx'⟩ := last_snoc (l := lx) (n := log'.length) (by rw [hllen, hle]; simp)
      rw [hle] at plg
      obtain ⟨log'', e', he', plg', ent⟩ := pr_snoc plg
      obtain ⟨rfl, he''⟩ := List.append_inj' he' rfl
      obtain rfl := List.cons.inj he'' |>.1
      obtain ⟨te, rfl, hte⟩ := ent
      have hte2 : _ := f2.imm hte rfl
      have n1 : a ≠ t0 := n0
      refine ⟨_, rfl, a, _, I.dx, _, _, rfl, h2, S.cf.cl, S.na _ (by decide +kernel), rfl, _, rfl, lg, _, _, _, rfl, rfl, SqT.of hlg2, atI_last _ _, te, _, 0, V.str e.1, rfl, rfl, SqT.of hte2, rfl, _, rfl, rfl, _, rfl, ?_⟩
      by_cases heu : e.1 = u
      · rw [decide_eq_true (show V.str e.1 = V.str u by rw [heu])]
        refine iteF ?_
        obtain ⟨ys', yl, rfl, hys'⟩ := last_snoc (l := ys) (n := log'.length) (by rw [hys, hle]; simp)
        obtain ⟨tabs0, l, rfl, p1, mp⟩ := pr_snoc pea
        obtain ⟨tabs', l0, rfl, p2, mp0⟩ := pr_snoc p1
        obtain ⟨q, rfl, mq⟩ := mp0
        -- self.own_present = self.own_earlier[-1]
        refine ⟨_, rfl, a, _, I.dx, _, _, rfl, h2, S.cf.cl, S.na _ (by decide +kernel), rfl, _, rfl, ea, _, _, _, rfl, rfl, SqT.of hea2, atI_last _ _, ?_⟩
        refine ⟨_, rfl, a, _, I.dx, _, rfl, h2, S.cf.cl, S.na _ (by decide +kernel), fs_len I pr lg ea, ?_⟩
        rw [show putF "own_present" (V.ref q) (I.fs pr lg ea) = I.fs q lg ea from rfl]
        have f3 : Fr [a] H (upd (upd H1 t0 (.tup [])) a (.ins I.C I.dx (I.fs q lg ea))) := (f2.mono (by simp)).set List.mem_cons_self hsa rfl
        have h3 : (upd (upd H1 t0 (.tup [])) a (.ins I.C I.dx (I.fs q lg ea))) a = some (.ins I.C I.dx (I.fs q lg ea)) := upd_same
        generalize upd (upd H1 t0 (.tup [])) a (.ins I.C I.dx (I.fs q lg ea)) = H3 at f3 h3 ⊢
        -- self.own_log = self.own_log[:-1]
        obtain ⟨c1, c2⟩ := cut_last lx' (V.ref te)
        refine ⟨_, rfl, a, _, I.dx, _, _, rfl, h3, S.cf.cl, S.na _ (by decide +kernel), rfl, _, rfl, _, rfl, lg, _, rfl, SqT.of (f3.imm hlg rfl), c2, fun t1 ht1 => ?_⟩
        rw [c1]
        have n3 : a ≠ t1 := ne_of_none h3 ht1
        refine ⟨_, rfl, a, _, I.dx, _, rfl, (upd_ne n3).trans h3, S.cf.cl, S.na _ (by decide +kernel), fs_len I q lg ea, ?_⟩
        rw [show putF "own_log" (V.ref t1) (I.fs q lg ea) = I.fs q t1 ea from rfl]
        have f4 : Fr [a] H (upd (upd H3 t1 (.tup lx')) a (.ins I.C I.dx (I.fs q t1 ea))) := (f3.newer ht1).set List.mem_cons_self hsa rfl
        have h4 : (upd (upd H3 t1 (.tup lx')) a (.ins I.C I.dx (I.fs q t1 ea))) a = some (.ins I.C I.dx (I.fs q t1 ea)) := upd_same
        have e4 : (upd (upd H3 t1 (.tup lx')) a (.ins I.C I.dx (I.fs q t1 ea))) t1 = some (.tup lx') := (upd_ne n3.symm).trans upd_same
        generalize upd (upd H3 t1 (.tup lx')) a (.ins I.C I.dx (I.fs q t1 ea)) = H4 at f4 h4 e4 ⊢
        -- self.own_earlier = self.own_earlier[:-1]
        obtain ⟨d1, d2⟩ := cut_last ys' (V.ref q)
        refine ⟨_, rfl, a, _, I.dx, _, _, rfl, h4, S.cf.cl, S.na _ (by decide +kernel), rfl, _, rfl, _, rfl, ea, _, rfl, SqT.of (f4.imm hea rfl), d2, fun t2 ht2 => ?_⟩
        rw [d1]
        have n4 : a ≠ t2 := ne_of_none h4 ht2
        refine ⟨_, rfl, a, _, I.dx, _, rfl, (upd_ne n4).trans h4, S.cf.cl, S.na _ (by decide +kernel), fs_len I q t1 ea, ?_⟩
        rw [show putF "own_earlier" (V.ref t2) (I.fs q t1 ea) = I.fs q t1 t2 from rfl]
        have f5 : Fr [a] H (upd (upd H4 t2 (.tup ys')) a (.ins I.C I.dx (I.fs q t1 t2))) := (f4.newer ht2).set List.mem_cons_self hsa rfl
        have h5 : (upd (upd H4 t2 (.tup ys')) a (.ins I.C I.dx (I.fs q t1 t2))) a = some (.ins I.C I.dx (I.fs q t1 t2)) := upd_same
        have e5 : (upd (upd H4 t2 (.tup ys')) a (.ins I.C I.dx (I.fs q t1 t2))) t2 = some (.tup ys') := (upd_ne n4.symm).trans upd_same
        have e51 : (upd (upd H4 t2 (.tup ys')) a (.ins I.C I.dx (I.fs q t1 t2))) t1 = some (.tup lx') := (upd_ne n3.symm).trans ((upd_ne (ne_of_none e4 ht2)).trans e4)
        refine ⟨_, rfl, a, _, I.dx, _, _, rfl, h5, S.cf.cl, S.na _ (by decide +kernel), rfl, ?_⟩
        refine k3 log' e tabs' l l0 hle heu (by simp) _ q f5 ⟨hs.1, q, t1, t2, h5, ⟨⟨lx', e51, pr_fr (fun _ _ z => z.fr f5) plg'⟩, ⟨ys', e5, ?_⟩⟩⟩ (mq.fr f5)
        exact pr_append (pr_fr (fun _ _ z => z.fr f5) p2) (.cons ⟨q, rfl, mq.fr f5⟩ .nil)
      · rw [decide_eq_false (show ¬ V.str e.1 = V.str u from fun z => heu (by cases z; rfl))]
        refine iteT ⟨_, rfl, a, _, I.dx, _, _, rfl, h2, S.cf.cl, S.na _ (by decide +kernel), rfl, _, rfl, lg, _, _, _, rfl, rfl, SqT.of hlg2, atI_last _ _, te, _, 0, V.str e.1, rfl, rfl, SqT.of hte2, rfl, V.str e.1, rfl, fun d hd => ?_⟩
        have hd0 : H d = none := by
          cases z : H d with
          | none => rfl
          | some o => rw [f2 _ _ z (fun _ => by simp)] at hd; cases hd
        exact k2 log' e hle heu _ d (f2.newer hd) hd0 upd_same
end
end K74
end
-- K74Zc
section
set_option maxRecDepth 100000
set_option maxHeartbeats 4000000
/-! Session.apply, raise_to, do_steps, clone. -/
namespace K74
open PySem PySem.Spec PyProof.Rows L2
theorem passN {X : Cx} : Passes (L2N.CX X.prog X.w) X E0 := fun _ _ _ _ _ _ _ h => by
  obtain ⟨_, _, _, _, _, _, _, _, _, _, _, _, z⟩ := h
  exact z.elim
/-- the present table -/
theorem SessD.present {K : PySem.W.Frag} {H : Hp} {n : Nat} {pr lg ea : Addr} {tabs : List Tbl} {log : List (Str × Str)} (h : SessD K H n pr lg ea tabs log) : ∃ tabs' l, tabs = tabs' ++ [l] ∧ MapAt K H pr n l := by
  obtain ⟨ys, _, p⟩ := h.ea
  obtain ⟨tabs', l, e, _, q, z, m⟩ := pr_snoc p
  cases z
  exact ⟨tabs', l, e, m⟩
section
variable {P : Program} {w : World} {K : PySem.W.Frag} {mg : Str → Option Value} {base : Heap} {C : Addr}
def spApply (K : PySem.W.Frag) (C : Addr) : Sp := fun vs H Q _ => ∃ (s b : Addr) (I : SI) (n c : Nat) (l m : Tbl) (u : Str) (tabs : List Tbl) (log : List (Str × Str)), vs = [.ref s, .str u, .ref b] ∧ I.C = C ∧ SessAt K H s I n (tabs ++ [l]) log ∧ Hist n c (tabs ++ [l]) log ∧ c ≤ 1000 ∧ u ∈ users ∧ MapAt K H b n m ∧ Good n m ∧
  (∀ k, I.least = some k → k ≤ (prodT l m).length) ∧ ∀ H' q, Fr [s] H H' → SessAt K H' s I n (tabs ++ [l] ++ [prodT l m]) (log ++ [((u, "apply") : Str × Str)]) → MapAt K H' q n (prodT l m) → Q (.ref q) H'
theorem sc_apply : FnScope ["self", "user", "factor"] ["self", "user", "factor"] (defScope (sub 38 5)) := ⟨rfl, rfl, rfl, by decide +kernel, rfl, by decide +kernel, by decide +kernel⟩
theorem m_apply (T : TX K mg) (S : SC K C) (N : NX P w K mg base C) : MC P w K mg base CX0 C 10 "apply" ["self", "user", "factor"] (spApply K C) := by
  have GU := g_check_user (P := P) (w := w) (base := base) T.toTxt
  have G1 := g_check_map (P := P) (w := w) (base := base) T.toTxt
  have G2 := g_check_maps (P := P) (w := w) (base := base) T.toTxt
  have GC' := m_change (P := P) (w := w) (base := base) T S N
  have GM := m_mul (P := P) (w := w) (base := base) T.toTxt
  refine mc0_of (S.ms (5, "Session.apply") (by decide +kernel)) sc_apply (fun vs H Q E h => ?_) (fun f cdv A outer s H vs Q E hr h => ?_) fun _ _ _ _ _ _ us hl => match us, hl with | [_, _, _], _ => rfl
  · obtain ⟨_, _, _, _, _, _, _, _, _, _, rfl, _⟩ := h
    rfl
  · obtain ⟨a, b, I, n, c, l, m, u, tabs, log, rfl, hC, hs, hh, hc, hu, mb, gm, hle, k⟩ := h
    subst hC
    have hh' := L2H.roomH_of hr
    refine ⟨_, pss_cons (ps_expr (pe_gc GU hr pass0 (pa_cons (pv 1) pa_nil)))
      (pss_cons (ps_expr (pe_gg G1 (.inl rfl) hh' (pa_cons (pv 2) pa_nil)))
      (pss_cons (ps_expr (pe_gg G2 (.inl rfl) hh' (pa_cons (pe_fld (pv 0) rfl) (pa_cons (pv 2) pa_nil))))
      (pss_one (ps_ret (pe_mc (pv 0) S.cf.cl GC' hr passN (pa_cons (pv 1) (pa_cons pe_str (pa_cons (pe_op (op_mulC GM (by exact T.firstM) (hr.mono (by decide))) (pe_fld (pv 0) rfl) (pv 2)) pa_nil)))))))), ?_⟩
    obtain ⟨pr, lg, ea, si, hsa, sd⟩ := hs.sesI
    obtain ⟨tabs', l', he, mp⟩ := sd.present
    obtain ⟨rfl, he'⟩ := List.append_inj' he rfl
    obtain rfl := (List.cons.inj he').1
    have gal : GA n l := hh.ga _ (by simp)
    have n1 := hh.n1
    have n5 := hh.n5
    refine ⟨_, rfl, u, rfl, hu, fun H1 f1 => ?_⟩
    have h1 := f1 _ _ hsa fun _ => by simp
    refine ⟨_, rfl, b, n, m, rfl, mb.fr f1, ?_⟩
    refine ⟨_, rfl, a, _, I.dx, _, _, rfl, h1, S.cf.cl, S.na _ (by decide +kernel), rfl, _, rfl, pr, b, n, l, m, rfl, mp.fr f1, mb.fr f1, ?_⟩
    refine ⟨_, rfl, a, I.dx, _, rfl, h1, fs_none I pr lg ea _, _, rfl, ?_⟩
    refine ⟨_, rfl, a, _, I.dx, _, _, rfl, h1, S.cf.cl, S.na _ (by decide +kernel), rfl, _, rfl, ?_⟩
    obtain ⟨dxa, ada, ha1, ha2⟩ := id (mp.fr f1)
    obtain ⟨dxb, adb, hb1, hb2⟩ := id (mb.fr f1)
    refine ⟨pr, b, dxa, dxb, _, _, rfl, rfl, ha1, hb1, pr, b, n, l, m, rfl, mp.fr f1, mb.fr f1, gal, gm, n1, by omega, fun H2 q f2 mq => ?_⟩
    refine ⟨a, q, I, n, prodT l m, u, "apply", _, log, rfl, rfl, hs.fr (f1.trans f2) (by simp), mq, ?_, Nat.le_trans hh.le hc, hh.len, fun _ H3 f3 s3 => ?_, fun k0 h0 h00 => absurd (hle k0 h0) (by omega)⟩
    · have := (prod_good gal.toGood gm).len
      omega
    · exact k H3 q (((f1.trans f2).mono (by simp)).trans f3) s3 (mq.fr f3)
def spRaiseTo (K : PySem.W.Frag) (C : Addr) : Sp := fun vs H Q _ => ∃ (s : Addr) (I : SI) (n c : Nat) (e : Int) (l : Tbl) (u : Str) (tabs : List Tbl) (log : List (Str × Str)), vs = [.ref s, .str u, .int e] ∧ I.C = C ∧ SessAt K H s I n (tabs ++ [l]) log ∧ Hist n c (tabs ++ [l]) log ∧ c ≤ 1000 ∧ u ∈ users ∧ -4 ≤ e ∧ e ≤ 4 ∧
  (∀ k, I.least = some k → k ≤ (powE n l e).length) ∧ ∀ H' q, Fr [s] H H' → SessAt K H' s I n (tabs ++ [l] ++ [powE n l e]) (log ++ [((u, "power") : Str × Str)]) → MapAt K H' q n (powE n l e) → Q (.ref q) H'
theorem sc_raise_to : FnScope ["self", "user", "exponent"] ["self", "user", "exponent"] (defScope (sub 38 6)) := ⟨rfl, rfl, rfl, by decide +kernel, rfl, by decide +kernel, by decide +kernel⟩
theorem m_raise_to (T : TX K mg) (S : SC K C) (N : NX P w K mg base C) : MC P w K mg base CX0 C 10 "raise_to" ["self", "user", "exponent"] (spRaiseTo K C) := by
  have GU := g_check_user (P := P) (w := w) (base := base) T.toTxt
  have G1 := g_is_integer (P := P) (w := w) (base := base) T.toTxt
  have GC' := m_change (P := P) (w := w) (base := base) T S N
  have GM := m_power (P := P) (w := w) (base := base) T.toTxt
  refine mc0_of (S.ms (6, "Session.raise_to") (by decide +kernel)) sc_raise_to (fun vs H Q E h => ?_) (fun f cdv A outer s H vs Q E hr h => ?_) fun _ _ _ _ _ _ us hl => match us, hl with | [_, _, _], _ => rfl
  · obtain ⟨_, _, _, _, _, _, _, _, _, rfl, _⟩ := h
    rfl
  · obtain ⟨a, I, n, c, e, l, u, tabs, log, rfl, hC, hs, hh, hc, hu, e1, e2, hle, k⟩ := h
    subst hC
    have hh' := L2H.roomH_of hr
    refine ⟨_, pss_cons (ps_expr (pe_gc GU hr pass0 (pa_cons (pv 1) pa_nil)))
      (pss_cons (ps_if (pt_not (pt_val (pe_gg G1 (.inl rfl) hh' (pa_cons (pv 2) pa_nil)))) (pss_one ps_never) pss_nil)
      (pss_one (ps_ret (pe_mc (pv 0) S.cf.cl GC' hr passN (pa_cons (pv 1) (pa_cons pe_str (pa_cons (pe_mc (pe_fld (pv 0) rfl) T.fM.cl GM hr pass0 (pa_cons (pv 2) pa_nil)) pa_nil))))))), ?_⟩
    obtain ⟨pr, lg, ea, si, hsa, sd⟩ := hs.sesI
    obtain ⟨tabs', l', he, mp⟩ := sd.present
    obtain ⟨rfl, he'⟩ := List.append_inj' he rfl
    obtain rfl := (List.cons.inj he').1
    have gal : GA n l := hh.ga _ (by simp)
    have n1 := hh.n1
    have n5 := hh.n5
    refine ⟨_, rfl, u, rfl, hu, fun H1 f1 => ?_⟩
    have h1 := f1 _ _ hsa fun _ => by simp
    refine ⟨_, rfl, e, rfl, true, rfl, iteF ?_⟩
    obtain ⟨dxa, ada, ha1, ha2⟩ := id (mp.fr f1)
    refine ⟨_, rfl, a, I.dx, _, rfl, h1, fs_none I pr lg ea _, _, rfl, ?_⟩
    refine ⟨_, rfl, a, _, I.dx, _, _, rfl, h1, S.cf.cl, S.na _ (by decide +kernel), rfl, pr, dxa, _, rfl, ha1, rfl, _, rfl, pr, e, n, l, rfl, mp.fr f1, gal, n1, n5, e1, e2, fun H2 q f2 mq => ?_⟩
    refine ⟨a, q, I, n, powE n l e, u, "power", _, log, rfl, rfl, hs.fr (f1.trans f2) (by simp), mq, ?_, Nat.le_trans hh.le hc, hh.len, fun _ H3 f3 s3 => ?_, fun k0 h0 h00 => absurd (hle k0 h0) (by omega)⟩
    · have := (powE_ga gal.toGood e).len
      omega
    · exact k H3 q (((f1.trans f2).mono (by simp)).trans f3) s3 (mq.fr f3)
def spDoSteps (K : PySem.W.Frag) (C : Addr) : Sp := fun vs H Q E => ∃ (s v : Addr) (I : SI) (n c : Nat) (l : Tbl) (u : Str) (tabs : List Tbl) (log : List (Str × Str)) (xs : List V) (sts : List Step), vs = [.ref s, .str u, .ref v] ∧ I.C = C ∧ SessAt K H s I n (tabs ++ [l]) log ∧ Hist n c (tabs ++ [l]) log ∧ c ≤ 1000 ∧ u ∈ users ∧
  H v = some (.lst xs) ∧ Paired (StepAt H) xs sts ∧ StepsOk n sts ∧
  ((∀ k, I.least = some k → k ≤ (stepsT l sts).length) → ∀ H' q, Fr [s] H H' → SessAt K H' s I n (tabs ++ [l] ++ [stepsT l sts]) (log ++ [((u, "steps") : Str × Str)]) → MapAt K H' q n (stepsT l sts) → Q (.ref q) H') ∧
  (∀ k, I.least = some k → (stepsT l sts).length < k → ∀ H' d, Fr [] H H' → H d = none → H' d = some (.xd [("number", .int (stepsT l sts).length)]) → E (.ref (cTF K)) (some d) H')
abbrev nDoSteps : List Str := ["self", "user", "steps", "problem", "later"]
theorem sc_do_steps : FnScope nDoSteps ["self", "user", "steps"] (defScope (sub 38 7)) := ⟨rfl, rfl, rfl, by decide +kernel, rfl, by decide +kernel, by decide +kernel⟩
theorem m_do_steps (T : TX K mg) (S : SC K C) (N : NX P w K mg base C) : MC P w K mg base (L2N.CX P w) C 10 "do_steps" ["self", "user", "steps"] (spDoSteps K C) := by
  have GU := g_check_user (P := P) (w := w) (base := base) T.toTxt
  have G1 := g_first (P := P) (w := w) (base := base) T.toTxt
  have G2 := g_after (P := P) (w := w) (base := base) T.toTxt
  have GS := p_size (P := P) (w := w) (base := base) T.toTxt
  have GA' := p_arrows (P := P) (w := w) (base := base) T.toTxt
  have GM := k_Map (P := P) (w := w) (base := base) T.toTxt
  have GC' := m_change (P := P) (w := w) (base := base) T S N
  refine mc_of (S.ms (7, "Session.do_steps") (by decide +kernel)) sc_do_steps (fun vs H Q E h => ?_) (fun f cdv A outer s H vs Q E hr h => ?_) fun _ _ _ _ _ _ us hl => match us, hl with | [_, _, _], _ => rfl
  · obtain ⟨_, _, _, _, _, _, _, _, _, _, _, rfl, _⟩ := h
    rfl
  · obtain ⟨a, v, I, n, c, l, u, tabs, log, xs, sts, rfl, hC, hs, hh, hc, hu, hv, hp, ok, k1, k2⟩ := h
    subst hC
    have hh' := L2H.roomH_of hr
    have nd := sc_do_steps.nd
    have tk := L2N.takes_of (X := cxOf (L2N.CX P w) P w K mg base nDoSteps "Session.do_steps" (defScope (sub 38 7)) f cdv A outer s H E) rfl rfl rfl rfl
    refine ⟨_, pss_cons (ps_expr (pe_gc GU hr pass0 (pa_cons (pv 1) pa_nil)))
      (pss_cons (ps_set (i := 3) nd rfl (Or.inl rfl) (pe_gc G1 hr pass0 (pa_cons (pe_pr (pe_fld (pv 0) rfl) T.fM.cl GS (.inl rfl) hh') (pa_cons (pv 2) pa_nil))))
      (pss_cons (ps_if (pt_cmpR op_notN (pv 3) pe_non (nomark _)) (pss_one ps_never) pss_nil)
      (pss_cons (ps_set (i := 4) nd rfl (Or.inl rfl) (pe_mk GM (.inl rfl) hh' (pa_cons (pe_pr (pe_fld (pv 0) rfl) T.fM.cl GS (.inl rfl) hh') (pa_cons (pe_gc G2 hr pass0 (pa_cons (pe_pr (pe_fld (pv 0) rfl) T.fM.cl GA' (.inl rfl) hh') (pa_cons (pv 2) pa_nil))) pa_nil))))
      (pss_one (ps_ret (pe_mc (pv 0) S.cf.cl GC' hr (L2N.passes_call tk fun _ _ _ _ e => e) (pa_cons (pv 1) (pa_cons pe_str (pa_cons (pv 4) pa_nil))))))))), ?_⟩
    obtain ⟨pr, lg, ea, si, hsa, sd⟩ := hs.sesI
    obtain ⟨tabs', l', he, mp⟩ := sd.present
    obtain ⟨rfl, he'⟩ := List.append_inj' he rfl
    obtain rfl := (List.cons.inj he').1
    have gal : GA n l := hh.ga _ (by simp)
    have n1 := hh.n1
    have n5 := hh.n5
    have mi := mut_refs (refs_step hp)
    refine ⟨_, rfl, u, rfl, hu, fun H1 f1 => ?_⟩
    have h1 := f1 _ _ hsa fun _ => by simp
    obtain ⟨dxa, ada, ha1, ha2⟩ := id (mp.fr f1)
    refine ⟨_, rfl, a, _, I.dx, _, _, rfl, h1, S.cf.cl, S.na _ (by decide +kernel), rfl, pr, dxa, _, rfl, ha1, pr, n, l, rfl, mp.fr f1, _, rfl, n, v, xs, sts, rfl, f1.imm hv mi, pr_fr (fun _ _ z => z.fr f1) hp, ok, fun H2 f2 => ?_⟩
    refine ⟨_, rfl, rfl, _, rfl, iteF ?_⟩
    have f12 := f1.trans f2
    have h2 := f12 _ _ hsa fun _ => by simp
    obtain ⟨dxb, adb, hb1, hb2⟩ := id (mp.fr f12)
    refine ⟨_, rfl, a, _, I.dx, _, _, rfl, h2, S.cf.cl, S.na _ (by decide +kernel), rfl, pr, dxb, _, rfl, hb1, pr, n, l, rfl, mp.fr f12, ?_⟩
    refine ⟨_, rfl, a, _, I.dx, _, _, rfl, h2, S.cf.cl, S.na _ (by decide +kernel), rfl, pr, dxb, _, rfl, hb1, pr, n, l, rfl, mp.fr f12, fun p hp0 => ?_⟩
    have f3 : Fr [] H (upd H2 p (.dK (kz l))) := f12.newer hp0
    refine ⟨_, rfl, n, p, v, l, xs, sts, rfl, upd_same, gal, by omega, f3.imm hv mi, pr_fr (fun _ _ z => z.fr f3) hp, ok, fun H4 q F f4 hq gF cF => ?_⟩
    refine mk_mapV (K := K) (l := F) hq gF n1 (by omega) fun H5 r f5 hr0 mr => ?_
    rw [cF] at mr
    have f6 := (f3.trans f4).trans f5
    have h6 := f6 _ _ hsa fun _ => by simp
    have gst := steps_ga gal ok
    refine ⟨_, rfl, a, I.dx, _, rfl, h6, fs_none I pr lg ea _, _, rfl, _, rfl, a, r, I, n, stepsT l sts, u, "steps", _, log, rfl, rfl, hs.fr f6 (by simp), mr, by have := gst.len; omega, Nat.le_trans hh.le hc, hh.len, fun hm H7 f7 s7 => ?_, fun m hm hlt H7 d f7 hd0 hd => ?_⟩
    · exact k1 hm H7 r ((f6.mono (by simp)).trans f7) s7 (mr.fr f7)
    · refine k2 m hm hlt H7 d (f6.trans f7) ?_ hd
      cases z : H d with
      | none => rfl
      | some o => rw [f6 _ _ z (fun _ => by simp)] at hd0; cases hd0
end
end K74
end
-- K74Zd
section
set_option maxRecDepth 100000
set_option maxHeartbeats 4000000
/-! Session.check_next, fresh, clone, ==. -/
namespace K74
open PySem PySem.Spec PyProof.Rows L2
section
variable {P : Program} {w : World} {K : PySem.W.Frag} {mg : Str → Option Value} {base : Heap} {C : Addr} {j k : Nat} {x : Str} {ps : List Str} {sp : Sp} {CX : CXT}
theorem MC.mono (g : MC P w K mg base CX C j x ps sp) (h : j ≤ k) : MC P w K mg base CX C k x ps sp := let ⟨f, fd, a, b, c⟩ := g.ex; ⟨f, fd, a.mono h, b, c⟩
theorem sc_next : FnScope ["self", "later"] ["self", "later"] (defScope (sub 38 3)) := ⟨rfl, rfl, rfl, by decide +kernel, rfl, by decide +kernel, by decide +kernel⟩
theorem next_S (T : TX K mg) : NX P w K mg base (cS K) := by
  have G := g_check_map (P := P) (w := w) (base := base) T.toTxt
  suffices z : MC P w K mg base (L2N.CX P w) (cS K) 2 "check_next" ["self", "later"] (spNext K (cS K)) from z.mono (by decide)
  refine mc_of (T.mS (3, "Session.check_next") (by decide +kernel)) sc_next (fun vs H Q E h => ?_) (fun f cdv A outer s H vs Q E hr h => ?_) fun _ _ _ _ _ _ us hl => match us, hl with | [_, _], _ => rfl
  · obtain ⟨_, _, _, _, _, _, _, _, rfl, _⟩ := h
    rfl
  · obtain ⟨a, b, I, n, l, pr, lg, ea, rfl, ok, hC, ha, mb, hl, k1, k2⟩ := h
    refine ⟨_, pss_one (ps_expr (pe_gg G (.inl rfl) (L2H.roomH_of hr) (pa_cons (pv 1) pa_nil))), ?_⟩
    refine ⟨_, rfl, b, n, l, rfl, mb, k1 (fun m hm => ?_) H Fr.refl⟩
    obtain ⟨IC, dx, least⟩ := I
    cases hm
    exact absurd (hC.symm.trans ok) T.neSK
/-- self.fresh(): an empty session of the same class -/
def spFresh (K : PySem.W.Frag) (C : Addr) : Sp := fun vs H Q _ => ∃ (s : Addr) (I : SI) (n : Nat) (pr lg ea : Addr) (l : Tbl), vs = [.ref s] ∧ I.C = C ∧ I.Ok K ∧ H s = some (.ins I.C I.dx (I.fs pr lg ea)) ∧ MapAt K H pr n l ∧ 1 ≤ n ∧ n ≤ 5 ∧ (∀ m, I.least = some m → m ≤ n) ∧
  ∀ H' t dx pr' lg' ea', Fr [] H H' → H t = none → H' t = some (.ins I.C dx ((SI.mk I.C dx I.least).fs pr' lg' ea')) → Q (.ref t) H'
abbrev FX (P : Program) (w : World) (K : PySem.W.Frag) (mg : Str → Option Value) (base : Heap) (C : Addr) : Prop := MC P w K mg base CX0 C 13 "fresh" ["self"] (spFresh K C)
theorem sc_fresh : FnScope ["self"] ["self"] (defScope (sub 38 11)) := ⟨rfl, rfl, rfl, by decide +kernel, rfl, by decide +kernel, by decide +kernel⟩
theorem fresh_S (T : TX K mg) : FX P w K mg base (cS K) := by
  have GS := p_size (P := P) (w := w) (base := base) T.toTxt
  have GK := kc_Session (P := P) (w := w) (base := base) T.toTxt
  suffices z : MC P w K mg base CX0 (cS K) 9 "fresh" ["self"] (spFresh K (cS K)) from z.mono (by decide)
  refine mc0_of (T.mS (11, "Session.fresh") (by decide +kernel)) sc_fresh (fun vs H Q E h => ?_) (fun f cdv A outer s H vs Q E hr h => ?_) fun _ _ _ _ _ _ us hl => match us, hl with | [_], _ => rfl
  · obtain ⟨_, _, _, _, _, _, _, rfl, _⟩ := h
    rfl
  · obtain ⟨a, I, n, pr, lg, ea, l, rfl, hC, ok, ha, mp, n1, n5, hm, k⟩ := h
    have S := T.toTxt.sc ok
    refine ⟨_, pss_one (ps_ret (pe_kc GK hr (pa_cons (pe_pr (pe_fld (pv 0) rfl) T.fM.cl GS (.inl rfl) (L2H.roomH_of hr)) pa_nil))), ?_⟩
    obtain ⟨dxa, ada, ha1, ha2⟩ := id mp
    refine ⟨_, rfl, a, _, I.dx, _, _, rfl, ha, S.cf.cl, S.na _ (by decide +kernel), rfl, pr, dxa, _, rfl, ha1, pr, n, l, rfl, mp, ?_⟩
    refine mk_ses T.toTxt n1 (by omega) fun H' t dx f1 ht hs => ?_
    obtain ⟨ok', pr', lg', ea', ht', _⟩ := hs
    obtain ⟨IC, idx, least⟩ := I
    cases least with
    | none =>
      obtain rfl : IC = cS K := ok
      exact k H' t dx pr' lg' ea' f1 ht ht'
    | some m => exact absurd (hC.symm.trans ok) T.neSK
def spClone (K : PySem.W.Frag) (C : Addr) : Sp := fun vs H Q _ => ∃ (s : Addr) (I : SI) (n : Nat) (tabs : List Tbl) (log : List (Str × Str)), vs = [.ref s] ∧ I.C = C ∧ SessAt K H s I n tabs log ∧ 1 ≤ n ∧ n ≤ 5 ∧ (∀ m, I.least = some m → m ≤ n) ∧
  ∀ H' t dx pr lg ea, Fr [] H H' → H t = none → H s = some (.ins I.C I.dx (I.fs pr lg ea)) → H' t = some (.ins I.C dx ((SI.mk I.C dx I.least).fs pr lg ea)) → SessAt K H' t ⟨I.C, dx, I.least⟩ n tabs log → Q (.ref t) H'
theorem sc_clone : FnScope ["self", "twin"] ["self"] (defScope (sub 38 12)) := ⟨rfl, rfl, rfl, by decide +kernel, rfl, by decide +kernel, by decide +kernel⟩
theorem m_clone (T : TX K mg) (S : SC K C) (F : FX P w K mg base C) : MC P w K mg base CX0 C 14 "clone" ["self"] (spClone K C) := by
  refine mc0_of (S.ms (12, "Session.clone") (by decide +kernel)) sc_clone (fun vs H Q E h => ?_) (fun f cdv A outer s H vs Q E hr h => ?_) fun _ _ _ _ _ _ us hl => match us, hl with | [_], _ => rfl
  · obtain ⟨_, _, _, _, _, rfl, _⟩ := h
    rfl
  · obtain ⟨a, I, n, tabs, log, rfl, hC, hs, n1, n5, hm, k⟩ := h
    subst hC
    have nd := sc_clone.nd
    refine ⟨_, pss_cons (ps_set (i := 1) nd rfl (Or.inl rfl) (pe_mc0 (pv 0) S.cf.cl F hr pass0))
      (pss_cons (ps_fld (pv 1) (pe_fld (pv 0) rfl) rfl) (pss_cons (ps_fld (pv 1) (pe_fld (pv 0) rfl) rfl) (pss_cons (ps_fld (pv 1) (pe_fld (pv 0) rfl) rfl) (pss_one (ps_ret (pv 1)))))), ?_⟩
    obtain ⟨pr, lg, ea, si, hsa, sd⟩ := hs.sesI
    obtain ⟨tabs', l', he, mp⟩ := sd.present
    refine ⟨_, rfl, a, I.dx, _, rfl, hsa, fs_none I pr lg ea _, a, I, n, pr, lg, ea, l', rfl, rfl, hs.1, hsa, mp, n1, n5, hm, fun H1 t dx pr' lg' ea' f1 ht0 ht => ?_⟩
    have h1 := f1 _ _ hsa fun _ => by simp
    have nat : a ≠ t := ne_of_none hsa ht0
    refine ⟨_, rfl, a, _, I.dx, _, _, rfl, h1, S.cf.cl, S.na _ (by decide +kernel), rfl, _, rfl, t, _, dx, _, rfl, ht, S.cf.cl, S.na _ (by decide +kernel), fs_len _ _ _ _, ?_⟩
    rw [show putF "own_present" (V.ref pr) ((SI.mk I.C dx I.least).fs pr' lg' ea') = (SI.mk I.C dx I.least).fs pr lg' ea' from rfl]
    refine ⟨_, rfl, a, _, I.dx, _, _, rfl, (upd_ne nat).trans h1, S.cf.cl, S.na _ (by decide +kernel), rfl, _, rfl, t, _, dx, _, rfl, upd_same, S.cf.cl, S.na _ (by decide +kernel), fs_len _ _ _ _, ?_⟩
    rw [upd_upd, show putF "own_log" (V.ref lg) ((SI.mk I.C dx I.least).fs pr lg' ea') = (SI.mk I.C dx I.least).fs pr lg ea' from rfl]
    refine ⟨_, rfl, a, _, I.dx, _, _, rfl, (upd_ne nat).trans h1, S.cf.cl, S.na _ (by decide +kernel), rfl, _, rfl, t, _, dx, _, rfl, upd_same, S.cf.cl, S.na _ (by decide +kernel), fs_len _ _ _ _, ?_⟩
    rw [upd_upd, show putF "own_earlier" (V.ref ea) ((SI.mk I.C dx I.least).fs pr lg ea') = (SI.mk I.C dx I.least).fs pr lg ea from rfl]
    have f2 : Fr [] H (upd H1 t (.ins I.C dx ((SI.mk I.C dx I.least).fs pr lg ea))) := f1.new ht0
    exact ⟨_, rfl, k _ t dx pr lg ea f2 ht0 hsa upd_same ⟨hs.1, pr, lg, ea, upd_same, sd.fr f2⟩⟩
end
end K74
end
-- K74Ze
section
set_option maxRecDepth 100000
set_option maxHeartbeats 4000000
/-! Session.__eq__. -/
namespace K74
open PySem PySem.Spec PyProof.Rows L2
def DSame : Eqv := fun x y _ => ∃ a, x = .ref a ∧ y = .ref a
theorem mon_same : Mon DSame := fun _ _ _ _ _ d => d
theorem eqG_same {X : Cx} : EqG X 0 DSame := by
  intro A pins s σ H x y u v sb I rx ry d
  obtain ⟨a, rfl, rfl⟩ := d
  cases rx
  cases ry
  exact SeqAt.EqAt.same (A := A) (s := s) (.ref a) X.prog X.w X.xe _ ⟨rfl, H, I, Ext.rfl'⟩
theorem prs_same {H : Hp} : ∀ {xs : List V}, RefsO xs → Prs DSame xs xs H
  | [], _ => Prs.nil
  | x :: r, h => Prs.cons (let ⟨a, e⟩ := h x List.mem_cons_self; ⟨a, e, e⟩) (prs_same fun y hy => h y (List.mem_cons_of_mem _ hy))
theorem refs_map {K : PySem.W.Frag} {H : Hp} {n : Nat} {xs : List V} {tabs : List Tbl} (p : Paired (MapV K H n) xs tabs) : RefsO xs := by
  induction p with
  | nil => exact fun x h => by cases h
  | cons a t ih =>
    intro x h
    rcases List.mem_cons.mp h with e | e
    · obtain ⟨t, rfl, _⟩ := a
      exact ⟨t, e⟩
    · exact ih x e
section
variable {X : Cx} {C : Addr} {k : Nat} {ps : List Str} {sp : Sp}
theorem op_eqC {C' : Addr} (G : MC X.prog X.w X.K X.mg X.base CX0 C k "__eq__" ps sp) (hf : PySem.W.notFirst X.K C (.ref C') = true) (hr : Room k X.A) :
    OpR X (compareOp .Eq) (fun x y H Q => ∃ a b dx dy fs gs, x = .ref a ∧ y = .ref b ∧ H a = some (.ins C dx fs) ∧ H b = some (.ins C' dy gs) ∧ sp [x, y] H (fun v H' => ∃ r, v = .bl r ∧ Q (.bl r) H') E0) := by
  obtain ⟨g, fd, F1, hm, hb⟩ := G.ex
  intro pins s σ H x y u v Q I rx ry h
  obtain ⟨a, b, dx, dy, fs, gs, rfl, rfl, ea, eb, q⟩ := h
  obtain rfl : u = Value.ref a := rx
  obtain rfl : v = Value.ref b := ry
  obtain ⟨mA, O, _, _, _, _⟩ := ins_get I.hok ea
  obtain ⟨od, J, _⟩ := O.look
  obtain ⟨mB, O', _, _, _, _⟩ := ins_get I.hok eb
  obtain ⟨od', J', _⟩ := O'.look
  obtain ⟨m, hF⟩ := I.fr
  show wpAny (model X.prog X.w) X.A (richCompare .Eq (.ref a) (.ref b)) (EP X pins σ Q) X.xe s
  refine PySem.W.cmp_K (op := .Eq) (by have := hr.units; omega) hF I.ok.mod.kin J J'.type hf hm.at_ hm.fn (thn (call_calm (us := [.ref a, .ref b]) (vs := [.ref a, .ref b]) F1 hr rfl I hb (.cons rfl (.cons rfl .nil)) q) fun v s' ⟨z, H', I', rz, r, ez, hq⟩ => ?_)
  subst ez
  cases rz
  exact ⟨.bl r, H', I', rfl, hq⟩
theorem op_neC {C' : Addr} (G : MC X.prog X.w X.K X.mg X.base CX0 C k "__eq__" ps sp) (hf : PySem.W.notFirst X.K C (.ref C') = true) (hn : PySem.W.findIn X.K (.ref C) "__ne__" = some (some (.builtin "object.__ne__"))) (hmr : PySem.W.mroIn X.K C (.type "object") = some true) (hr : Room (k + 1) X.A) :
    OpR X (compareOp .NotEq) (fun x y H Q => ∃ a b dx dy fs gs, x = .ref a ∧ y = .ref b ∧ H a = some (.ins C dx fs) ∧ H b = some (.ins C' dy gs) ∧ sp [x, y] H (fun v H' => ∃ r, v = .bl r ∧ Q (.bl (!r)) H') E0) := by
  obtain ⟨g, fd, F1, hm, hb⟩ := G.ex
  intro pins s σ H x y u v Q I rx ry h
  obtain ⟨a, b, dx, dy, fs, gs, rfl, rfl, ea, eb, q⟩ := h
  obtain rfl : u = Value.ref a := rx
  obtain rfl : v = Value.ref b := ry
  obtain ⟨mA, O, _, _, _, _⟩ := ins_get I.hok ea
  obtain ⟨od, J, _⟩ := O.look
  obtain ⟨mB, O', _, _, _, _⟩ := ins_get I.hok eb
  obtain ⟨od', J', _⟩ := O'.look
  show wpAny (model X.prog X.w) X.A (richCompare .NotEq (.ref a) (.ref b)) (EP X pins σ Q) X.xe s
  refine K74X.ne_own (by have := hr.units; omega) I.kIn J J'.type hf hn hmr hm.at_ hm.fn (thn (call_calm (us := [.ref a, .ref b]) (vs := [.ref a, .ref b]) F1 hr.in1 rfl I hb (.cons rfl (.cons rfl .nil)) q) fun v s' ⟨z, H', I', rz, r, ez, hq⟩ => ?_)
  subst ez
  cases rz
  exact ⟨r, rfl, .bl (!r), H', I', rfl, hq⟩
end
section
variable {P : Program} {w : World} {K : PySem.W.Frag} {mg : Str → Option Value} {base : Heap} {C : Addr}
def spSesEq (K : PySem.W.Frag) (C : Addr) : Sp := fun vs H Q _ => ∃ (s t : Addr) (I I' : SI) (pr lg ea : Addr) (n : Nat) (tabs : List Tbl) (log : List (Str × Str)), vs = [.ref s, .ref t] ∧ I.C = C ∧ I'.C = C ∧ I.Ok K ∧ H s = some (.ins I.C I.dx (I.fs pr lg ea)) ∧ H t = some (.ins I'.C I'.dx (I'.fs pr lg ea)) ∧
  SessD K H n pr lg ea tabs log ∧ (∀ e ∈ log, PyData.strOk e.1 = true ∧ PyData.strOk e.2 = true) ∧ tabs.length ≤ 2000 ∧ ∀ H', Fr [] H H' → Q (.bl true) H'
theorem sc_ses_eq : FnScope ["self", "other"] ["self", "other"] (defScope (sub 38 13)) := ⟨rfl, rfl, rfl, by decide +kernel, rfl, by decide +kernel, by decide +kernel⟩
theorem m_ses_eq (T : TX K mg) (S : SC K C) : MC P w K mg base CX0 C 2 "__eq__" ["self", "other"] (spSesEq K C) := by
  refine mc0_of (S.ms (13, "Session.__eq__") (by decide +kernel)) sc_ses_eq (fun vs H Q E h => ?_) (fun f cdv A outer s H vs Q E hr h => ?_) fun _ _ _ _ _ _ us hl => match us, hl with | [_, _], _ => rfl
  · obtain ⟨_, _, _, _, _, _, _, _, _, _, rfl, _⟩ := h
    rfl
  · obtain ⟨a, t, I, I', pr, lg, ea, n, tabs, log, rfl, hC, hC', ok, ha, ht, ⟨⟨lx, hlg, plg⟩, ⟨ys, hea, pea⟩⟩, hst, htl, k⟩ := h
    subst hC
    have hu64 := huH64 (L2H.roomH_of hr)
    have ht' : H t = some (.ins I.C I'.dx (I'.fs pr lg ea)) := by rw [← hC']; exact ht
    refine ⟨_, pss_cons (ps_if (PW.pt (pw_or (pt_not (pt_val (pe_callB call_isi (by rfl) (T.z "isinstance") (by decide +kernel) (pa_cons (pv 1) (pa_cons (pe_glob (v := .ref (cS K)) rfl T.gS rfl) pa_nil)))))
        (pw_or1 (pt_cmpR (op_neD hu64) (pe_fld (pv 0) rfl) (pe_fld (pv 1) rfl) (nomark _))))) (pss_one ps_never) pss_nil)
      (pss_one (ps_ret (pe_cmpR (op_eqG (rcG_tup mon_same eqG_same) hr) (pe_tup (StX.pa_star (pe_fld (pv 0) rfl) (pa_cons (pe_fld (pv 0) rfl) pa_nil))) (pe_tup (StX.pa_star (pe_fld (pv 1) rfl) (pa_cons (pe_fld (pv 1) rfl) pa_nil))) (nomark _)))), ?_⟩
    refine ⟨_, rfl, _, _, _, _, true, rfl, .own _, .base (.ins ht' S.cf.cl S.cf.kc T.od T.ot S.cf.mo), S.is, true, rfl, iteF ?_⟩
    refine ⟨_, rfl, a, _, I.dx, _, _, rfl, ha, S.cf.cl, S.na _ (by decide +kernel), rfl, _, rfl, t, _, I'.dx, _, _, rfl, ht', S.cf.cl, S.na _ (by decide +kernel), rfl, ?_⟩
    refine ⟨.tuple (logD log), .tuple (logD log), .tup (SqT.of hlg) (logD_at plg), .tup (SqT.of hlg) (logD_at plg), logT_shaped hst, logT_shaped hst, ?_⟩
    rw [SeqAt.eqv_refl _ (SeqAt.canLay_of_shaped (logT_shaped hst))]
    refine ⟨_, rfl, iteF ?_⟩
    have hys : ys.length + 1 = tabs.length := by
      have := Paired.length pea
      rw [List.length_append] at this
      exact this
    have hz : (ys ++ [V.ref pr]).length ≤ sizeLine := by
      rw [List.length_append]
      show ys.length + 1 ≤ sizeLine
      exact Nat.le_of_lt (Nat.lt_of_le_of_lt (by omega : ys.length + 1 ≤ 2000) (by decide))
    refine ⟨_, rfl, a, _, I.dx, _, _, rfl, ha, S.cf.cl, S.na _ (by decide +kernel), rfl, ea, ys, rfl, .inl (SqT.of hea), _, rfl, a, _, I.dx, _, _, rfl, ha, S.cf.cl, S.na _ (by decide +kernel), rfl, hz, fun p1 hp1 => ?_⟩
    have n1 : ∀ q o, H q = some o → (upd H p1 (.tup (ys ++ [.ref pr]))) q = some o := fun q o e => by rw [upd_ne (ne_of_none e hp1)]; exact e
    refine ⟨_, rfl, t, _, I'.dx, _, _, rfl, n1 _ _ ht', S.cf.cl, S.na _ (by decide +kernel), rfl, ea, ys, rfl, .inl (SqT.of (n1 _ _ hea)), _, rfl, t, _, I'.dx, _, _, rfl, n1 _ _ ht', S.cf.cl, S.na _ (by decide +kernel), rfl, hz, fun p2 hp2 => ?_⟩
    have n12 : p1 ≠ p2 := ne_of_none upd_same hp2
    have f0 : Fr [] H (upd (upd H p1 (.tup (ys ++ [.ref pr]))) p2 (.tup (ys ++ [.ref pr]))) := fun q o e _ => by
      have := n1 q o e
      rw [upd_ne (ne_of_none this hp2)]
      exact this
    refine ⟨⟨p1, p2, _, _, rfl, rfl, SqT.of ((upd_ne n12).trans upd_same), SqT.of upd_same, prs_same (refs_map pea)⟩, fun H' ex => ?_⟩
    exact k H' (f0.trans fun q o e _ => ex q o e)
end
end K74
end
-- K74Zf
section
set_option maxRecDepth 100000
set_option maxHeartbeats 4000000
/-! Frames that leave the tables of code objects out. -/
namespace K74
open PySem PySem.Spec PyProof.Rows L2
/-- what stands, S and the tables of code objects apart -/
def Fx (S : List Addr) (H H' : Hp) : Prop := ∀ a o, H a = some o → (mutO o = true → a ∉ S) → (∀ ps, o ≠ .tbl ps) → H' a = some o
theorem Fr.fx {S : List Addr} {H H' : Hp} (f : Fr S H H') : Fx S H H' := fun a o e k _ => f a o e k
theorem Fx.refl {S : List Addr} {H : Hp} : Fx S H H := fun _ _ h _ _ => h
theorem Fx.trans {S : List Addr} {H H' H'' : Hp} (f : Fx S H H') (g : Fx S H' H'') : Fx S H H'' := fun a o h k n => g a o (f a o h k n) k n
theorem Fx.mono {S S' : List Addr} {H H' : Hp} (f : Fx S H H') (h : ∀ a ∈ S, a ∈ S') : Fx S' H H' := fun a o e k n => f a o e (fun m z => k m (h a z)) n
theorem Fx.ofN {H H' : Hp} (e : LamX.ExtN H H') (S : List Addr) : Fx S H H' := fun a o h _ n => e a o h n
theorem Fx.new {S : List Addr} {H H' : Hp} {p : Addr} {o : HO} (f : Fx S H H') (h : H p = none) : Fx S H (upd H' p o) := fun a u e k n => by
  rw [upd_ne (ne_of_none e h)]
  exact f a u e k n
theorem Fx.newer {S : List Addr} {H H' : Hp} {p : Addr} {o : HO} (f : Fx S H H') (h : H' p = none) : Fx S H (upd H' p o) := fun a u e k n => by
  have := f a u e k n
  rw [upd_ne (ne_of_none this h)]
  exact this
theorem Fx.set {S : List Addr} {H H' : Hp} {p : Addr} {o u : HO} (f : Fx S H H') (hp : p ∈ S) (h : H p = some u) (m : mutO u = true) : Fx S H (upd H' p o) := fun a v e k n => by
  by_cases z : a = p
  · subst z
    rw [h] at e
    cases e
    exact absurd hp (k m)
  · rw [upd_ne z]
    exact f a v e k n
theorem tbl_mut {o : HO} (m : mutO o = false) : ∀ ps, o ≠ .tbl ps := fun ps z => by rw [z] at m; cases m
theorem Fx.imm {S : List Addr} {H H' : Hp} {a : Addr} {o : HO} (f : Fx S H H') (h : H a = some o) (m : mutO o = false) : H' a = some o := f a o h (fun z => by rw [m] at z; cases z) (tbl_mut m)
/-- one more kept back: it was none of what stood -/
theorem Fx.less {S : List Addr} {H0 H H' : Hp} {p : Addr} (f : Fx (p :: S) H H') (g : Fx S H0 H) (hp : H0 p = none) : Fx S H0 H' := fun a o e k n => f a o (g a o e k n) (fun m z => by
  rcases List.mem_cons.mp z with q | q
  · exact ne_of_none e hp q
  · exact k m q) n
/-- p was put back -/
theorem Fx.back {S : List Addr} {H H' : Hp} {p : Addr} {o : HO} (f : Fx (p :: S) H H') (h : H p = some o) : Fx S H (upd H' p o) := fun a u e k n => by
  by_cases z : a = p
  · subst z
    rw [upd_same, ← e, h]
  · rw [upd_ne z]
    refine f a u e (fun m q => ?_) n
    rcases List.mem_cons.mp q with q | q
    · exact z q
    · exact k m q
section
variable {K : PySem.W.Frag} {S : List Addr} {H H' : Hp}
theorem MapAt.fx {a : Addr} {n : Nat} {l : Tbl} (m : MapAt K H a n l) (f : Fx S H H') : MapAt K H' a n l := let ⟨dx, ad, h1, h2⟩ := m; ⟨dx, ad, f.imm h1 rfl, f.imm h2 (mut_kz l)⟩
theorem EntAt.fx {x : V} {e : Str × Str} (m : EntAt H x e) (f : Fx S H H') : EntAt H' x e := let ⟨t, h1, h2⟩ := m; ⟨t, h1, f.imm h2 rfl⟩
theorem TabAt.fx {x : V} {l : Tbl} (m : TabAt H x l) (f : Fx S H H') : TabAt H' x l := let ⟨t, h1, h2⟩ := m; ⟨t, h1, f.imm h2 (mut_kz l)⟩
theorem MapV.fx {n : Nat} {x : V} {l : Tbl} (m : MapV K H n x l) (f : Fx S H H') : MapV K H' n x l := let ⟨t, h1, h2⟩ := m; ⟨t, h1, h2.fx f⟩
theorem PoolAt.fx {p : Addr} (m : PoolAt H p) (f : Fx S H H') (h : p ∉ S) : PoolAt H' p := let ⟨a, b, h1, h2⟩ := m; ⟨a, b, f _ _ h1 (fun _ => h) (fun _ z => by cases z), h2⟩
theorem SessD.fx {n : Nat} {pr lg ea : Addr} {tabs : List Tbl} {log : List (Str × Str)} (m : SessD K H n pr lg ea tabs log) (f : Fx S H H') : SessD K H' n pr lg ea tabs log :=
  let ⟨⟨xs, h1, h2⟩, ⟨ys, h3, h4⟩⟩ := m
  ⟨⟨xs, f.imm h1 rfl, pr_fr (fun _ _ z => z.fx f) h2⟩, ⟨ys, f.imm h3 rfl, pr_fr (fun _ _ z => z.fx f) h4⟩⟩
theorem SessAt.fx {s : Addr} {I : SI} {n : Nat} {tabs : List Tbl} {log : List (Str × Str)} (m : SessAt K H s I n tabs log) (f : Fx S H H') (h : s ∉ S) : SessAt K H' s I n tabs log :=
  let ⟨k, pr, lg, ea, h1, h2⟩ := m; ⟨k, pr, lg, ea, f _ _ h1 (fun _ => h) (fun _ z => by cases z), h2.fx f⟩
theorem ModD.fx {tl ll : Addr} {tabs : List Tbl} {log : List (Str × Str)} (m : ModD H tl ll tabs log) (f : Fx S H H') : ModD H' tl ll tabs log :=
  let ⟨⟨xs, h1, h2⟩, ⟨ys, h3, h4⟩⟩ := m
  ⟨⟨xs, f.imm h1 (mut_refs (refs_tab h2)), pr_fr (fun _ _ z => z.fx f) h2⟩, ⟨ys, f.imm h3 (mut_refs (refs_ent h4)), pr_fr (fun _ _ z => z.fx f) h4⟩⟩
theorem ModAt.fx {m : Addr} {n : Nat} {tabs : List Tbl} {log : List (Str × Str)} (k : ModAt H m n tabs log) (f : Fx S H H') (h : m ∉ S) : ModAt H' m n tabs log :=
  let ⟨tl, ll, h1, h2⟩ := k; ⟨tl, ll, f _ _ h1 (fun _ => h) (fun _ z => by cases z), h2.fx f⟩
theorem Cpl.fx {s m : Addr} {I : SI} {n b : Nat} (k : Cpl K H s m I n b) (f : Fx S H H') (hs : s ∉ S) (hm : m ∉ S) : Cpl K H' s m I n b :=
  let ⟨tabs, log, h1, h2, h3⟩ := k; ⟨tabs, log, h1.fx f hs, h2.fx f hm, h3⟩
end
/-! ### the three kinds of changing things differ -/
theorem pool_ne_ses {H : Hp} {p s : Addr} (hp : PoolAt H p) {C dx : Addr} {fs : List (Str × V)} (hs : H s = some (.ins C dx fs)) : p ≠ s := by
  obtain ⟨a, b, h, _⟩ := hp
  exact ne_of h hs (by intro z; cases z)
theorem pool_ne_mod {H : Hp} {p m : Addr} (hp : PoolAt H p) {kvs : List (Key × V)} (hm : H m = some (.dK kvs)) : p ≠ m := by
  obtain ⟨a, b, h, _⟩ := hp
  exact ne_of h hm (by intro z; cases z)
theorem ses_ne_mod {H : Hp} {s m : Addr} {C dx : Addr} {fs : List (Str × V)} {kvs : List (Key × V)} (hs : H s = some (.ins C dx fs)) (hm : H m = some (.dK kvs)) : s ≠ m := ne_of hs hm (by intro z; cases z)
end K74
end
-- K74Zg
section
set_option maxRecDepth 100000
set_option maxHeartbeats 4000000
/-! _law_caught of a lambda. -/
namespace K74
open PySem PySem.Spec PyProof.Rows L2
abbrev nCaught : List Str := ["_law_call", "e"]
theorem sc_caught : FnScope nCaught ["_law_call"] (defScope (top 50)) := ⟨rfl, rfl, rfl, by decide +kernel, rfl, by decide +kernel, by decide +kernel⟩
/-- what _law_caught makes of its call's reading -/
def TCaught (K : PySem.W.Frag) : (XK → Hp → VK → Prop) → Hp → VK → Prop := fun tl H Q =>
  tl (fun cls d H' => ∃ v dd, d = some dd ∧ H' dd = some (.xd [("user", v)]) ∧ ((cls = .ref (cNT K) ∧ ∀ p, H' p = none → Q (.ref p) (upd H' p (.lst [.str "nothing", v]))) ∨ (cls = .ref (cNL K) ∧ ∀ p, H' p = none → Q (.ref p) (upd H' p (.lst [.str "last", v]))))) H Q
theorem caught_gives {X : Cx} {g : Addr} {cdg : Value} {q : Str} (T : TX X.K X.mg) : LamX.GivesTo X nCaught "_law_caught" (defScope (top 50)) g cdg (defBody (top 50)) "_law_call" q (TCaught X.K) := by
  intro f c' s H Q tl act hc h
  obtain ⟨fnt, NT⟩ := T.nt
  obtain ⟨fnl, NL⟩ := T.nl
  refine ⟨_, pss_one (ps_try_manyAs (X := (cxOf C8.CX0 X.prog X.w X.K X.mg X.base nCaught "_law_caught" (defScope (top 50)) g cdg X.A X.stack s H C8.E0).nox) (i := 1) (n := "e")
      (tb := fun W D σ H => ∃ Ech : XK, (∀ cls d σ' H', Ech cls d H' → W cls d σ' H') ∧ σ[0]? = some (some (.ref f)) ∧ H c' = some (LamX.CodeO c' q) ∧ tl Ech H D.rt)
      rfl rfl sc_caught.nd rfl rfl LamX.takes0 (fun W pn xe tk _ => ?_)
      (.cons (c := .ref (cNT X.K)) ⟨rfl, by decide, .inl NT.gC⟩ (fun a oe cls d pn hz hf => pss_one (ps_ret (pe_lst (pa_cons pe_str (pa_cons (OwnNothingToUndo.pe_byLow NT hz hf (pv 1)) pa_nil)))))
        (.cons (c := .ref (cNL X.K)) ⟨rfl, by decide, .inl NL.gC⟩ (fun a oe cls d pn hz hf => pss_one (ps_ret (pe_lst (pa_cons pe_str (pa_cons (OwnNotLast.pe_byLow NL hz hf (pv 1)) pa_nil))))) .nil))), ?_⟩
  · refine ⟨fun pins s' σ H' D I h' => ?_⟩
    obtain ⟨Ech, hW, h1, h2, h3⟩ := h'
    exact (pss_one (ps_ret (act W pn xe Ech _ _ tk hW))).run pins s' σ H' D I ⟨h1, h2, h3⟩
  · refine ⟨_, fun cls d σ' H' hE hlen => ?_, rfl, hc, h⟩
    have hs : ∀ a : Addr, (List.set σ' 1 (some (V.ref a)))[1]? = some (some (V.ref a)) := fun a => by
      have hl : σ'.length = 2 := hlen
      rw [List.getElem?_set_self (by omega)]
    obtain ⟨v, dd, rfl, hdd, ⟨rfl, k⟩ | ⟨rfl, k⟩⟩ := hE
    · refine ⟨true, NT.te, fun _ a ha => ?_, fun z => nomatch z⟩
      exact ⟨_, hs a, rfl, rfl, dd, v, rfl, hdd, by show 2 ≤ sizeLine; decide, fun p hp => k p hp⟩
    · refine ⟨false, T.nlnt, (fun z => (nomatch z)), fun _ => ⟨true, NL.te, fun _ a ha => ?_, (fun z => (nomatch z))⟩⟩
      exact ⟨_, hs a, rfl, rfl, dd, v, rfl, hdd, by show 2 ≤ sizeLine; decide, fun p hp => k p hp⟩
end K74
end
-- K74Zh
section
set_option maxRecDepth 100000
set_option maxHeartbeats 4000000
/-! _law_undone. -/
namespace K74
open PySem PySem.Spec PyProof.Rows L2
/-- a def's code object, and its table of code objects -/
def cdA (K : PySem.W.Frag) (x : Str) : Addr := match K.lookup (He.ga K x) with
  | some ⟨_, _, .func fd, _⟩ => (match fd.code with | .ref c => c | _ => 0)
  | _ => 0
def tbA (K : PySem.W.Frag) (x : Str) : Addr := match K.lookup (cdA K x) with
  | some ⟨_, _, .fields vs, _⟩ => (match vs[11]? with | some (Value.ref a) => a | _ => 0)
  | _ => 0
def lamDefs : List (Nat × Str) := [(52, "_law_undone"), (57, "_law_plain"), (58, "_law_nested"), (59, "_law_broken"), (60, "_law_clones"), (61, "_law_refused")]
def lamT (K : PySem.W.Frag) : List (Addr × Str) := [(tbA K "_law_undone", "_law_undone.<locals>.<lambda>"), (tbA K "_law_plain", "_law_plain.<locals>._law_visit"), (tbA K "_law_nested", "_law_nested.<locals>._law_visit"),
  (tbA K "_law_broken", "_law_broken.<locals>._law_visit"), (tbA K "_law_clones", "_law_clones.<locals>._law_visit"), (tbA K "_law_refused", "_law_refused.<locals>._law_visit")]
/-- a def whose code object is known -/
def GFc (K : PySem.W.Frag) (mg : Str → Option Value) (x : Str) (st : Stmt) (c : Addr) : Prop := ∃ (f : Addr) (fd : FuncData), (∃ (oc : Value) (od : Option Addr) (kV doc pm : Value) (an : Option Addr) (ct : Value) (osl : Array (Option Value)),
  fd = PySem.W.fnOf x x (defArgs st) (defBody st) (defScope st) .none kV doc pm an (.ref c) ct ∧ K.lookup f = some ⟨oc, od, .func fd, osl⟩ ∧ PySem.W.codeIn K (.ref c) x = true) ∧ PySem.W.keepIn K (.ref f) = true ∧ mg x = some (.ref f)
structure TL (K : PySem.W.Frag) (mg : Str → Option Value) (base : Heap) : Prop extends TX K mg where
  fc : ∀ p ∈ lamDefs, GFc K mg p.2 (top p.1) (cdA K p.2)
  tb : ∀ p ∈ lamDefs, LamX.TabB base mg (cdA K p.2) (tbA K p.2)
  uq : ∀ p ∈ lamT K, ∀ q ∈ lamT K, p.1 = q.1 → p.2 = q.2
section
variable {P : Program} {w : World} {K : PySem.W.Frag} {mg : Str → Option Value} {base : Heap} {k : Nat} {x : Str} {ps : List Str} {sp : Sp}
/-- a def of known code, letting nothing out -/
theorem gcT_of {st : Stmt} {c : Addr} {N : List Str} (F : GFc K mg x st c) (S : FnScope N ps (defScope st)) (len : ∀ vs H Q E, sp vs H Q E → vs.length = ps.length)
    (hbody : ∀ (f : Addr) (A : Around) (outer : List Env) (s : Shared) (H : Hp) (vs : List V) (Q : VK) (E : XK), Room k (A.deeper (envOfC x (defScope st) s.heap.objs.size f (.ref c))) → sp vs H Q E →
      ∃ t, PSs (cxOf CX0 P w K mg base N x (defScope st) f (.ref c) A outer s H E).nox (defBody st) t ∧ t { nx := fun _ H' => Q .non H', rt := Q } (start N vs) H)
    (hb : ∀ (kV doc pm : Value) (an : Option Addr) (cdv ct : Value) (us : List Value), us.length = ps.length → bindArgs (PySem.W.fnOf x x (defArgs st) (defBody st) (defScope st) .none kV doc pm an cdv ct) ⟨us, []⟩ = pure (ps.zip us)) : GC P w K mg base CX0 (k + 1) x ps sp := by
  obtain ⟨f, fd, ⟨oc, od, kV, doc, pm, an, ct, osl, rfl, lk, hcd⟩, kp, hm⟩ := F
  refine ⟨f, _, fn_of lk hcd S len fun A outer s H vs Q E hr hsp => ?_, hm, kp, .all (hb kV doc pm an (.ref c) ct)⟩
  obtain ⟨t, h, q⟩ := hbody f A outer s H vs Q E hr hsp
  exact ⟨t, h.nox, q⟩
theorem tabs_fr {L : List (Addr × Str)} {S : List Addr} {H H' : Hp} (T : LamX.Tabs L H) (f : Fr S H H') (hS : ∀ a ∈ S, ∀ ps, H a ≠ some (.tbl ps)) : LamX.Tabs L H' := fun p hp => by
  obtain ⟨ps, h1, h2, h3⟩ := T p hp
  refine ⟨ps, f _ _ h1 fun _ z => hS _ z ps h1, h2, fun pos cv hc => ?_⟩
  obtain ⟨c, e1, e2⟩ := h3 pos cv hc
  exact ⟨c, e1, f.imm e2 rfl⟩
theorem users_str : ∀ u ∈ users, PyData.strOk u = true := by decide +kernel
theorem two_str {a u : Str} (ha : PyData.strOk a = true) (h : PyData.strOk u = true) : SeqAt.shaped (.list [.str a, .str u]) = true := by
  unfold SeqAt.shaped
  rw [Bool.and_eq_true_iff]
  refine ⟨by simp [PyData.canLay0, PyData.canLayAll0, ha, h], decide_eq_true (by simp [PyData.depth, PyData.depthAll])⟩
theorem eqv_nilL (log : List (Str × Str)) : PyData.eqv (.list (logD log)) (.list []) = log.isEmpty := by
  cases log with
  | nil => rfl
  | cons e r => rfl
def spUndone (K : PySem.W.Frag) : Sp := fun vs H Q _ => ∃ (s m : Addr) (I : SI) (n b : Nat) (u : Str), vs = [.ref s, .ref m, .str u] ∧ Cpl K H s m I n b ∧ b ≤ 1000 ∧ u ∈ users ∧ LamX.Tabs (lamT K) H ∧
  ∀ H', Fx [s, m] H H' → Cpl K H' s m I n b → LamX.Tabs (lamT K) H' → Q (.bl true) H'
abbrev nUndone : List Str := ["_law_session", "_law_model_here", "_law_user_here", "_law_told", "_law_last"]
theorem sc_undone : FnScope nUndone ["_law_session", "_law_model_here", "_law_user_here"] (defScope (top 52)) := ⟨rfl, rfl, rfl, by decide +kernel, rfl, by decide +kernel, by decide +kernel⟩
theorem g_undone (T : TL K mg base) : GC P w K mg base CX0 8 "_law_undone" ["_law_session", "_law_model_here", "_law_user_here"] (spUndone K) := by
  obtain ⟨fg, fdg, Fg, hmg⟩ := T.fn 50 (by decide)
  have bg := Fg.binds (ps := ["_law_call"]) fun _ _ _ _ _ _ us hl => match us, hl with | [_], _ => rfl
  have kg := Fg.kp
  obtain ⟨oc, od, kV, doc, pm, an, cdv, ct, osl, rfl, lk, hcd⟩ := Fg.ex
  have GM := k_Map (P := P) (w := w) (base := base) T.toTxt
  have GE := m_eq (P := P) (w := w) (base := base) T.toTxt
  refine gcT_of (T.fc (52, "_law_undone") (by decide +kernel)) sc_undone (fun vs H Q E h => ?_) (fun f A outer s H vs Q E hr h => ?_) fun _ _ _ _ _ _ us hl => match us, hl with | [_, _, _], _ => rfl
  · obtain ⟨_, _, _, _, _, _, rfl, _⟩ := h
    rfl
  · obtain ⟨a, m, I, n, b, u, rfl, ⟨tabs, log, hs, hm, hh⟩, hb, hu, hT, k⟩ := h
    have nd := sc_undone.nd
    have hh' := L2H.roomH_of hr
    have hu1 := huH hh'
    have hu64 := huH64 hh'
    have S := T.toTxt.sc hs.1
    have GU := m_undo (P := P) (w := w) (base := base) T.toTX S
    refine ⟨_, pss_cons (ps_set (i := 3) nd rfl (Or.inl rfl) (LamX.pe_lamcall (k := 4) (T := lamT K) (t := fun E => tMeth I.C "undo" (spUndo K I.C) [] E (tVar 0) (tCons (tVar 2) tNil)) rfl hmg kg lk hcd bg sc_caught rfl (.inl rfl) (caught_gives T.toTX) (T.tb (52, "_law_undone") (by decide +kernel)) rfl (List.Mem.head _) (fun p hp e => T.uq p hp _ (List.Mem.head _) e) (hr.mono (by decide))
        (LamX.lamS_by (sc := defScope (top 52)) (by decide +kernel)) rfl (fun _ _ _ _ _ => rfl) (fun A' outer' s' H' E' f' c' hr' => pe_mc (pv 0) S.cf.cl GU hr' (passes_n (takes_of rfl rfl rfl rfl) fun _ _ _ _ e => e) (pa_cons (pv 2) pa_nil))))
      (pss_cons (ps_if (pt_cmpR (op_eqD hu64) (pe_dget hu1 (pv 1) pe_str (fun _ _ => rfl)) (pe_lst pa_nil) (nomark _)) (pss_one (ps_ret (pe_cmpR (op_eqD hu64) (pv 3) (pe_lst (pa_cons pe_str (pa_cons (pv 2) pa_nil))) (nomark _)))) pss_nil)
      (pss_cons (ps_set (i := 4) nd rfl (Or.inl rfl) (pe_ix ix_tup (pe_ix ix_list (pe_dget hu1 (pv 1) pe_str (fun _ _ => rfl)) (pe_un un_neg pe_int) (fun _ _ => rfl)) pe_int (fun _ _ => rfl)))
      (pss_cons (ps_if (pt_cmpR op_ne (pv 4) (pv 2) (nomark _)) (pss_one (ps_ret (pe_cmpR (op_eqD hu64) (pv 3) (pe_lst (pa_cons pe_str (pa_cons (pv 4) pa_nil))) (nomark _)))) pss_nil)
      (pss_cons (ps_dput hu1 (pv 1) pe_str (pe_slice sl_list (pe_dget hu1 (pv 1) pe_str (fun _ _ => rfl)) po_none (po_some (pe_un un_neg pe_int))) rfl)
      (pss_cons (ps_dput hu1 (pv 1) pe_str (pe_slice sl_list (pe_dget hu1 (pv 1) pe_str (fun _ _ => rfl)) po_none (po_some (pe_un un_neg pe_int))) rfl)
      (pss_one (ps_ret (pe_cmpR (op_eqI (C' := cM K) GE T.eqM (.inl rfl) hh') (pv 3) (pe_mk GM (.inl rfl) hh' (pa_cons (pe_dget hu1 (pv 1) pe_str (fun _ _ => rfl)) (pa_cons (pe_ix ix_list (pe_dget hu1 (pv 1) pe_str (fun _ _ => rfl)) (pe_un un_neg pe_int) (fun _ _ => rfl)) pa_nil))) (nomark _))))))))), ?_⟩
    refine ⟨hT, fun H1 eN T1 => ?_⟩
    have f1 : Fx [] H H1 := Fx.ofN eN []
    obtain ⟨pr, lg, ea, si, hsa, sd⟩ := hs.sesI
    have h1 := f1 _ _ hsa (fun _ => by simp) (fun _ z => by cases z)
    refine ⟨_, rfl, a, I.dx, _, rfl, h1, fs_none I pr lg ea _, _, rfl, ?_⟩
    obtain ⟨tl, ll, hmm, ⟨⟨tx, htl, ptl⟩, ⟨ly, hll, pll⟩⟩⟩ := id hm
    have hm1 := f1 _ _ hmm (fun _ => by simp) (fun _ z => by cases z)
    have ham : a ≠ m := ses_ne_mod hsa hmm
    have mtl := mut_refs (refs_tab ptl)
    have mll := mut_refs (refs_ent pll)
    -- where nothing was undone
    have still : ∀ (w0 x0 : Str), PyData.strOk w0 = true → PyData.strOk x0 = true → ∀ H2, Fr [] H1 H2 → ∀ p, H2 p = some (.lst [.str w0, .str x0]) → ∀ y, y = V.str x0 → ∀ q, H2 q = none →
        rEqD K (.ref p) (.ref q) (upd H2 q (.lst [.str w0, y])) Q := fun w0 x0 hw0 hx0 H2 f2 p hp y hy q hq => by
      subst hy
      have npq : p ≠ q := ne_of_none hp hq
      refine ⟨.list [.str w0, .str x0], .list [.str w0, .str x0], .lst (SqL.of ((upd_ne npq).trans hp)) (.cons (.str _) (.cons (.str _) .nil)), .lst (SqL.of upd_same) (.cons (.str _) (.cons (.str _) .nil)), two_str hw0 hx0, two_str hw0 hx0, ?_⟩
      rw [SeqAt.eqv_refl _ (SeqAt.canLay_of_shaped (two_str hw0 hx0))]
      have f3 : Fr [] H1 (upd H2 q (.lst [.str w0, .str x0])) := f2.newer hq
      have g3 : Fx [] H (upd H2 q (.lst [.str w0, .str x0])) := f1.trans f3.fx
      exact k _ (g3.mono (by simp)) ⟨tabs, log, hs.fx g3 (by simp), hm.fx g3 (by simp), hh⟩ (tabs_fr T1 f3 (by simp))
    refine ⟨a, I, n, b, u, tabs, log, rfl, rfl, hs.fx f1 (by simp), hh, hb, hu, fun hlog H2 d f2 hd0 hd => ?_, fun log' e hlog hne H2 d f2 hd0 hd => ?_, fun log' e tabs' l l0 hlog heu htabs H2 q f2 s2 mq => ?_⟩
    · refine ⟨.str u, d, rfl, hd, .inl ⟨rfl, fun p hp => ?_⟩⟩
      have f3 : Fr [] H1 (upd H2 p (.lst [.str "nothing", .str u])) := f2.newer hp
      have hp3 : (upd H2 p (.lst [.str "nothing", .str u])) p = some (.lst [.str "nothing", .str u]) := upd_same
      generalize upd H2 p (.lst [.str "nothing", .str u]) = H3 at f3 hp3 ⊢
      have g3 := f1.trans f3.fx
      have hm3 := f3 _ _ hm1 fun _ => by simp
      refine ⟨_, rfl, m, _, rfl, mdl_log hm3, by show 0 ≤ sizeLine; decide, fun p0 hp0 => ?_⟩
      have f4 : Fr [] H1 (upd H3 p0 (.lst [])) := f3.newer hp0
      have g4 := f1.trans f4.fx
      refine ⟨.list (logD log), .list [], .lst (SqL.of (g4.imm hll mll)) (logD_at (pr_fr (fun _ _ z => z.fx g4) pll)), .lst (SqL.of upd_same) .nil, logD_shaped hh.ent, by decide, ?_⟩
      rw [eqv_nilL, hlog]
      refine ⟨_, rfl, iteT ⟨_, rfl, _, rfl, by show 2 ≤ sizeLine; decide, fun q hq => ?_⟩⟩
      exact still "nothing" u (by decide +kernel) (users_str u hu) _ f4 p ((upd_ne (ne_of_none hp3 hp0)).trans hp3) _ rfl q hq
    · refine ⟨.str e.1, d, rfl, hd, .inr ⟨rfl, fun p hp => ?_⟩⟩
      have f3 : Fr [] H1 (upd H2 p (.lst [.str "last", .str e.1])) := f2.newer hp
      have hp3 : (upd H2 p (.lst [.str "last", .str e.1])) p = some (.lst [.str "last", .str e.1]) := upd_same
      generalize upd H2 p (.lst [.str "last", .str e.1]) = H3 at f3 hp3 ⊢
      have hm3 := f3 _ _ hm1 fun _ => by simp
      refine ⟨_, rfl, m, _, rfl, mdl_log hm3, by show 0 ≤ sizeLine; decide, fun p0 hp0 => ?_⟩
      have f4 : Fr [] H1 (upd H3 p0 (.lst [])) := f3.newer hp0
      have g4 := f1.trans f4.fx
      refine ⟨.list (logD log), .list [], .lst (SqL.of (g4.imm hll mll)) (logD_at (pr_fr (fun _ _ z => z.fx g4) pll)), .lst (SqL.of upd_same) .nil, logD_shaped hh.ent, by decide, ?_⟩
      rw [eqv_nilL, show log.isEmpty = false by rw [hlog]; cases log' <;> rfl]
      refine ⟨_, rfl, iteF ?_⟩
      have hm4 := f4 _ _ hm1 fun _ => by simp
      obtain ⟨ly', yl, rfl, hly'⟩ := last_snoc (l := ly) (n := log'.length) (by rw [Paired.length pll, hlog]; simp)
      rw [hlog] at pll
      obtain ⟨_, e', he', _, te, rfl, hte⟩ := pr_snoc pll
      obtain ⟨rfl, he''⟩ := List.append_inj' he' rfl
      obtain rfl := (List.cons.inj he'').1
      refine ⟨_, rfl, m, _, rfl, mdl_log hm4, _, rfl, ll, _, _, _, rfl, rfl, SqL.of (g4.imm hll mll), atI_last _ _, te, _, 0, V.str e.1, rfl, rfl, SqT.of (g4.imm hte rfl), rfl, ?_⟩
      refine ⟨_, rfl, _, rfl, rfl, _, rfl, ?_⟩
      rw [decide_eq_false (show ¬ V.str e.1 = V.str u from fun z => hne (by cases z; rfl))]
      refine iteT ⟨_, rfl, _, rfl, by show 2 ≤ sizeLine; decide, fun q hq => ?_⟩
      exact still "last" e.1 (by decide +kernel) (hh.ent _ (by rw [hlog]; simp)).1 _ f4 p ((upd_ne (ne_of_none hp3 hp0)).trans hp3) _ rfl q hq
    · have g2 : Fx [a] H H2 := (f1.mono (by simp)).trans f2.fx
      have T2 : LamX.Tabs (lamT K) H2 := tabs_fr T1 f2 fun b hb ps z => by
        rw [List.mem_singleton.mp hb, h1] at z
        cases z
      have hm2 := g2 _ _ hmm (fun _ => by simp; exact ham.symm) (fun _ z => by cases z)
      refine ⟨_, rfl, m, _, rfl, mdl_log hm2, by show 0 ≤ sizeLine; decide, fun p0 hp0 => ?_⟩
      have g3 : Fx [a] H (upd H2 p0 (.lst [])) := g2.newer hp0
      have F3 : Fr [] H2 (upd H2 p0 (.lst [])) := Fr.refl.newer hp0
      have hp03 : (upd H2 p0 (.lst [])) p0 = some (.lst []) := upd_same
      generalize upd H2 p0 (.lst []) = H3 at g3 F3 hp03 ⊢
      have hm3 := F3 _ _ hm2 fun _ => by simp
      refine ⟨.list (logD log), .list [], .lst (SqL.of (g3.imm hll mll)) (logD_at (pr_fr (fun _ _ z => z.fx g3) pll)), .lst (SqL.of hp03) .nil, logD_shaped hh.ent, by decide, ?_⟩
      rw [eqv_nilL, show log.isEmpty = false by rw [hlog]; cases log' <;> rfl]
      refine ⟨_, rfl, iteF ?_⟩
      obtain ⟨ly', yl, rfl, hly'⟩ := last_snoc (l := ly) (n := log'.length) (by rw [Paired.length pll, hlog]; simp)
      have pll0 := pll
      rw [hlog] at pll
      obtain ⟨_, e', he', pl', te, rfl, hte⟩ := pr_snoc pll
      obtain ⟨rfl, he''⟩ := List.append_inj' he' rfl
      obtain rfl := (List.cons.inj he'').1
      refine ⟨_, rfl, m, _, rfl, mdl_log hm3, _, rfl, ll, _, _, _, rfl, rfl, SqL.of (g3.imm hll mll), atI_last _ _, te, _, 0, V.str e.1, rfl, rfl, SqT.of (g3.imm hte rfl), rfl, ?_⟩
      refine ⟨_, rfl, _, rfl, rfl, _, rfl, ?_⟩
      rw [decide_eq_true (show V.str e.1 = V.str u by rw [heu])]
      refine iteF ?_
      -- the model's tables
      obtain ⟨tx', xl, rfl, htx'⟩ := last_snoc (l := tx) (n := tabs'.length + 1) (by rw [Paired.length ptl, htabs]; simp)
      rw [htabs, show tabs' ++ [l0, l] = (tabs' ++ [l0]) ++ [l] by simp] at ptl
      obtain ⟨_, l', hl', pt', xt, rfl, hxt⟩ := pr_snoc ptl
      obtain ⟨rfl, hl''⟩ := List.append_inj' hl' rfl
      obtain ⟨c1, _⟩ := cut_last tx' (V.ref xt)
      refine ⟨_, rfl, m, _, rfl, mdl_tables hm3, _, rfl, _, rfl, tl, _, rfl, SqL.of (g3.imm htl mtl), fun tl2 htl2 => ?_⟩
      rw [c1]
      have nm2 : m ≠ tl2 := ne_of_none hm3 htl2
      refine ⟨_, rfl, m, _, rfl, DPut.k (k := Sum.inr "tables") ((upd_ne nm2).trans hm3) (by show 3 < sizeLine; decide), ?_⟩
      rw [show putK (mdl n tl ll) (Sum.inr "tables") (V.ref tl2) = mdl n tl2 ll from rfl]
      have g4 : Fx [a, m] H (upd (upd H3 tl2 (.lst tx')) m (.dK (mdl n tl2 ll))) := ((g3.mono (by simp)).newer htl2).set (by simp) hmm rfl
      have F4 : Fr [m] H2 (upd (upd H3 tl2 (.lst tx')) m (.dK (mdl n tl2 ll))) := ((F3.mono (by simp)).newer htl2).set (by simp) hm2 rfl
      have hm4 : (upd (upd H3 tl2 (.lst tx')) m (.dK (mdl n tl2 ll))) m = some (.dK (mdl n tl2 ll)) := upd_same
      have ht4 : (upd (upd H3 tl2 (.lst tx')) m (.dK (mdl n tl2 ll))) tl2 = some (.lst tx') := (upd_ne nm2.symm).trans upd_same
      generalize upd (upd H3 tl2 (.lst tx')) m (.dK (mdl n tl2 ll)) = H4 at g4 F4 hm4 ht4 ⊢
      obtain ⟨d1, _⟩ := cut_last ly' (V.ref te)
      refine ⟨_, rfl, m, _, rfl, mdl_log hm4, _, rfl, _, rfl, ll, _, rfl, SqL.of (g4.imm hll mll), fun ll2 hll2 => ?_⟩
      rw [d1]
      have nm4 : m ≠ ll2 := ne_of_none hm4 hll2
      have nt4 : tl2 ≠ ll2 := ne_of_none ht4 hll2
      refine ⟨_, rfl, m, _, rfl, DPut.k (k := Sum.inr "log") ((upd_ne nm4).trans hm4) (by show 3 < sizeLine; decide), ?_⟩
      rw [show putK (mdl n tl2 ll) (Sum.inr "log") (V.ref ll2) = mdl n tl2 ll2 from rfl]
      have g5 : Fx [a, m] H (upd (upd H4 ll2 (.lst ly')) m (.dK (mdl n tl2 ll2))) := (g4.newer hll2).set (by simp) hmm rfl
      have F5 : Fr [m] H2 (upd (upd H4 ll2 (.lst ly')) m (.dK (mdl n tl2 ll2))) := (F4.newer hll2).set (by simp) hm2 rfl
      have hm5 : (upd (upd H4 ll2 (.lst ly')) m (.dK (mdl n tl2 ll2))) m = some (.dK (mdl n tl2 ll2)) := upd_same
      have ht5 : (upd (upd H4 ll2 (.lst ly')) m (.dK (mdl n tl2 ll2))) tl2 = some (.lst tx') := (upd_ne nm2.symm).trans ((upd_ne nt4).trans ht4)
      have hl5 : (upd (upd H4 ll2 (.lst ly')) m (.dK (mdl n tl2 ll2))) ll2 = some (.lst ly') := (upd_ne nm4.symm).trans upd_same
      generalize upd (upd H4 ll2 (.lst ly')) m (.dK (mdl n tl2 ll2)) = H5 at g5 F5 hm5 ht5 hl5 ⊢
      -- told == Map(..)
      obtain ⟨tx'', x0, rfl, htx''⟩ := last_snoc (l := tx') (n := tabs'.length) (by rw [Paired.length pt']; simp)
      obtain ⟨_, l0', hl0', pt'', xt0, rfl, hxt0⟩ := pr_snoc pt'
      obtain ⟨rfl, hl0''⟩ := List.append_inj' hl0' rfl
      obtain rfl := (List.cons.inj hl0'').1
      have gal : GA n l0 := hh.ga _ (by rw [htabs]; simp)
      have n1 := hh.n1
      have n5 := hh.n5
      refine ⟨_, rfl, _, rfl, m, _, rfl, mdl_size hm5, ?_⟩
      refine ⟨_, rfl, m, _, rfl, mdl_tables hm5, _, rfl, tl2, _, _, _, rfl, rfl, SqL.of ht5, atI_last _ _, ?_⟩
      refine mk_mapV (K := K) (l := l0) (g5.imm hxt0 (mut_kz l0)) gal.toGood n1 (by omega) fun H6 r f6 hr0 mr => ?_
      rw [canon_self gal] at mr
      have mq6 := (mq.fr F5).fr f6
      obtain ⟨dxa, ada, ha1, ha2⟩ := id mq6
      obtain ⟨dxb, adb, hb1, hb2⟩ := id mr
      refine ⟨q, r, dxa, dxb, _, _, rfl, rfl, ha1, hb1, q, r, n, l0, rfl, mq6, mr, gal.src, true, rfl, ?_⟩
      have g6 := g5.trans (f6.mono (by simp)).fx
      refine k H6 g6 ⟨tabs' ++ [l0], log', s2.fr (S := [m]) (F5.trans (f6.mono (by simp))) (by simp; exact ham), ⟨tl2, ll2, f6 _ _ hm5 (fun _ => by simp), ⟨⟨_, f6.imm ht5 (mut_refs (refs_tab pt')), pr_fr (fun _ _ z => z.fx g6) pt'⟩, ⟨_, f6.imm hl5 (mut_refs (refs_ent pl')), pr_fr (fun _ _ z => z.fx g6) pl'⟩⟩⟩, ?_⟩ ?_
      · refine ⟨n1, n5, ?_, ?_, fun x hx => hh.ga _ (by rw [htabs]; simp at hx ⊢; rcases hx with h | h <;> simp [h]), fun x hx => hh.ent _ (by rw [hlog]; simp [hx])⟩
        · have := hh.len
          rw [htabs, hlog] at this
          simp at this ⊢
          omega
        · have := hh.le
          rw [hlog] at this
          simp at this
          omega
      · refine tabs_fr T2 (F5.trans (f6.mono (by simp))) fun b hb ps z => ?_
        rw [List.mem_singleton.mp hb, hm2] at z
        cases z
end
end K74
end
-- K74Zi
section
set_option maxRecDepth 100000
set_option maxHeartbeats 4000000
/-! _law_act. -/
namespace K74
open PySem PySem.Spec PyProof.Rows L2
def acts : List Str := ["apply", "power", "steps"]
def act (d : Nat) : Str := acts.getD d "steps"
theorem act_ok (d : Nat) : PyData.strOk (act d) = true := by
  rcases d with _ | _ | _ | d
  · decide +kernel
  · decide +kernel
  · decide +kernel
  · show PyData.strOk "steps" = true
    decide +kernel
/-- any law session: what it keeps at least is nothing -/
def SI.Free (I : SI) : Prop := ∀ k, I.least = some k → k = 0
theorem SessAt.two {K : PySem.W.Frag} {H : Hp} {s : Addr} {I : SI} {n : Nat} {tabs : List Tbl} {log : List (Str × Str)} (h : SessAt K H s I n tabs log) : I.C = cS K ∨ I.C = cK K := h.1.two
theorem StepAt.lst {H : Hp} {x : V} {st : Step} {D : Addr} {ys : List V} {o : HO} (m : StepAt H x st) (h : H D = some (.lst ys)) : StepAt (upd H D o) x st := let ⟨t, h1, h2⟩ := m; ⟨t, h1, by rw [upd_ne (ne_of h2 h (by intro z; cases z))]; exact h2⟩
section
variable {P : Program} {w : World} {K : PySem.W.Frag} {mg : Str → Option Value} {base : Heap}
def spAct (K : PySem.W.Frag) : Sp := fun vs H Q _ => ∃ (p s m : Addr) (I : SI) (n b : Nat) (u : Str), vs = [.ref p, .ref s, .ref m, .str u] ∧ PoolAt H p ∧ Cpl K H s m I n b ∧ b < 1000 ∧ I.Free ∧ u ∈ users ∧
  ∀ H', Fr [p, s, m] H H' → PoolAt H' p → Cpl K H' s m I n (b + 1) → Q (.bl true) H'
abbrev nAct : List Str := ["_law_pool", "_law_session", "_law_model_here", "_law_user_here", "_law_size", "_law_table", "_law_way", "_law_factor", "_law_later", "_law_told", "_law_exponent", "_law_moves", "_law_step_here", "_law_turn"]
theorem sc_act : FnScope nAct ["_law_pool", "_law_session", "_law_model_here", "_law_user_here"] (defScope (top 51)) := ⟨rfl, rfl, rfl, by decide +kernel, rfl, by decide +kernel, by decide +kernel⟩
theorem g_act (T : TL K mg base) (NA : ∀ C, C = cS K ∨ C = cK K → NX P w K mg base C) : GC P w K mg base CX0 12 "_law_act" ["_law_pool", "_law_session", "_law_model_here", "_law_user_here"] (spAct K) := by
  have GM := k_Map (P := P) (w := w) (base := base) T.toTxt
  have GE := m_eq (P := P) (w := w) (base := base) T.toTxt
  have GD := g_draw (P := P) (w := w) (base := base) T.toTxt
  have GAr := g_arrows (P := P) (w := w) (base := base) T.toTxt
  have GPr := g_product (P := P) (w := w) (base := base) T.toTxt
  have GPw := g_law_power (P := P) (w := w) (base := base) T.toTxt
  have GSt := g_law_step (P := P) (w := w) (base := base) T.toTxt
  have GSd := g_stepped (P := P) (w := w) (base := base) T.toTxt
  refine gc0_of (T.fn 51 (by decide)) sc_act (fun vs H Q E h => ?_) (fun f cdv A outer s H vs Q E hr h => ?_) fun _ _ _ _ _ _ us hl => match us, hl with | [_, _, _, _], _ => rfl
  · obtain ⟨_, _, _, _, _, _, _, rfl, _⟩ := h
    rfl
  · obtain ⟨p, a, m, I, n, b, u, rfl, hp, ⟨tabs, log, hs, hm, hh⟩, hb, hfree, hu, k⟩ := h
    have nd := sc_act.nd
    have hh' := L2H.roomH_of hr
    have hu1 := huH hh'
    have S := T.toTxt.sc hs.1
    have NX' := NA I.C hs.two
    have G1 := m_apply (P := P) (w := w) (base := base) T.toTX S NX'
    have G2 := m_raise_to (P := P) (w := w) (base := base) T.toTX S NX'
    have G3 := m_do_steps (P := P) (w := w) (base := base) T.toTX S NX'
    refine ⟨_, pss_cons (ps_asg (pe_tup (pa_cons (pe_dget hu1 (pv 2) pe_str (fun _ _ => rfl)) (pa_cons (pe_ix ix_list (pe_dget hu1 (pv 2) pe_str (fun _ _ => rfl)) (pe_un un_neg pe_int) (fun _ _ => rfl)) pa_nil))) (pg_tup rfl (pgs_cons (pg_name (i := 4) nd rfl (Or.inr rfl)) (pgs_cons (pg_name (i := 5) nd rfl (Or.inl rfl)) pgs_nil))))
      (pss_cons (ps_set (i := 6) nd rfl (Or.inl rfl) (pe_gc GD hr pass0 (pa_cons (pv 0) (pa_cons pe_int pa_nil))))
      (C8.pss_cut (ps_if (pt_cmpR op_eq (pv 6) pe_int (nomark _))
          (pss_cons (ps_set (i := 7) nd rfl (Or.inl rfl) (pe_gc GAr hr pass0 (pa_cons (pv 0) (pa_cons (pv 4) pa_nil))))
          (pss_one (ps_par (i := 8) (j := 9) rfl nd rfl rfl (by decide) rfl rfl (pa_cons (pe_gc GPr hr pass0 (pa_cons (pv 5) (pa_cons (pv 7) pa_nil))) (pa_cons (pe_mc (pv 1) S.cf.cl G1 hr pass0 (pa_cons (pv 3) (pa_cons (pe_mk GM (.inl rfl) hh' (pa_cons (pv 4) (pa_cons (pv 7) pa_nil))) pa_nil))) pa_nil)) (by rfl))))
          (pss_one (ps_if (pt_cmpR op_eq (pv 6) pe_int (nomark _))
            (pss_cons (ps_set (i := 10) nd rfl (Or.inl rfl) (pe_op op_sub (pe_gc GD hr pass0 (pa_cons (pv 0) (pa_cons pe_int pa_nil))) pe_int))
            (pss_one (ps_par (i := 8) (j := 9) rfl nd rfl rfl (by decide) rfl rfl (pa_cons (pe_gc GPw hr pass0 (pa_cons (pv 5) (pa_cons (pv 4) (pa_cons (pv 10) pa_nil)))) (pa_cons (pe_mc (pv 1) S.cf.cl G2 hr pass0 (pa_cons (pv 3) (pa_cons (pv 10) pa_nil))) pa_nil)) (by rfl))))
            (pss_cons (ps_par (i := 11) (j := 8) rfl nd rfl rfl (by decide) rfl rfl (pa_cons (pe_lc (own := [("_law_turn", 13)]) (g := gName 13) (tt := tYes) rfl nd (pi_range1 rfl (T.z "range") (pa_cons (pe_gc GD hr pass0 (pa_cons (pv 0) (pa_cons pe_int pa_nil))) pa_nil)) (blkOk_by (own := [("_law_turn", 13)]) (N := nAct) (sc := defScope (top 51)) (by decide +kernel))
                (fun _ _ _ _ _ => pg_name (i := 13) nd rfl (Or.inl rfl)) (fun _ _ _ _ _ => pts_nil) (fun _ _ _ _ _ => pe_gc (k := 11) GSt hr pass0 (pa_cons (pv 0) (pa_cons (pv 4) pa_nil)))) (pa_cons (pv 5) pa_nil)) (by rfl))
            (pss_cons (ps_for PassesOwn.never rfl (pi_list (pv 11)) (pg_name (i := 12) nd rfl (Or.inl rfl)) (pss_one (ps_set (i := 8) nd rfl (Or.inl rfl) (pe_gc GSd hr pass0 (pa_cons (pv 8) (pa_cons (pv 12) pa_nil))))))
            (pss_one (ps_set (i := 9) nd rfl (Or.inl rfl) (pe_mc (pv 1) S.cf.cl G3 hr passN (pa_cons (pv 3) (pa_cons (pv 11) pa_nil))))))))))
      (pss_cons (ps_dput hu1 (pv 2) pe_str (pe_op op_cat (pe_dget hu1 (pv 2) pe_str (fun _ _ => rfl)) (pe_lst (pa_cons (pv 8) pa_nil))) rfl)
      (pss_cons (ps_dput hu1 (pv 2) pe_str (pe_op op_cat (pe_dget hu1 (pv 2) pe_str (fun _ _ => rfl)) (pe_lst (pa_cons (pe_tup (pa_cons (pv 3) (pa_cons (pe_ix ix_list (pe_lst (pa_cons pe_str (pa_cons pe_str (pa_cons pe_str pa_nil)))) (pv 6) (fun _ _ => rfl)) pa_nil))) pa_nil))) rfl)
      (pss_one (ps_ret (pe_cmpR (op_eqI (C' := cM K) GE T.eqM (.inl rfl) hh') (pv 9) (pe_mk GM (.inl rfl) hh' (pa_cons (pv 4) (pa_cons (pv 8) pa_nil))) (nomark _)))))))), ?_⟩
    obtain ⟨pr, lg, ea, si, hsa, sd⟩ := hs.sesI
    obtain ⟨tabs', l, rfl, mp⟩ := sd.present
    obtain ⟨tl, ll, hmm, ⟨⟨tx, htl, ptl⟩, ⟨ly, hll, pll⟩⟩⟩ := id hm
    have mtl := mut_refs (refs_tab ptl)
    have mll := mut_refs (refs_ent pll)
    obtain ⟨tx', xl, rfl, htx'⟩ := last_snoc (l := tx) (n := tabs'.length) (by rw [Paired.length ptl]; simp)
    have ptl0 := ptl
    obtain ⟨_, l', hl', pt', tp, rfl, htp⟩ := pr_snoc ptl
    obtain ⟨rfl, hl''⟩ := List.append_inj' hl' rfl
    obtain rfl := (List.cons.inj hl'').1
    have gal : GA n l := hh.ga _ (by simp)
    have n1 := hh.n1
    have n5 := hh.n5
    have hpa : p ≠ a := pool_ne_ses hp hsa
    have hpm : p ≠ m := pool_ne_mod hp hmm
    have ham : a ≠ m := ses_ne_mod hsa hmm
    have hlog := hh.le
    have mk := mut_kz l
    refine ⟨_, rfl, m, _, rfl, mdl_size hmm, _, rfl, m, _, rfl, mdl_tables hmm, _, rfl, tl, _, _, _, rfl, rfl, SqL.of htl, atI_last _ _, by show 2 ≤ sizeLine; decide, fun t0 ht0 => ?_⟩
    refine ⟨t0, _, rfl, SqT.of upd_same, rfl, _, _, rfl, _, _, rfl, rfl, ?_⟩
    have f1 : Fr [p] H (upd H t0 (.tup [V.int n, V.ref tp])) := Fr.refl.newer ht0
    have hp1 : PoolAt (upd H t0 (.tup [V.int n, V.ref tp])) p := hp.fr (S := []) (Fr.refl.newer ht0) (by simp)
    generalize upd H t0 (.tup [V.int n, V.ref tp]) = H1 at f1 hp1 ⊢
    refine ⟨_, rfl, p, 3, rfl, hp1, by decide, by decide, fun H2 d f2 hp2 hd => ?_⟩
    have f12 := f1.trans f2
    have hsx : ∀ {H' : Hp}, Fr [p] H H' → SessAt K H' a I n (tabs' ++ [l]) log := fun f => hs.fr f (by simp; exact hpa.symm)
    have hax : ∀ {H' : Hp}, Fr [p] H H' → H' a = some (.ins I.C I.dx (I.fs pr lg ea)) := fun f => f _ _ hsa fun _ => by simp; exact hpa.symm
    have hle : ∀ (l2 : Tbl) (k : Nat), I.least = some k → k ≤ l2.length := fun l2 k h => by have := hfree k h; omega
    refine ⟨fun σ' H' => ∃ ld q lt x7 x10 x11 x12 x13, σ' = [some (.ref p), some (.ref a), some (.ref m), some (.str u), some (.int n), some (.ref tp), some (.int (d : Nat)), x7, some (.ref ld), some (.ref q), x10, x11, x12, x13] ∧ Fr [p, a] H H' ∧ PoolAt H' p ∧
      H' ld = some (.dK (kz lt)) ∧ GA n lt ∧ SessAt K H' a I n (tabs' ++ [l] ++ [lt]) (log ++ [(u, act d)]) ∧ MapAt K H' q n lt, ?_, ?_⟩
    · refine ⟨_, rfl, rfl, _, rfl, ?_⟩
      rcases (show d = 0 ∨ d = 1 ∨ d = 2 by omega) with rfl | rfl | rfl
      · rw [decide_eq_true (show V.int ((0 : Nat) : Int) = V.int 0 from rfl)]
        refine iteT ⟨_, rfl, _, rfl, p, n, rfl, hp2, n1, by omega, fun H3 df lf f3 hp3 hdf0 hdf gaf => ?_⟩
        have f13 := f12.trans f3
        have ndf : tp ≠ df := ne_of_none (f12.imm htp mk) hdf0
        refine ⟨_, rfl, _, rfl, tp, df, n, l, lf, rfl, f13.imm htp mk, hdf, ndf, gal.toGood, by omega, fun H4 v f4 hv0 hv => ?_⟩
        have f14 := f13.trans (f4.mono (by simp))
        refine ⟨_, rfl, a, I.dx, _, rfl, hax f14, fs_none I pr lg ea _, _, rfl, _, rfl, _, rfl, ?_⟩
        refine mk_mapV (K := K) (l := lf) (f4.imm hdf (mut_kz lf)) gaf.toGood n1 (by omega) fun H5 b5 f5 hb0 mb => ?_
        rw [canon_self gaf] at mb
        have f15 := f14.trans (f5.mono (by simp))
        refine ⟨a, b5, I, n, b, l, lf, u, tabs', log, rfl, rfl, hsx f15, hh, by omega, hu, mb, gaf.toGood, hle _, fun H6 q f6 s6 mq => ?_⟩
        refine ⟨_, _, rfl, v, q, prodT l lf, _, _, _, _, _, rfl, (f15.mono (by simp)).trans (f6.mono (by simp)), (hp3.fr ((f4.trans f5).mono (S' := [a]) (by simp) |>.trans f6) (by simp; exact hpa)), ?_, prod_ga gal gaf.toGood, s6, mq⟩
        exact f6.imm (f5.imm hv (mut_kz _)) (mut_kz _)
      · rw [decide_eq_false (show ¬ V.int ((1 : Nat) : Int) = V.int 0 from fun z => by have := V.int.inj z; omega)]
        refine iteF ⟨_, rfl, rfl, _, rfl, ?_⟩
        rw [decide_eq_true (show V.int ((1 : Nat) : Int) = V.int 1 from rfl)]
        refine iteT ⟨_, rfl, p, 9, rfl, hp2, by decide, by decide, fun H3 e f3 hp3 he => ?_⟩
        have f13 := f12.trans f3
        refine ⟨_, _, rfl, rfl, ?_⟩
        refine ⟨_, rfl, _, rfl, _, rfl, tp, n, (e : Int) - 4, l, rfl, f13.imm htp mk, gal.toGood, by omega, by omega, by omega, fun H4 v f4 hv0 hv => ?_⟩
        have f14 := f13.trans (f4.mono (by simp))
        refine ⟨_, rfl, a, I.dx, _, rfl, hax f14, fs_none I pr lg ea _, _, rfl, _, rfl, a, I, n, b, (e : Int) - 4, l, u, tabs', log, rfl, rfl, hsx f14, hh, by omega, hu, by omega, by omega, hle _, fun H6 q f6 s6 mq => ?_⟩
        refine ⟨_, _, rfl, v, q, powE n l ((e : Int) - 4), _, _, _, _, _, rfl, (f14.mono (by simp)).trans (f6.mono (by simp)), (hp3.fr (f4.mono (S' := [a]) (by simp) |>.trans f6) (by simp; exact hpa)), f6.imm hv (mut_kz _), powE_ga gal.toGood _, s6, mq⟩
      · rw [decide_eq_false (show ¬ V.int ((2 : Nat) : Int) = V.int 0 from fun z => by have := V.int.inj z; omega)]
        refine iteF ⟨_, rfl, rfl, _, rfl, ?_⟩
        rw [decide_eq_false (show ¬ V.int ((2 : Nat) : Int) = V.int 1 from fun z => by have := V.int.inj z; omega)]
        refine iteF ⟨_, rfl, p, 4, rfl, hp2, by decide, by decide, fun H3 c f3 hp3 hc => ?_⟩
        have f13 := f12.trans f3
        refine ⟨c, rfl, by omega, by omega, fun D hD => ?_⟩
        rw [Int.toNat_natCast]
        have nDp : D ≠ p := fun z => hp3.some (by rw [← z]; exact hD)
        refine lc_it walk_rg0 (fun i H' => ∃ xs sts, H' D = some (.lst xs) ∧ Paired (StepAt H') xs sts ∧ StepsOk n sts ∧ xs.length = i ∧ PoolAt H' p ∧ Fr [p] H3 H') ?_ (fun _ _ _ _ => trivial) ?_ ?_
        · exact ⟨[], [], upd_same, .nil, (fun _ h => absurd h (by simp)), rfl, hp3.fr (S := []) (Fr.refl.newer hD) (by simp), Fr.refl.newer hD⟩
        · rintro i _ _ H4 hi ⟨xs, sts, q1, q2, q3, q4, q5, q6⟩ ⟨rfl, rfl⟩
          refine ⟨rfl, _, rfl, _, rfl, p, n, rfl, q5, n1, by omega, fun H5 t st f5 hp5 ht0 ht hok => ?_⟩
          have hD5 := f5.imm q1 (mut_refs (refs_step q2))
          refine ⟨_, hD5, by rw [q4]; exact small1000 (by omega), xs ++ [.ref t], sts ++ [st], upd_same, ?_, fun x hx => ?_, by simp [q4], ?_, ?_⟩
          · refine pr_append (pr_fr (fun _ _ z => (z.fr f5).lst hD5) q2) (.cons ⟨t, rfl, ?_⟩ .nil)
            rw [upd_ne (ne_of ht hD5 (by intro z; cases z))]
            exact ht
          · rcases List.mem_append.mp hx with h | h
            · exact q3 x h
            · rw [List.mem_singleton.mp h]
              exact hok
          · obtain ⟨a', b', h, r1, r2, r3⟩ := hp5
            exact ⟨a', b', by rw [upd_ne nDp.symm]; exact h, r1, r2, r3⟩
          · exact (q6.trans f5).new hD
        · rintro H4 ⟨xs, sts, q1, q2, q3, q4, q5, q6⟩
          have f14 := f13.trans q6
          have mD := mut_refs (refs_step q2)
          refine ⟨_, rfl, _, _, rfl, ?_⟩
          refine ⟨_, rfl, D, rfl, ⟨_, SqL.of q1⟩, ?_⟩
          refine for_it (walk_list (xs := xs)) (fun i σ H' => ∃ ld x12, σ = [some (.ref p), some (.ref a), some (.ref m), some (.str u), some (.int n), some (.ref tp), some (.int ((2 : Nat) : Int)), none, some (.ref ld), none, none, some (.ref D), x12, none] ∧ H' ld = some (.dK (kz (stepsT l (sts.take i)))) ∧ Fr [] H4 H') ?_ ?_ ?_ ?_
          · exact ⟨tp, _, rfl, f14.imm htp mk, Fr.refl⟩
          · rintro i σ H' _ ⟨_, _, _, _, fr⟩
            exact SqL.of (fr.imm q1 mD)
          · rintro i x σ _ H5 hi ⟨ld, x12, rfl, hld, fr⟩ ⟨rfl, hx⟩
            obtain ⟨st, hst, t, rfl, ht⟩ := pr_get' q2 hx
            have hsl : i < sts.length := (List.getElem?_eq_some_iff.mp hst).1
            have htk : stepsT l (sts.take (i + 1)) = steppedT (stepsT l (sts.take i)) st := by
              unfold stepsT
              rw [List.take_succ_eq_append_getElem hsl, List.foldl_append, (List.getElem?_eq_some_iff.mp hst).2]
              rfl
            have gi : GA n (stepsT l (sts.take i)) := steps_ga gal fun y hy => q3 y (List.mem_of_mem_take hy)
            refine ⟨_, rfl, _, rfl, ld, t, n, _, st, rfl, hld, fr.imm ht rfl, gi.toGood, by omega, q3 _ (List.mem_of_getElem? hst), fun H6 v f6 hv0 hv => ?_⟩
            exact ⟨v, _, rfl, by rw [htk]; exact hv, fr.trans f6⟩
          · rintro σ H5 ⟨ld, x12, rfl, hld, fr⟩
            rw [show sts.take xs.length = sts by rw [Paired.length q2, List.take_length]] at hld
            have f15 := f14.trans (fr.mono (by simp))
            refine ⟨_, rfl, a, I.dx, _, rfl, hax f15, fs_none I pr lg ea _, _, rfl, _, rfl, a, D, I, n, b, l, u, tabs', log, xs, sts, rfl, rfl, hsx f15, hh, by omega, hu, fr.imm q1 mD, pr_fr (fun _ _ z => z.fr fr) q2, q3, fun _ H6 q f6 s6 mq => ?_, fun k0 h0 hlt => absurd (hfree k0 h0) (by omega)⟩
            exact ⟨ld, q, stepsT l sts, _, _, _, _, _, rfl, (f15.mono (by simp)).trans (f6.mono (by simp)), (q5.fr ((fr.mono (S' := [a]) (by simp)).trans f6) (by simp; exact hpa)), f6.imm hld (mut_kz _), steps_ga gal q3, s6, mq⟩
    · rintro σ' H3 ⟨ld, q, lt, x7, x10, x11, x12, x13, rfl, fr, hp3, hld, gat, s3, mq⟩
      have hm3 := fr _ _ hmm fun _ => by simp; exact ⟨hpm.symm, ham.symm⟩
      have hz1000 := small1000 (Nat.le_refl 1000)
      -- the tables
      refine ⟨_, rfl, m, _, rfl, mdl_tables hm3, _, rfl, by show 1 ≤ sizeLine; decide, fun L hL => ?_⟩
      have nmL : m ≠ L := ne_of_none hm3 hL
      have htl3 := fr.imm htl mtl
      have ntL : tl ≠ L := ne_of_none htl3 hL
      have htlen : (tx' ++ [V.ref tp]).length = log.length + 1 := by rw [Paired.length ptl0]; exact hh.len
      refine ⟨tl, L, _, _, rfl, rfl, (upd_ne ntL).trans htl3, upd_same, by rw [htlen]; show log.length + 1 + 1 ≤ sizeLine; omega, fun t2 ht2 => ?_⟩
      have hm3' := (upd_ne (o := HO.lst [V.ref ld]) nmL).trans hm3
      have nm2 : m ≠ t2 := ne_of_none hm3' ht2
      refine ⟨_, rfl, m, _, rfl, DPut.k (k := Sum.inr "tables") ((upd_ne nm2).trans hm3') (by show 3 < sizeLine; decide), ?_⟩
      rw [show putK (mdl n tl ll) (Sum.inr "tables") (V.ref t2) = mdl n t2 ll from rfl]
      have F4 : Fr [m] H3 (upd (upd (upd H3 L (.lst [V.ref ld])) t2 (.lst (tx' ++ [V.ref tp] ++ [V.ref ld]))) m (.dK (mdl n t2 ll))) := ((Fr.refl.newer hL).newer ht2).set (by simp) hm3 rfl
      have hm4 : (upd (upd (upd H3 L (.lst [V.ref ld])) t2 (.lst (tx' ++ [V.ref tp] ++ [V.ref ld]))) m (.dK (mdl n t2 ll))) m = some (.dK (mdl n t2 ll)) := upd_same
      have ht4 : (upd (upd (upd H3 L (.lst [V.ref ld])) t2 (.lst (tx' ++ [V.ref tp] ++ [V.ref ld]))) m (.dK (mdl n t2 ll))) t2 = some (.lst (tx' ++ [V.ref tp] ++ [V.ref ld])) := (upd_ne nm2.symm).trans upd_same
      generalize upd (upd (upd H3 L (.lst [V.ref ld])) t2 (.lst (tx' ++ [V.ref tp] ++ [V.ref ld]))) m (.dK (mdl n t2 ll)) = H4 at F4 hm4 ht4 ⊢
      -- the log
      have hll4 := F4.imm (fr.imm hll mll) mll
      refine ⟨_, rfl, m, _, rfl, mdl_log hm4, _, rfl, by show 3 ≤ sizeLine; decide, fun L3 hL3 => ?_⟩
      have hat : atI [V.str "apply", V.str "power", V.str "steps"] ((d : Nat) : Int) = some (V.str (act d)) := by
        rcases (show d = 0 ∨ d = 1 ∨ d = 2 by omega) with rfl | rfl | rfl <;> rfl
      refine ⟨_, rfl, L3, _, _, _, rfl, rfl, SqL.of upd_same, hat, by show 2 ≤ sizeLine; decide, fun te hte => ?_⟩
      refine ⟨by show 1 ≤ sizeLine; decide, fun L4 hL4 => ?_⟩
      have u1 : ∀ q0 o, H4 q0 = some o → (upd (upd (upd H4 L3 (.lst [V.str "apply", V.str "power", V.str "steps"])) te (.tup [V.str u, V.str (act d)])) L4 (.lst [V.ref te])) q0 = some o := fun q0 o e => by
        have e1 := (upd_ne (o := HO.lst [V.str "apply", V.str "power", V.str "steps"]) (ne_of_none e hL3)).trans e
        have e2 := (upd_ne (o := HO.tup [V.str u, V.str (act d)]) (ne_of_none e1 hte)).trans e1
        exact (upd_ne (ne_of_none e2 hL4)).trans e2
      have htL : te ≠ L4 := ne_of_none upd_same hL4
      have e5 : (upd (upd (upd H4 L3 (.lst [V.str "apply", V.str "power", V.str "steps"])) te (.tup [V.str u, V.str (act d)])) L4 (.lst [V.ref te])) te = some (.tup [V.str u, V.str (act d)]) := (upd_ne htL).trans upd_same
      have e6 : (upd (upd (upd H4 L3 (.lst [V.str "apply", V.str "power", V.str "steps"])) te (.tup [V.str u, V.str (act d)])) L4 (.lst [V.ref te])) L4 = some (.lst [V.ref te]) := upd_same
      generalize upd (upd (upd H4 L3 (.lst [V.str "apply", V.str "power", V.str "steps"])) te (.tup [V.str u, V.str (act d)])) L4 (.lst [V.ref te]) = H5 at u1 e5 e6 ⊢
      have hlylen := Paired.length pll
      refine ⟨ll, L4, _, _, rfl, rfl, u1 _ _ hll4, e6, by rw [hlylen]; show log.length + 1 ≤ sizeLine; omega, fun l2 hl2 => ?_⟩
      have hm5 := u1 _ _ hm4
      have nml : m ≠ l2 := ne_of_none hm5 hl2
      refine ⟨_, rfl, m, _, rfl, DPut.k (k := Sum.inr "log") ((upd_ne nml).trans hm5) (by show 3 < sizeLine; decide), ?_⟩
      rw [show putK (mdl n t2 ll) (Sum.inr "log") (V.ref l2) = mdl n t2 l2 from rfl]
      have F6 : Fr [m] H3 (upd (upd H5 l2 (.lst (ly ++ [V.ref te]))) m (.dK (mdl n t2 l2))) := ((F4.trans fun q0 o e _ => u1 q0 o e).newer hl2).set (by simp) hm3 rfl
      have hm6 : (upd (upd H5 l2 (.lst (ly ++ [V.ref te]))) m (.dK (mdl n t2 l2))) m = some (.dK (mdl n t2 l2)) := upd_same
      have nt2 : t2 ≠ l2 := ne_of_none (u1 _ _ ht4) hl2
      have nt2m : t2 ≠ m := ne_of ht4 hm4 (by intro z; cases z)
      have ht6 : (upd (upd H5 l2 (.lst (ly ++ [V.ref te]))) m (.dK (mdl n t2 l2))) t2 = some (.lst (tx' ++ [V.ref tp] ++ [V.ref ld])) := (upd_ne nt2m).trans ((upd_ne nt2).trans (u1 _ _ ht4))
      have hl6 : (upd (upd H5 l2 (.lst (ly ++ [V.ref te]))) m (.dK (mdl n t2 l2))) l2 = some (.lst (ly ++ [V.ref te])) := (upd_ne nml.symm).trans upd_same
      have he6 : (upd (upd H5 l2 (.lst (ly ++ [V.ref te]))) m (.dK (mdl n t2 l2))) te = some (.tup [V.str u, V.str (act d)]) := (upd_ne (ne_of e5 hm5 (by intro z; cases z))).trans ((upd_ne (ne_of_none e5 hl2)).trans e5)
      generalize upd (upd H5 l2 (.lst (ly ++ [V.ref te]))) m (.dK (mdl n t2 l2)) = H6 at F6 hm6 ht6 hl6 he6 ⊢
      refine ⟨_, rfl, _, rfl, _, rfl, ?_⟩
      refine mk_mapV (K := K) (l := lt) (F6.imm hld (mut_kz lt)) gat.toGood n1 (by omega) fun H7 r f7 hr0 mr => ?_
      rw [canon_self gat] at mr
      have mq7 := (mq.fr F6).fr f7
      obtain ⟨dxa, ada, ha1, ha2⟩ := id mq7
      obtain ⟨dxb, adb, hb1, hb2⟩ := id mr
      refine ⟨q, r, dxa, dxb, _, _, rfl, rfl, ha1, hb1, q, r, n, lt, rfl, mq7, mr, gat.src, true, rfl, ?_⟩
      have F7 : Fr [m] H3 H7 := F6.trans (f7.mono (by simp))
      have g7 : Fr [p, a, m] H H7 := (fr.mono (by simp)).trans (F7.mono (by simp))
      refine k H7 g7 (hp3.fr F7 (by simp; exact hpm)) ⟨_, _, s3.fr F7 (by simp; exact ham), ⟨t2, l2, f7 _ _ hm6 (fun _ => by simp), ⟨⟨_, f7 _ _ ht6 (fun _ => by simp), pr_append (pr_fr (fun _ _ z => z.fr g7) ptl0) (.cons ⟨ld, rfl, F7.imm hld (mut_kz lt)⟩ .nil)⟩, ⟨_, f7 _ _ hl6 (fun _ => by simp), pr_append (pr_fr (fun _ _ z => z.fr g7) pll) (.cons ⟨te, rfl, f7.imm he6 rfl⟩ .nil)⟩⟩⟩, n1, n5, ?_, ?_, fun x hx => ?_, fun x hx => ?_⟩
      · have := hh.len
        simp at this ⊢
        omega
      · simp
        omega
      · rcases List.mem_append.mp hx with h | h
        · exact hh.ga _ h
        · rw [List.mem_singleton.mp h]; exact gat
      · rcases List.mem_append.mp hx with h | h
        · exact hh.ent _ h
        · rw [List.mem_singleton.mp h]; exact ⟨users_str u hu, act_ok d⟩
end
end K74
end
-- K74Zj
section
set_option maxRecDepth 100000
set_option maxHeartbeats 4000000
/-! _law_turns. -/
namespace K74
open PySem PySem.Spec PyProof.Rows L2
section
variable {P : Program} {w : World} {K : PySem.W.Frag} {mg : Str → Option Value} {base : Heap}
theorem Cpl.sesN {H : Hp} {s m : Addr} {I : SI} {n b : Nat} (k : Cpl K H s m I n b) : ∃ pr lg ea, H s = some (.ins I.C I.dx (I.fs pr lg ea)) := let ⟨_, _, hs, _⟩ := k; let ⟨_, pr, lg, ea, h, _⟩ := hs; ⟨pr, lg, ea, h⟩
theorem Cpl.modN {H : Hp} {s m : Addr} {I : SI} {n b : Nat} (k : Cpl K H s m I n b) : ∃ tl ll, H m = some (.dK (mdl n tl ll)) := let ⟨_, _, _, hm, _⟩ := k; let ⟨tl, ll, h, _⟩ := hm; ⟨tl, ll, h⟩
/-- none of the three is a table -/
theorem no_tbl {H : Hp} {p s m : Addr} {I : SI} {n b : Nat} (hp : PoolAt H p) (k : Cpl K H s m I n b) : ∀ a ∈ [p, s, m], ∀ ps, H a ≠ some (.tbl ps) := fun a ha ps z => by
  obtain ⟨pr, lg, ea, hs⟩ := k.sesN
  obtain ⟨tl, ll, hm⟩ := k.modN
  obtain ⟨x, y, h, _⟩ := hp
  simp at ha
  rcases ha with rfl | rfl | rfl
  · rw [h] at z; cases z
  · rw [hs] at z; cases z
  · rw [hm] at z; cases z
theorem Cpl.le {H : Hp} {s m : Addr} {I : SI} {n b c : Nat} (k : Cpl K H s m I n b) (h : b ≤ c) : Cpl K H s m I n c := let ⟨t, l, h1, h2, h3⟩ := k; ⟨t, l, h1, h2, { h3 with le := Nat.le_trans h3.le h }⟩
/-- the state of a law: the pool, one session and its model -/
structure Three (K : PySem.W.Frag) (H : Hp) (p s m : Addr) (I : SI) (n b : Nat) : Prop where
  pool : PoolAt H p
  cpl : Cpl K H s m I n b
  tabs : LamX.Tabs (lamT K) H
theorem Three.fr {H H' : Hp} {S : List Addr} {p s m : Addr} {I : SI} {n b : Nat} (t : Three K H p s m I n b) (f : Fr S H H') (hp : p ∉ S) (hs : s ∉ S) (hm : m ∉ S) (hS : ∀ a ∈ S, ∀ ps, H a ≠ some (.tbl ps)) : Three K H' p s m I n b :=
  ⟨t.pool.fr f hp, t.cpl.fr f hs hm, tabs_fr t.tabs f hS⟩
theorem Three.le {H : Hp} {p s m : Addr} {I : SI} {n b c : Nat} (t : Three K H p s m I n b) (h : b ≤ c) : Three K H p s m I n c := ⟨t.pool, t.cpl.le h, t.tabs⟩
theorem Three.ne {H : Hp} {p s m : Addr} {I : SI} {n b : Nat} (t : Three K H p s m I n b) : p ≠ s ∧ p ≠ m ∧ s ≠ m := by
  obtain ⟨pr, lg, ea, hs⟩ := t.cpl.sesN
  obtain ⟨tl, ll, hm⟩ := t.cpl.modN
  exact ⟨pool_ne_ses t.pool hs, pool_ne_mod t.pool hm, ses_ne_mod hs hm⟩
def spTurns (K : PySem.W.Frag) : Sp := fun vs H Q _ => ∃ (p s m : Addr) (I : SI) (n b c : Nat), vs = [.ref p, .ref s, .ref m, .int c] ∧ Three K H p s m I n b ∧ b + c ≤ 1000 ∧ I.Free ∧
  ∀ H', Fx [p, s, m] H H' → Three K H' p s m I n (b + c) → Q (.bl true) H'
abbrev nTurns : List Str := ["_law_pool", "_law_session", "_law_model_here", "_law_many", "_law_turn", "_law_user_here"]
theorem sc_turns : FnScope nTurns ["_law_pool", "_law_session", "_law_model_here", "_law_many"] (defScope (top 56)) := ⟨rfl, rfl, rfl, by decide +kernel, rfl, by decide +kernel, by decide +kernel⟩
theorem g_turns (T : TL K mg base) (NA : ∀ C, C = cS K ∨ C = cK K → NX P w K mg base C) : GC P w K mg base CX0 13 "_law_turns" ["_law_pool", "_law_session", "_law_model_here", "_law_many"] (spTurns K) := by
  have GD := g_draw (P := P) (w := w) (base := base) T.toTxt
  have GU := g_user (P := P) (w := w) (base := base) T.toTxt
  have GN := g_undone (P := P) (w := w) T
  have GA := g_act (P := P) (w := w) T NA
  have GS := g_shows (P := P) (w := w) (base := base) T.toTxt
  refine gc0_of (T.fn 56 (by decide)) sc_turns (fun vs H Q E h => ?_) (fun f cdv A outer s H vs Q E hr h => ?_) fun _ _ _ _ _ _ us hl => match us, hl with | [_, _, _, _], _ => rfl
  · obtain ⟨_, _, _, _, _, _, _, rfl, _⟩ := h
    rfl
  · obtain ⟨p, a, m, I, n, b, c, rfl, t3, hb, hfree, k⟩ := h
    have nd := sc_turns.nd
    have hh' := L2H.roomH_of hr
    refine ⟨_, pss_cons (ps_for PassesOwn.never rfl (pi_range1 rfl (T.z "range") (pa_cons (pv 3) pa_nil)) (pg_name (i := 4) nd rfl (Or.inl rfl))
        (pss_cons (ps_set (i := 5) nd rfl (Or.inl rfl) (pe_gc GU hr pass0 (pa_cons (pv 0) pa_nil)))
        (pss_cons (ps_if (pt_cmpR op_eq (pe_gc GD hr pass0 (pa_cons (pv 0) (pa_cons pe_int pa_nil))) pe_int (nomark _))
          (pss_one (ps_if (pt_not (pt_val (pe_gc GN hr pass0 (pa_cons (pv 1) (pa_cons (pv 2) (pa_cons (pv 5) pa_nil)))))) (pss_one (ps_ret pe_bl)) pss_nil))
          (pss_one (ps_if (pt_not (pt_val (pe_gc GA hr pass0 (pa_cons (pv 0) (pa_cons (pv 1) (pa_cons (pv 2) (pa_cons (pv 5) pa_nil))))))) (pss_one (ps_ret pe_bl)) pss_nil)))
        (pss_one (ps_if (pt_not (pt_val (pe_gg GS (.inl rfl) hh' (pa_cons (pv 1) (pa_cons (pv 2) pa_nil))))) (pss_one (ps_ret pe_bl)) pss_nil)))))
      (pss_one (ps_ret pe_bl)), ?_⟩
    refine ⟨_, rfl, c, rfl, by omega, by omega, ?_⟩
    refine for_it walk_rg0 (fun i σ H' => ∃ x4 x5, σ = [some (.ref p), some (.ref a), some (.ref m), some (.int c), x4, x5] ∧ Three K H' p a m I n (b + i) ∧ Fx [p, a, m] H H') ?_ (fun _ _ _ _ _ => trivial) ?_ ?_
    · exact ⟨_, _, rfl, t3, Fx.refl⟩
    · rintro i _ _ _ H1 hi ⟨x4, x5, rfl, t1, f1⟩ ⟨rfl, rfl⟩
      refine ⟨_, rfl, p, rfl, t1.pool, fun H2 u f2 hp2 hu => ?_⟩
      have nps : p ≠ a ∧ p ≠ m ∧ a ≠ m := t1.ne
      have T2 : Three K H2 p a m I n (b + i) := ⟨hp2, t1.cpl.fr f2 (by simp; exact nps.1.symm) (by simp; exact nps.2.1.symm), tabs_fr t1.tabs f2 fun x hx => no_tbl t1.pool t1.cpl x (by simp at hx ⊢; exact .inl hx)⟩
      refine ⟨_, rfl, p, 3, rfl, T2.pool, by decide, by decide, fun H3 d f3 hp3 hd => ?_⟩
      have T3 : Three K H3 p a m I n (b + i) := ⟨hp3, T2.cpl.fr f3 (by simp; exact nps.1.symm) (by simp; exact nps.2.1.symm), tabs_fr T2.tabs f3 fun x hx => no_tbl T2.pool T2.cpl x (by simp at hx ⊢; exact .inl hx)⟩
      have g3 : Fx [p, a, m] H H3 := f1.trans ((f2.trans f3).fx.mono (by simp))
      have iN : b + i + 1 = b + (i + 1) := by omega
      rcases Nat.eq_zero_or_pos d with rfl | hd0
      · refine ⟨rfl, _, rfl, ?_⟩
        rw [decide_eq_true (show V.int ((0 : Nat) : Int) = V.int 0 from rfl)]
        refine iteT ⟨_, rfl, _, rfl, _, rfl, a, m, I, n, b + i, u, rfl, T3.cpl, by omega, hu, T3.tabs, fun H4 f4 c4 t4 => ⟨_, rfl, ?_⟩⟩
        refine iteF ⟨_, rfl, _, rfl, a, m, I, n, b + i, rfl, c4, by omega, fun H5 f5 => ⟨_, rfl, ?_⟩⟩
        refine iteF ⟨_, _, rfl, ⟨(T3.pool.fx f4 (by simp; exact ⟨nps.1, nps.2.1⟩)).fr f5 (by simp), (c4.fr f5 (by simp) (by simp)).le (by omega), tabs_fr t4 f5 (by simp)⟩, (g3.trans (f4.mono (S' := [p, a, m]) (by simp))).trans (f5.fx.mono (S' := [p, a, m]) (by simp))⟩
      · refine ⟨rfl, _, rfl, ?_⟩
        rw [decide_eq_false (show ¬ V.int (d : Int) = V.int 0 from fun z => by have := V.int.inj z; omega)]
        refine iteF ⟨_, rfl, _, rfl, _, rfl, _, rfl, p, a, m, I, n, b + i, u, rfl, T3.pool, T3.cpl, by omega, hfree, hu, fun H4 f4 p4 c4 => ⟨_, rfl, ?_⟩⟩
        have t4 := tabs_fr T3.tabs f4 (no_tbl T3.pool T3.cpl)
        refine iteF ⟨_, rfl, _, rfl, a, m, I, n, b + i + 1, rfl, c4, by omega, fun H5 f5 => ⟨_, rfl, ?_⟩⟩
        refine iteF ⟨_, _, rfl, ⟨p4.fr f5 (by simp), iN ▸ (c4.fr f5 (by simp) (by simp)), tabs_fr t4 f5 (by simp)⟩, (g3.trans f4.fx).trans (f5.fx.mono (S' := [p, a, m]) (by simp))⟩
    · rintro σ H1 ⟨x4, x5, rfl, t1, f1⟩
      exact k H1 f1 t1
end
end K74
end
-- K74Zk
section
set_option maxRecDepth 100000
set_option maxHeartbeats 4000000
/-! KeepingSession. -/
namespace K74
open PySem PySem.Spec PyProof.Rows L2 NdefX
structure TK (P : Program) (K : PySem.W.Frag) (mg : Str → Option Value) (base : Heap) : Prop extends TL K mg base where
  kc : ∃ cc, (∃ f fd, FunS P K "__init__" "KeepingSession.__init__" (sub 39 0) (cK K) cc f fd ∧ Mk K (cK K) f) ∧ (∃ f fd, FunS P K "check_next" "KeepingSession.check_next" (sub 39 2) (cK K) cc f fd ∧ Meth K (cK K) "check_next" f)
  supI : ∃ f fd, Fun K "__init__" "Session.__init__" (sub 38 0) f fd ∧ SupOf K (cK K) (cK K) "__init__" f
  supN : ∃ f fd, Fun K "check_next" "Session.check_next" (sub 38 3) f fd ∧ SupOf K (cK K) (cK K) "check_next" f
theorem FunS.binds {P : Program} {K : PySem.W.Frag} {x qual : Str} {st : Stmt} {D cc f : Addr} {fd : FuncData} {ps : List Str} (F : FunS P K x qual st D cc f fd)
    (h : ∀ (kV doc pm : Value) (an : Option Addr) (cdv ct : Value) (us : List Value), us.length = ps.length → bindArgs (PySem.W.fnX x qual (defArgs st) (defBody st) (defScope st) [("__class__", cc)] .none kV doc pm an cdv ct) ⟨us, []⟩ = pure (ps.zip us)) : Binds K fd ps [] := by
  obtain ⟨oc, od, kV, doc, pm, an, cda, ct, osl, rfl, _⟩ := F.ex
  exact .all (h kV doc pm an _ ct)
section
variable {P : Program} {w : World} {K : PySem.W.Frag} {mg : Str → Option Value} {base : Heap}
def spNext0 (K : PySem.W.Frag) : Sp := fun vs H Q _ => ∃ (s b : Addr) (n : Nat) (l : Tbl), vs = [.ref s, .ref b] ∧ MapAt K H b n l ∧ Q .non H
theorem next_0 (T : Txt K mg) {f : Addr} {fd : FuncData} (F : Fun K "check_next" "Session.check_next" (sub 38 3) f fd) : FnOk P w K mg base CX0 2 f fd ["self", "later"] (spNext0 K) := by
  have G := g_check_map (P := P) (w := w) (base := base) T
  refine F.ok sc_next (fun vs H Q E h => ?_) fun cdv A outer s H vs Q E hr h => ?_
  · obtain ⟨_, _, _, _, rfl, _⟩ := h
    rfl
  · obtain ⟨a, b, n, l, rfl, mb, k⟩ := h
    refine ⟨_, pss_one (ps_expr (pe_gg G (.inl rfl) (L2H.roomH_of hr) (pa_cons (pv 1) pa_nil))), ?_⟩
    exact ⟨_, rfl, b, n, l, rfl, mb, k⟩
theorem ns_next : NScope ["self", "later", "__class__"] ["self", "later"] ["__class__"] (defScope (sub 39 2)) := nscope_by (by decide +kernel)
theorem next_K (T : TK P K mg base) : NX P w K mg base (cK K) := by
  obtain ⟨f0, fd0, F0, U⟩ := T.supN
  obtain ⟨cc, _, ⟨f, fd, F, M⟩⟩ := T.kc
  have G0 := (next_0 (P := P) (w := w) (base := base) T.toTxt F0).raw (F0.binds (ps := ["self", "later"]) fun _ _ _ _ _ _ us hl => match us, hl with | [_, _], _ => rfl) .nil
  have GL := m_len (P := P) (w := w) (base := base) T.toTxt
  obtain ⟨fI, TF⟩ := T.tf
  suffices z : MC P w K mg base (L2N.CX P w) (cK K) 4 "check_next" ["self", "later"] (spNext K (cK K)) from z.mono (by decide)
  refine ⟨f, fd, ?_, M, F.binds fun _ _ _ _ _ _ us hl => match us, hl with | [_, _], _ => rfl⟩
  refine fn_ofS (N := ["self", "later", "__class__"]) (ps := ["later"]) F ns_next rfl rfl rfl rfl (T.z "super") U G0 (by decide : 2 ≤ 3) (fun vs H Q E h => ?_) (fun cda A outer s H vs Q E hr h => ?_)
  · obtain ⟨_, _, _, _, _, _, _, _, rfl, _⟩ := h
    rfl
  · obtain ⟨a, b, I, n, l, pr, lg, ea, rfl, ok, hC, ha, mb, hl, k1, k2⟩ := h
    have hh := L2H.roomH_of hr
    have S := T.toTxt.sc ok
    have tk := L2N.takes_of (X := ncx (L2N.CX P w) P w K mg base ["self", "later", "__class__"] (nfOf "check_next" "KeepingSession.check_next" (sub 39 2) cc cda) f A outer s H E) rfl rfl rfl rfl
    rw [hC] at ha
    refine ⟨a, _, _, _, _, _, rfl, ha, pa_cons (pv 1) pa_nil, pss_one (ps_if (pt_cmpR op_lt (pe_callB (call_lenI GL (.inl rfl) hh) (by rfl) (T.z "len") PySem.boot_len (pa_cons (pv 1) pa_nil)) (pe_fld (pv 0) rfl) (nomark _))
      (pss_one (OwnTooFew.ps_raiseLow rfl TF hr tk (pa_cons (pe_callB (call_lenI GL (.inl rfl) hh) (by rfl) (T.z "len") PySem.boot_len (pa_cons (pv 1) pa_nil)) pa_nil))) pss_nil), ?_⟩
    obtain ⟨IC, idx, least⟩ := I
    have hC : IC = cK K := hC
    subst hC
    cases least with
    | none => exact absurd ok.symm T.neSK
    | some m =>
      obtain ⟨dxb, adb, hb1, hb2⟩ := id mb
      have l63 : (0 : Int) ≤ (l.length : Int) ∧ (l.length : Int) < 2 ^ 63 := by omega
      refine ⟨_, rfl, a, b, n, l, rfl, mb, ?_⟩
      refine ⟨_, rfl, b, dxb, _, rfl, hb1, b, n, l, rfl, mb, _, rfl, l63.1, l63.2, ?_⟩
      refine ⟨_, rfl, a, _, idx, _, _, rfl, ha, S.cf.cl, S.na _ (by decide +kernel), rfl, _, _, rfl, rfl, _, rfl, ?_⟩
      by_cases hlt : l.length < m
      · rw [decide_eq_true (by omega)]
        refine iteT ⟨_, rfl, b, dxb, _, rfl, hb1, b, n, l, rfl, mb, _, rfl, l63.1, l63.2, V.int l.length, rfl, fun d hd => ?_⟩
        exact k2 m rfl hlt _ d (Fr.refl.newer hd) hd upd_same
      · rw [decide_eq_false (by omega)]
        exact iteF (k1 (fun m' hm => by cases hm; omega) H Fr.refl)
def spKeepInit (K : PySem.W.Frag) : Sp := fun vs H Q _ => ∃ (x dx : Addr) (n m : Nat), vs = [.ref x, .int n, .int m] ∧ H x = some (.ins (cK K) dx []) ∧ 1 ≤ n ∧ n ≤ 300 ∧ m ≤ n ∧
  ∀ H' pr lg ea, SameX x H H' → H' x = some (.ins (cK K) dx ((SI.mk (cK K) dx (some m)).fs pr lg ea)) → MapAt K H' pr n (fullT n) → H' lg = some (.tup []) → H' ea = some (.tup []) → Q .non H'
abbrev nKeep : List Str := ["self", "size", "least", "__class__"]
theorem ns_keep : NScope nKeep ["self", "size", "least"] ["__class__"] (defScope (sub 39 0)) := nscope_by (by decide +kernel)
theorem kc_Keeping (T : TK P K mg base) : KC P w K mg base (cK K) 8 "KeepingSession" ["self", "size", "least"] (spKeepInit K) := by
  obtain ⟨f0, fd0, F0, U⟩ := T.supI
  obtain ⟨cc, ⟨f, fd, F, M⟩, _⟩ := T.kc
  have G0 := (ses_init (P := P) (w := w) (base := base) T.toTxt F0).raw (F0.binds (ps := ["self", "size"]) fun _ _ _ _ _ _ us hl => match us, hl with | [_, _], _ => rfl) .nil
  have GR := g_in_range (P := P) (w := w) (base := base) T.toTxt
  refine ⟨f, fd, ?_, M, F.binds fun _ _ _ _ _ _ us hl => match us, hl with | [_, _, _], _ => rfl, T.gK⟩
  refine fn_ofS (N := nKeep) (ps := ["size", "least"]) F ns_keep rfl rfl rfl rfl (T.z "super") U G0 (by decide : 7 ≤ 7) (fun vs H Q E h => ?_) (fun cda A outer s H vs Q E hr h => ?_)
  · obtain ⟨_, _, _, _, rfl, _⟩ := h
    rfl
  · obtain ⟨x, dx, n, m, rfl, hx, n1, n2, hm, k⟩ := h
    have hh := L2H.roomH_of hr
    refine ⟨x, _, _, _, _, _, rfl, hx, pa_cons (pv 1) pa_nil, pss_cons (ps_if (pt_not (pt_val (pe_gg GR (.inl rfl) hh (pa_cons (pv 2) (pa_cons pe_int (pa_cons (pv 1) pa_nil)))))) (pss_one ps_never) pss_nil) (pss_one (ps_fld (pv 0) (pv 2) rfl)), ?_⟩
    refine ⟨_, rfl, x, cK K, dx, n, rfl, T.scK, hx, n1, n2, fun H1 pr lg ea s1 hx1 mp hl he => ?_⟩
    refine ⟨_, rfl, _, rfl, m, 0, n, rfl, _, rfl, ?_⟩
    rw [decide_eq_true (show (0 : Int) ≤ (m : Int) by omega), decide_eq_true (show (m : Int) ≤ (n : Int) by omega)]
    refine iteF ⟨_, rfl, _, rfl, x, cK K, dx, _, rfl, hx1, T.fK.cl, T.nK _ (by decide +kernel), by show 3 < 1000; decide, ?_⟩
    have ne : ∀ q o, H1 q = some o → o ≠ .ins (cK K) dx [("own_present", .ref pr), ("own_log", .ref lg), ("own_earlier", .ref ea)] → q ≠ x := fun q o e z y => z (by rw [y, hx1] at e; exact (Option.some.inj e).symm)
    refine k _ pr lg ea (fun q o hq e => (upd_ne hq).trans (s1 q o hq e)) upd_same ?_ ((upd_ne (ne _ _ hl (by intro z; cases z))).trans hl) ((upd_ne (ne _ _ he (by intro z; cases z))).trans he)
    obtain ⟨dxp, ad, h1, h2⟩ := mp
    exact ⟨dxp, ad, (upd_ne (ne _ _ h1 (by intro z; have := (HO.ins.inj z).2.2; cases this))).trans h1, (upd_ne (ne _ _ h2 (by intro z; cases z))).trans h2⟩
theorem mk_keep (T : Txt K mg) {H : Hp} {n m : Nat} {Q : VK} (n1 : 1 ≤ n) (n2 : n ≤ 300) (hm : m ≤ n) (h : ∀ H' s dx, Fr [] H H' → H s = none → SessAt K H' s ⟨cK K, dx, some m⟩ n [fullT n] [] → Q (.ref s) H') :
    ∀ y dy, H y = none → H dy = none → dy ≠ y → spKeepInit K [.ref y, .int n, .int m] (upd (upd H dy (.own y)) y (.ins (cK K) dy [])) (fun v H2 => v = .non ∧ Q (.ref y) H2) E0 := fun y dy hy hdy ne =>
  ⟨y, dy, n, m, rfl, upd_same, n1, n2, hm, fun H' pr lg ea s hs mp hl he => ⟨rfl, h H' y dy (s.fr hy hdy []) hy ⟨rfl, pr, lg, ea, hs, ⟨⟨[], hl, .nil⟩, ⟨[], he, .cons ⟨pr, rfl, mp⟩ .nil⟩⟩⟩⟩⟩
theorem sc_freshK : FnScope ["self"] ["self"] (defScope (sub 39 3)) := ⟨rfl, rfl, rfl, by decide +kernel, rfl, by decide +kernel, by decide +kernel⟩
theorem fresh_K (T : TK P K mg base) : FX P w K mg base (cK K) := by
  have GS := p_size (P := P) (w := w) (base := base) T.toTxt
  have GK := kc_Keeping (P := P) (w := w) T
  suffices z : MC P w K mg base CX0 (cK K) 10 "fresh" ["self"] (spFresh K (cK K)) from z.mono (by decide)
  refine mc0_of T.freshK sc_freshK (fun vs H Q E h => ?_) (fun f cdv A outer s H vs Q E hr h => ?_) fun _ _ _ _ _ _ us hl => match us, hl with | [_], _ => rfl
  · obtain ⟨_, _, _, _, _, _, _, rfl, _⟩ := h
    rfl
  · obtain ⟨a, I, n, pr, lg, ea, l, rfl, hC, ok, ha, mp, n1, n5, hm, k⟩ := h
    have S := T.toTxt.sc ok
    refine ⟨_, pss_one (ps_ret (pe_kc GK hr (pa_cons (pe_pr (pe_fld (pv 0) rfl) T.fM.cl GS (.inl rfl) (L2H.roomH_of hr)) (pa_cons (pe_fld (pv 0) rfl) pa_nil)))), ?_⟩
    obtain ⟨dxa, ada, ha1, ha2⟩ := id mp
    obtain ⟨IC, idx, least⟩ := I
    have hC : IC = cK K := hC
    subst hC
    cases least with
    | none => exact absurd ok.symm T.neSK
    | some m =>
      refine ⟨_, rfl, a, _, idx, _, _, rfl, ha, S.cf.cl, S.na _ (by decide +kernel), rfl, pr, dxa, _, rfl, ha1, pr, n, l, rfl, mp, ?_⟩
      refine ⟨_, rfl, a, _, idx, _, _, rfl, ha, S.cf.cl, S.na _ (by decide +kernel), rfl, ?_⟩
      refine mk_keep T.toTxt n1 (by omega) (hm m rfl) fun H' t dx f1 ht hs => ?_
      obtain ⟨ok', pr', lg', ea', ht', _⟩ := hs
      exact k H' t dx pr' lg' ea' f1 ht ht'
end
end K74
end
-- K74Zl
section
set_option maxRecDepth 100000
set_option maxHeartbeats 4000000
/-! Session.attempt. -/
namespace K74
open PySem PySem.Spec PyProof.Rows L2 NdefX
open LamX (CodeO)
section
variable {X : Cx} {pins : List (Addr × Obj)} {σ : L2.St} {H : Hp} {s : Shared} {cl : List (Str × Addr)} {fr : List Str} {ws : List (Option V)}
theorem cells_later (C : CellsAt cl fr ws X.s_0.heap X.H_0) (hx : X.ex = []) (I : Inv X pins σ H s) : CellsAt cl fr ws s.heap H := by
  have kp : ∀ y c, cl.lookup y = some c → ∀ v, X.s_0.heap.IsCell c v → s.heap.IsCell c v := fun y c e v ⟨o, ho, hd⟩ => by
    obtain ⟨sl, q⟩ := I.base.any ho (C.all y c e).1 (by rw [hx]; simp)
    exact ⟨_, q, hd⟩
  refine ⟨C.len, fun y c e => ?_, C.inj, fun i y e => ?_⟩
  · obtain ⟨n, v, z⟩ := C.all y c e
    refine ⟨?_, v, kp y c e v z⟩
    obtain ⟨o, ho, _⟩ := z
    exact I.base.free c o ho n (by rw [hx]; simp)
  · obtain ⟨c, hc, hv⟩ := C.has i y e
    refine ⟨c, hc, fun v ev => ?_⟩
    obtain ⟨u, r, z⟩ := hv v ev
    exact ⟨u, r, kp y c hc _ z⟩
end
/-- g(e, ..), g a name that holds the function F at f -/
def tVisit (f : Addr) (F : NF) (ws : List (Option V)) (i : Nat) (sp : List (Option V) → Sp) (E : XK) (t : TA) : TE := fun σ H Q => σ[i]? = some (some (.ref f)) ∧ H f = some (FnO f F) ∧
  t σ H fun vs H1 => H1 f = some (FnO f F) ∧ H1 F.c = some (CodeO F.c F.qual) ∧ sp ws vs H1 Q E
section
variable {X : Cx} {CX : CXT} {F : NF} {f : Addr} {ps fr : List Str} {ws : List (Option V)} {sp : List (Option V) → Sp} {E : XK} {i j k : Nat} {x : Str} {p pos : Pos} {e : Expr} {es : List Expr} {t : TA}
theorem pe_visit (Fn : NOk X.prog X.w X.K X.mg X.base CX k f F ps fr sp) (C : CellsAt F.cl fr ws X.s_0.heap X.H_0) (hex : X.ex = []) (hr : Room j X.A) (hk : k ≤ j) (hx : Passes CX X E) (ha : PA X (e :: es) t) (hN : X.N[i]? = some x := by rfl)
    (hv : Vis X.env.scope x := by first | exact Or.inl rfl | exact Or.inr (Or.inl rfl) | exact Or.inr (Or.inr rfl)) (hd : (x == ("__debug__" : Str)) = false := by decide) (hcd : (x == ("__classdict__" : Str)) = false := by decide)
    (he : starEach (e :: es) X.env = (false, eval e X.env) :: starEach es X.env := by rfl) (hpl : (backTo pos (starEach es X.env)).any (·.1) = false := by rfl) :
    PE X (.Call (.Name x p) (e :: es) [] pos) (tVisit f F ws i sp E t) := by
  refine ⟨fun pins s σ H Q I h => ?_⟩
  obtain ⟨hs, hf, ht⟩ := h
  refine wpAny_Call_Name_kw (thn ((pe_var (pos := p) hN hv hd hcd).run pins s σ H (fun v H1 => v = .ref f ∧ H1 = H) I ⟨.ref f, hs, rfl, rfl⟩) fun u s1 ⟨v, H1, I1, r1, q1⟩ => ?_)
  obtain ⟨ev, eH⟩ := q1
  subst ev
  rw [eH] at I1
  obtain rfl : u = Value.ref f := r1
  refine PySem.W.callWith_F (first := []) (fnAt_of I1 hf) (thn (ha.run pos pins s1 σ H _ I1 ht) fun us s2 ⟨vs, H2, I2, r, h1, h2, q⟩ => ⟨fnAt_of I2 h1, ?_⟩) he hpl
  show wpAny _ _ (call (.ref f) us) _ _ _
  refine wpAny_call (codeAny_mono (Fn.run X.A X.stack s2 H2 us vs ws Q E (hr.mono hk) I2.env0 h1 h2 (cells_later C hex I2) r q) fun r s' hq => ?_)
  cases r with
  | error e => exact hx pins σ H2 s2 e s' I2 hq
  | ok fl =>
    cases fl with
    | ret u => exact I2.after hq
    | next => exact False.elim hq
    | brk => exact False.elim hq
    | cont => exact False.elim hq
end
/-- what attempt asks of the session and of the visitor -/
def spAtt (K : PySem.W.Frag) (f : Addr) (F : NF) (sp : Sp) : Sp := fun vs H Q E => ∃ (a : Addr) (I : SI) (pr lg ea : Addr), vs = [.ref a, .ref f] ∧ I.Ok K ∧ H a = some (.ins I.C I.dx (I.fs pr lg ea)) ∧ H f = some (FnO f F) ∧ H F.c = some (CodeO F.c F.qual) ∧
  ∀ H1 x dx, Fr [] H H1 → H x = none → H1 x = some (.ins (cT K) dx (trialFs a pr lg ea)) → H1 a = some (.ins I.C I.dx (I.fs pr lg ea)) →
    sp [.ref a] H1 (fun v H2 => spExit K [.ref x, .non, .non, .non] H2 (fun _ H4 => Q v H4) E0) (fun cls d H2 => ∀ σ : L2.St, wWith x (spExit K) (fun cls d _ H => E cls d H) cls d σ H2)
/-- the end of the with: the session as it was -/
theorem exit_ok {K : PySem.W.Frag} {H2 : Hp} {x dx a pr lg ea pr' lg' ea' : Addr} {I : SI} {u v t : V} {Q : VK} (hx : H2 x = some (.ins (cT K) dx (trialFs a pr lg ea))) (ok : I.Ok K) (ha : H2 a = some (.ins I.C I.dx (I.fs pr' lg' ea')))
    (q : Q .non (upd H2 a (.ins I.C I.dx (I.fs pr lg ea)))) : spExit K [.ref x, u, v, t] H2 Q E0 := ⟨x, dx, a, pr, lg, ea, pr', lg', ea', I, u, v, t, rfl, hx, ok, ha, q⟩
abbrev nAtt : List Str := ["self", "visitor", "session"]
theorem sc_att : FnScope nAtt ["self", "visitor"] (defScope (sub 38 10)) := ⟨rfl, rfl, rfl, by decide +kernel, rfl, by decide +kernel, by decide +kernel⟩
section
variable {P : Program} {w : World} {K : PySem.W.Frag} {mg : Str → Option Value} {base : Heap} {C : Addr}
theorem m_attempt (T : Txt K mg) (S : SC K C) {F : NF} {f : Addr} {fr : List Str} {sp : List (Option V) → Sp} {kv : Nat} (Fn : NOk P w K mg base (L2N.CX P w) kv f F ["_law_inner"] fr sp) (hkv : 2 ≤ kv) :
    ∃ fa fda, Meth K C "attempt" fa ∧ Binds K fda ["self", "visitor"] [] ∧ ∀ (A : Around) (outer : List Env) (s : Shared) (H : Hp) (us : List Value) (vs : List V) (ws : List (Option V)) (Q : VK) (E : XK), Room (kv + 1) A → Env0 P w K mg base A outer s H → CellsAt F.cl fr ws s.heap H → Vals vs us →
      spAtt K f F (sp ws) vs H Q E → BindsTo s fda ⟨us, []⟩ ((["self", "visitor"] : List Str).zip us) → codeAny (model P w) A (.call (.ref fa) ⟨us, []⟩) (CR (L2N.CX P w) outer P w H s Q E) s := by
  have GT := k_Trial (P := P) (w := w) (base := base) T
  have GE := m_enter (P := P) (w := w) (base := base) T
  have GX := m_exit (P := P) (w := w) (base := base) T
  obtain ⟨fa, fda, Fa, Ma⟩ := S.ms (10, "Session.attempt") (by decide +kernel)
  have hbn := Fa.binds (ps := ["self", "visitor"]) fun _ _ _ _ _ _ us hl => match us, hl with | [_, _], _ => rfl
  obtain ⟨oc, od, kV, doc, pm, an, cdv, ct, osl, rfl, lk, hcd⟩ := Fa.ex
  refine ⟨fa, _, Ma, hbn, fun A outer s H us vs ws Q E hr e0 hC r h hb => ?_⟩
  obtain ⟨a, I0, pr, lg, ea, rfl, ok, ha, hf, hFc, k⟩ := h
  have nd := sc_att.nd
  have KX : K.In s.heap := e0.mod.kin.keeps fun b o e => (e0.bs b o e).1
  have lim : s.heap.NoLimit := e0.mod.nolimit.keeps fun b o e => (e0.bs b o e).1
  have hkind : ∀ y ∈ (["self", "visitor"] : List Str).zip us, (defScope (sub 38 10)).names.lookup y.1 = some .local ∨ ((defScope (sub 38 10)).names.lookup y.1 = some .cell ∧ ((cellsFrom (s.heap.objs.size + 1) (defScope (sub 38 10)).names []).lookup y.1).isSome = true) := fun ⟨n, v⟩ hy => by
    rcases sc_att.par n (List.of_mem_zip hy).1 with q | q
    · exact .inl q
    · exact .inr ⟨q, PySem.W.cellsFrom_some _ _ _ (.inl q)⟩
  refine codeAny_call_function hr.depth (KX _ _ lk) rfl sc_att.co sc_att.gen rfl (PySem.W.codeRec_of KX hcd) (hb _ _ _ _ ?_)
  refine wpAny_newFunctionEnv_cells sc_att.kind hkind fun env he s1 x => ?_
  subst he
  refine ⟨lim.keeps x.toInCall.keep, codeAny_func ?_⟩
  have hr1 := hr.deeper (envOfC "Session.attempt" (defScope (sub 38 10)) s.heap.objs.size fa cdv)
  have hh := L2H.roomH_of hr1
  have J : Inv (cxOf (L2N.CX P w) P w K mg base nAtt "Session.attempt" (defScope (sub 38 10)) fa cdv A outer s H E) [] (start nAtt [.ref a, .ref f]) H s1 := inv_start sc_att hr.hd e0 rfl r x
  have tk := L2N.takes_of (X := cxOf (L2N.CX P w) P w K mg base nAtt "Session.attempt" (defScope (sub 38 10)) fa cdv A outer s H E) rfl rfl rfl rfl
  have ht : PSs (cxOf (L2N.CX P w) P w K mg base nAtt "Session.attempt" (defScope (sub 38 10)) fa cdv A outer s H E) (defBody (sub 38 10)) _ := pss_one (ps_with rfl rfl rfl tk rfl (pe_mk GT (.inl rfl) (hh.mono hkv) (pa_cons (pv 0) pa_nil)) GE GX (hh.mono hkv) (by decide) (by decide) nd (i := 2) rfl rfl
    (fun W pn xe tk' _ => pss_one (ps_ret (pe_visit (i := 1) (E := fun cls d H => ∀ σ, W cls d σ H) Fn hC rfl ⟨hr1.hd, hr1.dp, hr1.un⟩ (Nat.le_refl _) (L2N.passes_call tk' fun cls d σ H e => e σ) (pa_cons (pv 2) pa_nil)))))
  refine wpAny_mono (ht.run [] s1 _ H { nx := fun _ H' => Q .non H', rt := Q } J ?_) (fun fl s' hs => ?_) fun e s' hs => hs
  · refine ⟨_, rfl, fun y dy hy hdy ne => ?_⟩
    have f1 : Fr [] H (upd (upd H dy (.own y)) y (.ins (cT K) dy [])) := (Fr.refl.newer hdy).new hy
    have na : a ≠ y := ne_of_none ha hy
    have nb : a ≠ dy := ne_of_none ha hdy
    refine ⟨y, dy, a, I0, pr, lg, ea, rfl, upd_same, ok, (upd_ne na).trans ((upd_ne nb).trans ha), fun H1 s1 hx1 => ⟨rfl, ?_⟩⟩
    refine ⟨y, dy, _, rfl, hx1, y, dy, a, pr, lg, ea, rfl, hx1, ?_⟩
    have g1 : Fr [] H H1 := s1.fr hy hdy []
    have ha1 := g1 _ _ ha fun _ => by simp
    refine ⟨rfl, g1 _ _ hf fun _ => by simp, _, rfl, g1 _ _ hf fun _ => by simp, g1 _ _ hFc fun _ => by simp, ?_⟩
    exact k H1 y dy g1 hy hx1 ha1
  · have fin : ∀ {σ' : L2.St} {H' : Hp} {v : V} {u : Value}, Inv (cxOf (L2N.CX P w) P w K mg base nAtt "Session.attempt" (defScope (sub 38 10)) fa cdv A outer s H E) [] σ' H' s' → RelV v u → Q v H' → CE outer P w H s Q u s' :=
      fun {σ' H' v u} J rv q => ⟨v, H', J.os, J.bare, J.base, J.hok, rv, q⟩
    cases fl with
    | ret u =>
      obtain ⟨v, σ', H', J, rv, q⟩ := hs
      exact fin J rv q
    | next =>
      obtain ⟨σ', H', J, q⟩ := hs
      exact fin (v := V.non) (u := Value.none) J rfl q
    | brk =>
      obtain ⟨_, _, _, q⟩ := hs
      exact False.elim q
    | cont =>
      obtain ⟨_, _, _, q⟩ := hs
      exact False.elim q
end
end K74
end
-- K74Zm
section
set_option maxRecDepth 100000
set_option maxHeartbeats 4000000
/-! session.attempt(visit), visit a def of the running body. -/
namespace K74
open PySem PySem.Spec PyProof.Rows L2 NdefX
open LamX (CodeO)
def tAttempt (K : PySem.W.Frag) (C : Addr) (mk : Addr → NF) (i : Nat) (js : List Nat) (sp : Addr → Addr → List (Option V) → Sp) (E : L2.St → XK) (ta : TE) : TE := fun σ H Q => ta σ H fun x H1 => ∃ a dx fs f c', x = .ref a ∧ H1 a = some (.ins C dx fs) ∧ fs.lookup ("attempt" : Str) = none ∧
  σ[i]? = some (some (.ref f)) ∧ spAtt K f (mk c') (sp f c' (js.map (slotAt σ))) [.ref a, .ref f] H1 Q (E σ)
section
variable {X : Cx} {C : Addr} {mk : Addr → NF} {cl : List (Str × Addr)} {fr : List Str} {js : List Nat} {i j kv : Nat} {y : Str} {sp : Addr → Addr → List (Option V) → Sp} {E : L2.St → XK} {ta : TE} {o : Expr} {p pos apos : Pos}
theorem pe_attempt {pl : Sem Bool} (T : Txt X.K X.mg) (S : SC X.K C) (Fn : ∀ f c', NOk X.prog X.w X.K X.mg X.base (L2N.CX X.prog X.w) kv f (mk c') ["_law_inner"] fr (sp f c')) (hkv : 2 ≤ kv) (hcl : ∀ c', (mk c').cl = cl) (cp : X.Ok → Caps X cl fr js) (hr : Room j X.A) (hj : kv + 1 ≤ j)
    (hx : ∀ (pins : List (Addr × Obj)) (σ : L2.St) (H : Hp) (s : Shared) (e : Value) (s' : Shared), Inv X pins σ H s → L2N.CX X.prog X.w X.stack H s (E σ) e s' → X.xe e s') (he : PE X o ta) (hN : X.N[i]? = some y) (hv : Vis X.env.scope y) (hd : (y == ("__debug__" : Str)) = false := by decide) (hcd : (y == ("__classdict__" : Str)) = false := by decide)
    (hst : starEach [.Name y p] X.env = (false, eval (.Name y p) X.env) :: starEach [] X.env := by rfl) (hpl : (backTo pos (starEach [] X.env)).any (·.1) = false := by rfl)
    (ht : eval (.Call (.Attribute o "attempt" apos) [.Name y p] [] pos) X.env = (do
      let ov ← eval o X.env
      standAt apos.atName
      let (f, first) ← holding [ov] (getMethod ov "attempt" pl)
      callWith pos f first (backTo pos (starEach [.Name y p] X.env)) (backToKw pos (keywordEach [] X.env))) := by rfl) :
    PE X (.Call (.Attribute o "attempt" apos) [.Name y p] [] pos) (tAttempt X.K C mk i js sp E ta) := by
  refine ⟨fun pins s σ H Q I h => ?_⟩
  refine PySem.W.methodCall_KW (pl := pl) (thn (he.run pins s σ H _ I h) fun u s1 ⟨x, H1, I1, rx, a, dx, fs, f, c', ex, ea, l, hs, q⟩ => ?_) ht
  subst ex
  obtain rfl : u = Value.ref a := rx
  obtain ⟨fa, fda, Ma, hb, run⟩ := m_attempt (P := X.prog) (w := X.w) (base := X.base) T S (Fn f c') hkv
  refine getmeth_ok I1 ea S.cf.cl Ma l ?_
  have hA : PA X [.Name y p] (tCons (tVar i) tNil) := pa_cons (pe_var hN hv hd hcd) pa_nil
  refine PySem.W.callWith_K (first := [.ref a]) (h₀ := X.base) I.ok.mod.kin Ma.kp (thn (hA.run pos pins s1 σ H1 (fun vs H2 => vs = [.ref f] ∧ H2 = H1) I1 ⟨_, hs, rfl, rfl⟩) fun us s2 ⟨vs, H2, I2, r, ev, eH⟩ => ⟨I2.kIn, ?_⟩) hst hpl
  subst ev
  rw [eH] at I2
  show wpAny _ _ (call (.ref fa) (.ref a :: us)) _ _ _
  have hl : (Value.ref a :: us).length = (["self", "visitor"] : List Str).length := by
    have q := r.length
    show us.length + 1 = 2
    rw [← q]
    rfl
  have b := hb s2 (.ref a :: us) I2.kIn (by rw [List.append_nil]; exact hl)
  rw [List.append_nil] at b
  refine wpAny_call (codeAny_mono (run X.A X.stack s2 H1 (.ref a :: us) [.ref a, .ref f] _ Q (E σ) (hr.mono hj) I2.env0 ?_ (.cons rfl r) q b) fun r s' hq => ?_)
  · rw [hcl c']
    exact cells_of I2 (cp I2.ok)
  · cases r with
    | error e => exact hx pins σ H1 s2 e s' I2 hq
    | ok fl =>
      cases fl with
      | ret u => exact I2.after hq
      | next => exact False.elim hq
      | brk => exact False.elim hq
      | cont => exact False.elim hq
theorem passAt {X : Cx} {W : L2.WX} {E : L2.St → XK} (tk : L2N.Takes X W) (hW : ∀ cls d σ H, E σ cls d H → W cls d σ H) : ∀ (pins : List (Addr × Obj)) (σ : L2.St) (H : Hp) (s : Shared) (e : Value) (s' : Shared), Inv X pins σ H s → L2N.CX X.prog X.w X.stack H s (E σ) e s' → X.xe e s' :=
  fun _ σ _ _ e s' I c => tk e s' (L2N.XE.of_call I (fun cls d H' h => hW cls d σ H' h) c)
end
end K74
end
-- K74Zn
section
set_option maxRecDepth 100000
set_option maxHeartbeats 4000000
/-! _law_plain. -/
namespace K74
open PySem PySem.Spec PyProof.Rows L2 NdefX
open LamX (CodeO)
/-- the nested def in a def of the module -/
def visOf (i j : Nat) : Stmt := (defBody (top i)).getD j (.Pass ⟨0, 0, 0, 0⟩)
def lamN (K : PySem.W.Frag) : List NTab := (lamT K).map fun p => (p.1, fun _ _ => p.2)
theorem tabsN_of {K : PySem.W.Frag} {H : Hp} (h : LamX.Tabs (lamT K) H) : TabsN (lamN K) H := fun p hp => by
  obtain ⟨q, hq, rfl⟩ := List.mem_map.mp hp
  exact TabN.of (h q hq)
theorem tabsN_to {K : PySem.W.Frag} {H : Hp} (h : TabsN (lamN K) H) : LamX.Tabs (lamT K) H := fun q hq => TabN.to (h _ (List.mem_map_of_mem hq))
theorem lamN_uq {K : PySem.W.Frag} {mg : Str → Option Value} {base : Heap} (T : TL K mg base) {P : Addr} {x : Str} (h : (P, x) ∈ lamT K) : ∀ p ∈ lamN K, p.1 = P → p.2 = fun _ _ => x := fun p hp e => by
  obtain ⟨q, hq, rfl⟩ := List.mem_map.mp hp
  have := T.uq q hq _ h e
  funext _ _
  exact this
section
variable {P : Program} {w : World} {K : PySem.W.Frag} {mg : Str → Option Value} {base : Heap}
theorem Three.fx {H H' : Hp} {S : List Addr} {p s m : Addr} {I : SI} {n b : Nat} (t : Three K H p s m I n b) (f : Fx S H H') (hs : s ∉ S) (hm : m ∉ S) (hp : PoolAt H' p) (hT : LamX.Tabs (lamT K) H') : Three K H' p s m I n b := ⟨hp, t.cpl.fx f hs hm, hT⟩
/-- a copy of the model -/
theorem Cpl.copy {H : Hp} {s m m' : Addr} {I : SI} {n b : Nat} {tl ll : Addr} (k : Cpl K H s m I n b) (hm : H m = some (.dK (mdl n tl ll))) (h : H m' = none) : Cpl K (upd H m' (.dK (mdl n tl ll))) s m' I n b := by
  obtain ⟨tabs, log, hs, ⟨tl', ll', hm2, md⟩, hh⟩ := k
  have f : Fx [] H (upd H m' (.dK (mdl n tl ll))) := Fx.refl.newer h
  rw [hm] at hm2
  have e : mdl n tl ll = mdl n tl' ll' := HO.dK.inj (Option.some.inj hm2)
  refine ⟨tabs, log, hs.fx f (by simp), ⟨tl', ll', ?_, md.fx f⟩, hh⟩
  rw [upd_same, e]
theorem pool_upd {H : Hp} {p k : Addr} {o : HO} (h : PoolAt H p) (n : p ≠ k) : PoolAt (upd H k o) p := let ⟨a, b, h1, h2⟩ := h; ⟨a, b, (upd_ne n).trans h1, h2⟩
/-- what is no table and no code may change -/
theorem tabs_upd {L : List (Addr × Str)} {H : Hp} {k : Addr} {o u : HO} (T : LamX.Tabs L H) (h : H k = some o) (n1 : ∀ ps, o ≠ .tbl ps) (n2 : ∀ c q, o ≠ CodeO c q) : LamX.Tabs L (upd H k u) := fun p hp => by
  obtain ⟨ps, h1, h2, h3⟩ := T p hp
  refine ⟨ps, (upd_ne (fun z => n1 ps (Option.some.inj (h.symm.trans (by rw [← z]; exact h1))))).trans h1, h2, fun pos cv hc => ?_⟩
  obtain ⟨c, e1, e2⟩ := h3 pos cv hc
  exact ⟨c, e1, (upd_ne (fun z => n2 c _ (Option.some.inj (h.symm.trans (by rw [← z]; exact e2))))).trans e2⟩
def spVisPlain (K : PySem.W.Frag) (ws : List (Option V)) : Sp := fun vs H Q _ => ∃ (p s m k : Addr) (I : SI) (n b : Nat), vs = [.ref s] ∧ ws = [some (.ref k), some (.ref m), some (.ref p), some (.ref s)] ∧ Three K H p s m I n b ∧ b + 5 ≤ 1000 ∧ I.Free ∧ H k = some (.lst [.str "result"]) ∧
  ∀ H', Fx [p, s, k] H H' → (∃ pr lg ea, H' s = some (.ins I.C I.dx (I.fs pr lg ea))) → PoolAt H' p → LamX.Tabs (lamT K) H' → H' k = some (.lst [.str "result", .bl true]) → Q (.ref k) H'
abbrev frPlain : List Str := ["_law_mark", "_law_model_here", "_law_pool", "_law_session"]
abbrev nVisPlain : List Str := ["_law_inner", "_law_mark", "_law_model_here", "_law_pool", "_law_session"]
theorem ns_visPlain : NScope nVisPlain ["_law_inner"] frPlain (C8.fnScope (visOf 57 1)) := nscope_by (by decide +kernel)
theorem vis_plain (T : TL K mg base) (NA : ∀ C, C = cS K ∨ C = cK K → NX P w K mg base C) (f c : Addr) (q : Str) (cl : List (Str × Addr)) : NOk P w K mg base (L2N.CX P w) 14 f (NF.of (visOf 57 1) "_law_visit" q cl c) ["_law_inner"] frPlain (spVisPlain K) := by
  have GT := g_turns (P := P) (w := w) T NA
  have GD := g_draw (P := P) (w := w) (base := base) T.toTxt
  refine nok_of (F := NF.of (visOf 57 1) "_law_visit" q cl c) ns_visPlain (fun _ _ _ us hl => match us, hl with | [_], _ => rfl) (fun ws vs H Q E h => ?_) (fun A outer s H vs ws Q E hr hf hc hw h => ?_)
  · obtain ⟨_, _, _, _, _, _, _, rfl, _⟩ := h
    rfl
  · obtain ⟨p, a, m, kk, I, n, b, rfl, rfl, t3, hb, hfree, hk, k⟩ := h
    have hh := L2H.roomH_of hr
    obtain ⟨tabs0, log0, hs0, hm0, hh0⟩ := id t3.cpl
    have S := T.toTxt.sc hs0.1
    have GE := m_ses_eq (P := P) (w := w) (base := base) T.toTX S
    refine ⟨_, pss_cons (ps_expr (pe_bm PySem.F.plainAttrs_list PySem.F.slot_list_append PySem.F.type_list_append mt_append (pv 1) (pa_cons (pe_and (pe_gc GT hr pass0 (pa_cons (pv 3) (pa_cons (pv 0) (pa_cons (pe_callTy call_dictD (by rfl) (T.z "dict") (by decide +kernel) (pa_cons (pv 2) pa_nil)) (pa_cons (pe_gc GD hr pass0 (pa_cons (pv 3) (pa_cons pe_int pa_nil))) pa_nil)))))
        (pe_one (pe_cmpR (op_eqC (C' := I.C) GE (T.eqS _ hs0.1.two) (hr.mono (by decide))) (pv 0) (pv 4) (nomark _)))) pa_nil)))
      (pss_one (ps_ret (pv 1))), ?_⟩
    have nps := t3.ne
    obtain ⟨tl, ll, hmm⟩ := t3.cpl.modN
    have npk : p ≠ kk := by obtain ⟨x, y, h, _⟩ := t3.pool; exact ne_of h hk (by intro z; cases z)
    have nmk : m ≠ kk := ne_of hmm hk (by intro z; cases z)
    obtain ⟨pr, lg, ea, hsa⟩ := t3.cpl.sesN
    have nak : a ≠ kk := ne_of hsa hk (by intro z; cases z)
    refine ⟨_, rfl, .inl ⟨rfl, _, SqL.of hk⟩, _, rfl, _, rfl, _, rfl, m, _, rfl, .inl hmm, fun m' hm' => ?_⟩
    have f1 : Fr [] H (upd H m' (.dK (mdl n tl ll))) := Fr.refl.newer hm'
    have c1 : Cpl K (upd H m' (.dK (mdl n tl ll))) a m' I n b := t3.cpl.copy hmm hm'
    have t1 : Three K (upd H m' (.dK (mdl n tl ll))) p a m' I n b := ⟨t3.pool.fr f1 (by simp), c1, tabs_fr t3.tabs f1 (by simp)⟩
    have hk1 := f1 _ _ hk fun _ => by simp
    have nkm' : kk ≠ m' := ne_of_none hk hm'
    generalize upd H m' (.dK (mdl n tl ll)) = H1 at f1 t1 hk1 ⊢
    have n1 := t1.ne
    refine ⟨_, rfl, p, 6, rfl, t1.pool, by decide, by decide, fun H2 d f2 hp2 hd => ?_⟩
    have t2 : Three K H2 p a m' I n b := ⟨hp2, t1.cpl.fr f2 (by simp; exact n1.1.symm) (by simp; exact n1.2.1.symm), tabs_fr t1.tabs f2 fun x hx => no_tbl t1.pool t1.cpl x (by simp at hx ⊢; exact .inl hx)⟩
    refine ⟨p, a, m', I, n, b, d, rfl, t2, by omega, hfree, fun H3 f3 t4 => ⟨true, rfl, iteT ?_⟩⟩
    obtain ⟨tabs, log, hs3, hm3, hh3⟩ := id t4.cpl
    obtain ⟨pr3, lg3, ea3, si3, hsa3, sd3⟩ := hs3.sesI
    refine ⟨_, rfl, _, rfl, a, a, I.dx, I.dx, _, _, rfl, rfl, hsa3, hsa3, a, a, I, I, pr3, lg3, ea3, n, tabs, log, rfl, rfl, rfl, hs3.1, hsa3, hsa3, sd3, hh3.ent, ?_, fun H4 f4 => ⟨true, rfl, ?_⟩⟩
    · have := hh3.len
      have := hh3.le
      omega
    · have hk4 : H4 kk = some (.lst [.str "result"]) := f4 _ _ (f3 _ _ (f2 _ _ hk1 fun _ => by simp; exact npk.symm) (fun _ => by simp; exact ⟨npk.symm, nak.symm, nkm'⟩) (fun _ z => by cases z)) fun _ => by simp
      refine ⟨kk, [.str "result"], .bl true, rfl, rfl, hk4, by decide, _, rfl, ?_⟩
      have g4 : Fx [p, a, m'] H1 H4 := ((f2.fx.mono (by simp)).trans f3).trans (f4.fx.mono (by simp))
      have g5 : Fx [p, a] H H4 := fun x o e k n => g4 x o (f1.fx x o e (fun _ => by simp) n) (fun mm => by have := k mm; simp at this ⊢; exact ⟨this.1, this.2, ne_of_none e hm'⟩) n
      refine k _ ((g5.mono (S' := [p, a, kk]) (by simp)).set (by simp) hk rfl) ⟨pr3, lg3, ea3, ?_⟩ ?_ ?_ upd_same
      · rw [upd_ne nak]
        exact f4 _ _ hsa3 fun _ => by simp
      · exact pool_upd (t4.pool.fr f4 (by simp)) npk
      · exact tabs_upd (tabs_fr t4.tabs f4 (by simp)) hk4 (by intro ps z; cases z) (by intro c q z; cases z)
abbrev visQ (x : Str) : Str := (x ++ ".<locals>.") ++ "_law_visit"
def spPlain (K : PySem.W.Frag) : Sp := fun vs H Q _ => ∃ (p s m : Addr) (I : SI) (n b : Nat), vs = [.ref p, .ref s, .ref m] ∧ Three K H p s m I n b ∧ b + 5 ≤ 1000 ∧ I.Free ∧ ∀ H', Fx [p] H H' → PoolAt H' p → LamX.Tabs (lamT K) H' → Q (.bl true) H'
abbrev nPlain : List Str := ["_law_pool", "_law_session", "_law_model_here", "_law_visit", "_law_told", "_law_mark"]
theorem sc_plain : FnScope nPlain ["_law_pool", "_law_session", "_law_model_here"] (defScope (top 57)) := ⟨rfl, rfl, rfl, by decide +kernel, rfl, by decide +kernel, by decide +kernel⟩
theorem nd_plain : ndefB (defScope (top 57)) (C8.fnScope (visOf 57 1)) frPlain = true := by decide +kernel
theorem g_plain (T : TL K mg base) (NA : ∀ C, C = cS K ∨ C = cK K → NX P w K mg base C) : GC P w K mg base CX0 16 "_law_plain" ["_law_pool", "_law_session", "_law_model_here"] (spPlain K) := by
  have GS := g_shows (P := P) (w := w) (base := base) T.toTxt
  refine gcT_of (T.fc (57, "_law_plain") (by decide +kernel)) sc_plain (fun vs H Q E h => ?_) (fun f A outer s H vs Q E hr h => ?_) fun _ _ _ _ _ _ us hl => match us, hl with | [_, _, _], _ => rfl
  · obtain ⟨_, _, _, _, _, _, rfl, _⟩ := h
    rfl
  · obtain ⟨p, a, m, I, n, b, rfl, t3, hb, hfree, k⟩ := h
    have nd := sc_plain.nd
    have hh := L2H.roomH_of hr
    have hu64 := huH64 hh
    obtain ⟨tabs0, log0, hs0, hm0, hh0⟩ := id t3.cpl
    have S := T.toTxt.sc hs0.1
    refine ⟨_, pss_cons (ps_set (i := 5) nd rfl (Or.inr rfl) (pe_lst (pa_cons pe_str pa_nil)))
      (pss_cons (ps_ndefMS (st := visOf 57 1) (T := lamN K) (i := 3) rfl (T.tb (57, "_law_plain") (by decide +kernel)) rfl (List.mem_map_of_mem (List.Mem.tail _ (List.Mem.head _))) rfl (lamN_uq T (List.Mem.tail _ (List.Mem.head _))) (ndef_free nd_plain) rfl rfl rfl nd rfl (.inl rfl) (.inr rfl))
      (pss_cons (ps_set (i := 4) nd rfl (Or.inl rfl) (pe_attempt (i := 3) (js := [5, 2, 0, 1]) (kv := 14) T.toTxt S (fun f c' => vis_plain T NA f c' (visQ "_law_plain") _) (by decide) (fun _ => rfl) (fun ok => Caps.made ok (ndef_free nd_plain) (ndef_fr nd_plain) rfl) hr (by decide) (E := fun _ => E0) (fun pins σ H s e s' => passN pins σ H s e s') (pv 1) rfl (.inl rfl)))
      (pss_cons (ps_expr (pe_bm PySem.F.plainAttrs_list PySem.F.slot_list_append PySem.F.type_list_append mt_append (pv 4) (pa_cons pe_str pa_nil)))
      (pss_one (ps_ret (pe_and (pe_cmpR (op_eqD hu64) (pv 5) (pe_lst (pa_cons pe_str (pa_cons pe_bl (pa_cons pe_str pa_nil)))) (nomark _)) (pe_one (pe_gg GS (.inl rfl) hh (pa_cons (pv 1) (pa_cons (pv 2) pa_nil)))))))))), ?_⟩
    obtain ⟨pr, lg, ea, si, hsa, sd⟩ := hs0.sesI
    obtain ⟨tl, ll, hmm⟩ := t3.cpl.modN
    have nps := t3.ne
    refine ⟨by show 1 ≤ sizeLine; decide, fun kk hkk => ?_⟩
    have f1 : Fr [] H (upd H kk (.lst [.str "result"])) := Fr.refl.newer hkk
    have hk1 : (upd H kk (.lst [.str "result"])) kk = some (.lst [.str "result"]) := upd_same
    have T1 := tabs_fr t3.tabs f1 (by simp)
    generalize upd H kk (.lst [.str "result"]) = H1 at f1 hk1 T1 ⊢
    refine ⟨tabsN_of T1, fun f2 c' H2 eN nn T2 hf2 hfO hcO => ?_⟩
    have T2 := tabsN_to T2
    have g2 : Fx [] H H2 := f1.fx.trans (Fx.ofN eN [])
    have hk2 := eN _ _ hk1 (by intro ps z; cases z)
    have ha2 := g2 _ _ hsa (fun _ => by simp) (fun _ z => by cases z)
    refine ⟨_, rfl, a, I.dx, _, f2, c', rfl, ha2, fs_none I pr lg ea _, rfl, a, I, pr, lg, ea, rfl, hs0.1, ha2, hfO, hcO, fun H3 x dx f3 hx0 hx3 ha3 => ?_⟩
    have g3 : Fx [] H H3 := g2.trans f3.fx
    have hk3 := f3 _ _ hk2 fun _ => by simp
    have t3' : Three K H3 p a m I n b := t3.fx g3 (by simp) (by simp) (t3.pool.fx g3 (by simp)) (tabs_fr T2 f3 (by simp))
    refine ⟨p, a, m, kk, I, n, b, rfl, rfl, t3', hb, hfree, hk3, fun H4 f4 hs4 hp4 T4 hk4 => ?_⟩
    obtain ⟨pr4, lg4, ea4, ha4⟩ := hs4
    have npx : p ≠ x := pool_ne_ses t3'.pool hx3
    have nax : a ≠ x := ne_of_none ha2 hx0
    have nkx : kk ≠ x := ne_of_none hk2 hx0
    have nka : kk ≠ a := (ne_of_none hsa hkk).symm
    have npk : p ≠ kk := by obtain ⟨x, y, h, _⟩ := t3.pool; exact ne_of_none h hkk
    have hx4 := f4 _ _ hx3 (fun _ => by simp; exact ⟨npx.symm, nax.symm, nkx.symm⟩) (fun _ z => by cases z)
    refine exit_ok hx4 hs0.1 ha4 ?_
    have g4 : Fx [a, p] H H4 := Fx.less (p := kk) (f4.mono (S' := [kk, a, p]) (by simp)) (g3.mono (by simp)) hkk
    have g5 : Fx [p] H (upd H4 a (.ins I.C I.dx (I.fs pr lg ea))) := g4.back hsa
    have hk5 : (upd H4 a (.ins I.C I.dx (I.fs pr lg ea))) kk = some (.lst [.str "result", .bl true]) := (upd_ne nka).trans hk4
    have hp5 : PoolAt (upd H4 a (.ins I.C I.dx (I.fs pr lg ea))) p := pool_upd hp4 nps.1
    have T5 : LamX.Tabs (lamT K) (upd H4 a (.ins I.C I.dx (I.fs pr lg ea))) := tabs_upd T4 ha4 (by intro ps z; cases z) (by intro c q z; cases z)
    generalize upd H4 a (.ins I.C I.dx (I.fs pr lg ea)) = H5 at g5 hk5 hp5 T5 ⊢
    refine ⟨_, rfl, .inl ⟨rfl, _, SqL.of hk5⟩, kk, _, .str "later", rfl, rfl, hk5, by decide, ?_⟩
    have g6 : Fx [p] H (upd H5 kk (.lst ([.str "result", .bl true] ++ [.str "later"]))) := g5.new hkk
    have hk6 : (upd H5 kk (.lst ([.str "result", .bl true] ++ [.str "later"]))) kk = some (.lst [.str "result", .bl true, .str "later"]) := upd_same
    have hp6 : PoolAt (upd H5 kk (.lst ([.str "result", .bl true] ++ [.str "later"]))) p := pool_upd hp5 npk
    have T6 : LamX.Tabs (lamT K) (upd H5 kk (.lst ([.str "result", .bl true] ++ [.str "later"]))) := tabs_upd T5 hk5 (by intro ps z; cases z) (by intro c q z; cases z)
    generalize upd H5 kk (.lst ([.str "result", .bl true] ++ [.str "later"])) = H6 at g6 hk6 hp6 T6 ⊢
    refine ⟨_, rfl, by show 3 ≤ sizeLine; decide, fun q hq => ?_⟩
    have f7 : Fr [] H6 (upd H6 q (.lst [.str "result", .bl true, .str "later"])) := Fr.refl.newer hq
    have g7 := g6.trans (f7.fx.mono (S' := [p]) (by simp))
    have hk7 := f7 _ _ hk6 fun _ => by simp
    refine ⟨.list [.str "result", .bool true, .str "later"], .list [.str "result", .bool true, .str "later"], .lst (SqL.of hk7) (.cons (.str _) (.cons (.bl _) (.cons (.str _) .nil))), .lst (SqL.of upd_same) (.cons (.str _) (.cons (.bl _) (.cons (.str _) .nil))), by decide +kernel, by decide +kernel, true, by decide +kernel, iteT ?_⟩
    refine ⟨_, rfl, _, rfl, a, m, I, n, b, rfl, t3.cpl.fx g7 (by simp; exact nps.1.symm) (by simp; exact nps.2.1.symm), by omega, fun H8 f8 => ?_⟩
    exact k H8 (g7.trans (f8.fx.mono (S' := [p]) (by simp))) ((hp6.fr f7 (by simp)).fr f8 (by simp)) (tabs_fr (tabs_fr T6 f7 (by simp)) f8 (by simp))
end
end K74
end
-- K74Zo
section
set_option maxRecDepth 100000
set_option maxHeartbeats 4000000
/-! _law_nested. -/
namespace K74
open PySem PySem.Spec PyProof.Rows L2 NdefX
open LamX (CodeO)
section
variable {P : Program} {w : World} {K : PySem.W.Frag} {mg : Str → Option Value} {base : Heap}
def spVisNested (K : PySem.W.Frag) (ws : List (Option V)) : Sp := fun vs H Q _ => ∃ (p s m : Addr) (I : SI) (n b : Nat), vs = [.ref s] ∧ ws = [some (.ref m), some (.ref p)] ∧ Three K H p s m I n b ∧ b + 9 ≤ 1000 ∧ I.Free ∧
  ∀ H' L, Fx [p, s, m] H H' → (∃ pr lg ea, H' s = some (.ins I.C I.dx (I.fs pr lg ea))) → PoolAt H' p → LamX.Tabs (lamT K) H' → H' L = some (.lst [.bl true, .bl true, .bl true]) → Q (.ref L) H'
abbrev frNested : List Str := ["_law_own", "_law_pool"]
abbrev nVisNested : List Str := ["_law_inner", "_law_own", "_law_pool", "_law_first"]
theorem ns_visNested : NScope nVisNested ["_law_inner"] frNested (C8.fnScope (visOf 58 1)) := nscope_by (by decide +kernel)
theorem vis_nested (T : TL K mg base) (NA : ∀ C, C = cS K ∨ C = cK K → NX P w K mg base C) (f c : Addr) (q : Str) (cl : List (Str × Addr)) : NOk P w K mg base (L2N.CX P w) 17 f (NF.of (visOf 58 1) "_law_visit" q cl c) ["_law_inner"] frNested (spVisNested K) := by
  have GT := g_turns (P := P) (w := w) T NA
  have GP := g_plain (P := P) (w := w) T NA
  refine nok_of (F := NF.of (visOf 58 1) "_law_visit" q cl c) ns_visNested (fun _ _ _ us hl => match us, hl with | [_], _ => rfl) (fun ws vs H Q E h => ?_) (fun A outer s H vs ws Q E hr hf hc hw h => ?_)
  · obtain ⟨_, _, _, _, _, _, rfl, _⟩ := h
    rfl
  · obtain ⟨p, a, m, I, n, b, rfl, rfl, t3, hb, hfree, k⟩ := h
    have nd := ns_visNested.nd
    refine ⟨_, pss_cons (ps_set (i := 3) nd rfl (Or.inl rfl) (pe_gc GT hr pass0 (pa_cons (pv 2) (pa_cons (pv 0) (pa_cons (pv 1) (pa_cons pe_int pa_nil))))))
      (pss_one (ps_ret (pe_lst (pa_cons (pv 3) (pa_cons (pe_gc GP hr pass0 (pa_cons (pv 2) (pa_cons (pv 0) (pa_cons (pv 1) pa_nil)))) (pa_cons (pe_gc GT hr pass0 (pa_cons (pv 2) (pa_cons (pv 0) (pa_cons (pv 1) (pa_cons pe_int pa_nil))))) pa_nil)))))), ?_⟩
    have nps := t3.ne
    refine ⟨_, rfl, _, rfl, _, rfl, p, a, m, I, n, b, 2, rfl, t3, by omega, hfree, fun H1 f1 t1 => ?_⟩
    refine ⟨_, rfl, _, rfl, _, rfl, _, rfl, p, a, m, I, n, b + 2, rfl, t1, by omega, hfree, fun H2 f2 p2 T2 => ?_⟩
    have t2 : Three K H2 p a m I n (b + 2) := t1.fx f2 (by simp; exact nps.1.symm) (by simp; exact nps.2.1.symm) p2 T2
    refine ⟨_, rfl, _, rfl, _, rfl, p, a, m, I, n, b + 2, 2, rfl, t2, by omega, hfree, fun H3 f3 t3' => ⟨by show 3 ≤ sizeLine; decide, fun L hL => ?_⟩⟩
    have f4 : Fr [] H3 (upd H3 L (.lst [.bl true, .bl true, .bl true])) := Fr.refl.newer hL
    obtain ⟨pr, lg, ea, hsa⟩ := t3'.cpl.sesN
    exact k _ L (((f1.trans (f2.mono (by simp))).trans f3).trans (f4.fx.mono (by simp))) ⟨pr, lg, ea, f4 _ _ hsa fun _ => by simp⟩ (t3'.pool.fr f4 (by simp)) (tabs_fr t3'.tabs f4 (by simp)) upd_same
abbrev nNested : List Str := ["_law_pool", "_law_session", "_law_model_here", "_law_visit", "_law_own"]
theorem sc_nested : FnScope nNested ["_law_pool", "_law_session", "_law_model_here"] (defScope (top 58)) := ⟨rfl, rfl, rfl, by decide +kernel, rfl, by decide +kernel, by decide +kernel⟩
theorem nd_nested : ndefB (defScope (top 58)) (C8.fnScope (visOf 58 1)) frNested = true := by decide +kernel
def spNested (K : PySem.W.Frag) : Sp := fun vs H Q _ => ∃ (p s m : Addr) (I : SI) (n b : Nat), vs = [.ref p, .ref s, .ref m] ∧ Three K H p s m I n b ∧ b + 9 ≤ 1000 ∧ I.Free ∧ ∀ H', Fx [p] H H' → PoolAt H' p → LamX.Tabs (lamT K) H' → Q (.bl true) H'
theorem in2 {K : PySem.W.Frag} : (tbA K "_law_nested", ("_law_nested.<locals>._law_visit" : Str)) ∈ lamT K := .tail _ (.tail _ (.head _))
theorem g_nested (T : TL K mg base) (NA : ∀ C, C = cS K ∨ C = cK K → NX P w K mg base C) : GC P w K mg base CX0 19 "_law_nested" ["_law_pool", "_law_session", "_law_model_here"] (spNested K) := by
  have GS := g_shows (P := P) (w := w) (base := base) T.toTxt
  refine gcT_of (T.fc (58, "_law_nested") (by decide +kernel)) sc_nested (fun vs H Q E h => ?_) (fun f A outer s H vs Q E hr h => ?_) fun _ _ _ _ _ _ us hl => match us, hl with | [_, _, _], _ => rfl
  · obtain ⟨_, _, _, _, _, _, rfl, _⟩ := h
    rfl
  · obtain ⟨p, a, m, I, n, b, rfl, t3, hb, hfree, k⟩ := h
    have nd := sc_nested.nd
    have hh := L2H.roomH_of hr
    have hu64 := huH64 hh
    obtain ⟨tabs0, log0, hs0, hm0, hh0⟩ := id t3.cpl
    have S := T.toTxt.sc hs0.1
    refine ⟨_, pss_cons (ps_set (i := 4) nd rfl (Or.inr rfl) (pe_callTy call_dictD (by rfl) (T.z "dict") (by decide +kernel) (pa_cons (pv 2) pa_nil)))
      (pss_cons (ps_ndefMS (st := visOf 58 1) (T := lamN K) (i := 3) rfl (T.tb (58, "_law_nested") (by decide +kernel)) rfl (List.mem_map_of_mem in2) rfl (lamN_uq T in2) (ndef_free nd_nested) rfl rfl rfl nd rfl (.inl rfl) (.inr rfl))
      (pss_one (ps_ret (pe_and (pe_cmpR (op_eqD hu64) (pe_attempt (i := 3) (js := [4, 0]) (kv := 17) T.toTxt S (fun f c' => vis_nested T NA f c' (visQ "_law_nested") _) (by decide) (fun _ => rfl) (fun ok => Caps.made ok (ndef_free nd_nested) (ndef_fr nd_nested) rfl) hr (by decide) (E := fun _ => E0) (fun pins σ H s e s' => passN pins σ H s e s') (pv 1) rfl (.inl rfl))
        (pe_lst (pa_cons pe_bl (pa_cons pe_bl (pa_cons pe_bl pa_nil)))) (nomark _)) (pe_one (pe_gg GS (.inl rfl) hh (pa_cons (pv 1) (pa_cons (pv 2) pa_nil)))))))), ?_⟩
    obtain ⟨pr, lg, ea, si, hsa, sd⟩ := hs0.sesI
    obtain ⟨tl, ll, hmm⟩ := t3.cpl.modN
    have nps := t3.ne
    refine ⟨_, rfl, m, _, rfl, .inl hmm, fun m' hm' => ?_⟩
    have f1 : Fr [] H (upd H m' (.dK (mdl n tl ll))) := Fr.refl.newer hm'
    have c1 : Cpl K (upd H m' (.dK (mdl n tl ll))) a m' I n b := t3.cpl.copy hmm hm'
    have t1 : Three K (upd H m' (.dK (mdl n tl ll))) p a m' I n b := ⟨t3.pool.fr f1 (by simp), c1, tabs_fr t3.tabs f1 (by simp)⟩
    have hm1 : (upd H m' (.dK (mdl n tl ll))) m' = some (.dK (mdl n tl ll)) := upd_same
    generalize upd H m' (.dK (mdl n tl ll)) = H1 at f1 t1 hm1 ⊢
    refine ⟨tabsN_of t1.tabs, fun f2 c' H2 eN nn T2 hf2 hfO hcO => ?_⟩
    have T2 := tabsN_to T2
    have e2 : Fx [] H1 H2 := Fx.ofN eN []
    have g2 : Fx [] H H2 := f1.fx.trans e2
    have ha2 := g2 _ _ hsa (fun _ => by simp) (fun _ z => by cases z)
    have hm2 := e2 _ _ hm1 (fun _ => by simp) (fun _ z => by cases z)
    refine ⟨_, rfl, a, I.dx, _, f2, c', rfl, ha2, fs_none I pr lg ea _, rfl, a, I, pr, lg, ea, rfl, hs0.1, ha2, hfO, hcO, fun H3 x dx f3 hx0 hx3 ha3 => ?_⟩
    have g3 : Fx [] H H3 := g2.trans f3.fx
    have t3' : Three K H3 p a m' I n b := t1.fx (e2.trans f3.fx) (by simp) (by simp) (t1.pool.fx (e2.trans f3.fx) (by simp)) (tabs_fr T2 f3 (by simp))
    refine ⟨p, a, m', I, n, b, rfl, rfl, t3', hb, hfree, fun H4 L f4 hs4 hp4 T4 hL4 => ?_⟩
    obtain ⟨pr4, lg4, ea4, ha4⟩ := hs4
    have npx : p ≠ x := pool_ne_ses t3'.pool hx3
    have nax : a ≠ x := ne_of_none ha2 hx0
    have nmx : m' ≠ x := ne_of_none hm2 hx0
    have nLa : L ≠ a := ne_of hL4 ha4 (by intro z; cases z)
    have hx4 := f4 _ _ hx3 (fun _ => by simp; exact ⟨npx.symm, nax.symm, nmx.symm⟩) (fun _ z => by cases z)
    refine exit_ok hx4 hs0.1 ha4 ?_
    have g4 : Fx [a, p] H H4 := Fx.less (p := m') (f4.mono (S' := [m', a, p]) (by simp)) (g3.mono (by simp)) hm'
    have g5 : Fx [p] H (upd H4 a (.ins I.C I.dx (I.fs pr lg ea))) := g4.back hsa
    have hL5 : (upd H4 a (.ins I.C I.dx (I.fs pr lg ea))) L = some (.lst [.bl true, .bl true, .bl true]) := (upd_ne nLa).trans hL4
    have hp5 : PoolAt (upd H4 a (.ins I.C I.dx (I.fs pr lg ea))) p := pool_upd hp4 nps.1
    have T5 : LamX.Tabs (lamT K) (upd H4 a (.ins I.C I.dx (I.fs pr lg ea))) := tabs_upd T4 ha4 (by intro ps z; cases z) (by intro c q z; cases z)
    generalize upd H4 a (.ins I.C I.dx (I.fs pr lg ea)) = H5 at g5 hL5 hp5 T5 ⊢
    refine ⟨by show 3 ≤ sizeLine; decide, fun q hq => ?_⟩
    have f7 : Fr [] H5 (upd H5 q (.lst [.bl true, .bl true, .bl true])) := Fr.refl.newer hq
    have g7 := g5.trans (f7.fx.mono (S' := [p]) (by simp))
    have hL7 := f7 _ _ hL5 fun _ => by simp
    refine ⟨.list [.bool true, .bool true, .bool true], .list [.bool true, .bool true, .bool true], .lst (SqL.of hL7) (.cons (.bl _) (.cons (.bl _) (.cons (.bl _) .nil))), .lst (SqL.of upd_same) (.cons (.bl _) (.cons (.bl _) (.cons (.bl _) .nil))), by decide +kernel, by decide +kernel, true, by decide +kernel, iteT ?_⟩
    refine ⟨_, rfl, _, rfl, a, m, I, n, b, rfl, t3.cpl.fx g7 (by simp; exact nps.1.symm) (by simp; exact nps.2.1.symm), by omega, fun H8 f8 => ?_⟩
    exact k H8 (g7.trans (f8.fx.mono (S' := [p]) (by simp))) ((hp5.fr f7 (by simp)).fr f8 (by simp)) (tabs_fr (tabs_fr T5 f7 (by simp)) f8 (by simp))
end
end K74
end
-- K74Zp
section
set_option maxRecDepth 100000
set_option maxHeartbeats 4000000
/-! _law_broken. -/
namespace K74
open PySem PySem.Spec PyProof.Rows L2 NdefX
open LamX (CodeO)
section
variable {P : Program} {w : World} {K : PySem.W.Frag} {mg : Str → Option Value} {base : Heap}
def spVisBroken (K : PySem.W.Frag) (ws : List (Option V)) : Sp := fun vs H Q E => ∃ (p s m : Addr) (I : SI) (n b d : Nat), vs = [.ref s] ∧ ws = [some (.ref m), some (.int d), some (.ref p)] ∧ Three K H p s m I n b ∧ b + 3 ≤ 1000 ∧ I.Free ∧
  ∀ H' x, Fx [p, s] H H' → (∃ pr lg ea, H' s = some (.ins I.C I.dx (I.fs pr lg ea))) → PoolAt H' p → LamX.Tabs (lamT K) H' → H' x = some (.xd [("position", .int d)]) → E (.ref (cIS K)) (some x) H'
abbrev frBroken : List Str := ["_law_model_here", "_law_place", "_law_pool"]
abbrev nVisBroken : List Str := ["_law_inner", "_law_model_here", "_law_place", "_law_pool"]
theorem ns_visBroken : NScope nVisBroken ["_law_inner"] frBroken (C8.fnScope (visOf 59 1)) := nscope_by (by decide +kernel)
theorem vis_broken (T : TL K mg base) (NA : ∀ C, C = cS K ∨ C = cK K → NX P w K mg base C) (f c : Addr) (q : Str) (cl : List (Str × Addr)) : NOk P w K mg base (L2N.CX P w) 14 f (NF.of (visOf 59 1) "_law_visit" q cl c) ["_law_inner"] frBroken (spVisBroken K) := by
  have GT := g_turns (P := P) (w := w) T NA
  have GD := g_draw (P := P) (w := w) (base := base) T.toTxt
  obtain ⟨fI, IS⟩ := T.iS'
  refine nok_of (F := NF.of (visOf 59 1) "_law_visit" q cl c) ns_visBroken (fun _ _ _ us hl => match us, hl with | [_], _ => rfl) (fun ws vs H Q E h => ?_) (fun A outer s H vs ws Q E hr hf hc hw h => ?_)
  · obtain ⟨_, _, _, _, _, _, _, rfl, _⟩ := h
    rfl
  · obtain ⟨p, a, m, I, n, b, d, rfl, rfl, t3, hb, hfree, k⟩ := h
    have nd := ns_visBroken.nd
    have tk := L2N.takes_of (X := ncx (L2N.CX P w) P w K mg base nVisBroken (NF.of (visOf 59 1) "_law_visit" q cl c) f A outer s H E) rfl rfl rfl rfl
    refine ⟨_, pss_cons (ps_expr (pe_gc GT hr pass0 (pa_cons (pv 3) (pa_cons (pv 0) (pa_cons (pe_callTy call_dictD (by rfl) (T.z "dict") (by decide +kernel) (pa_cons (pv 1) pa_nil)) (pa_cons (pe_op op_add pe_int (pe_gc GD hr pass0 (pa_cons (pv 3) (pa_cons pe_int pa_nil)))) pa_nil))))))
      (pss_one (OwnInvalidSteps.ps_raiseLow rfl IS hr tk (pa_cons (pv 2) pa_nil))), ?_⟩
    obtain ⟨tl, ll, hmm⟩ := t3.cpl.modN
    have nps := t3.ne
    refine ⟨_, rfl, _, rfl, _, rfl, m, _, rfl, .inl hmm, fun m' hm' => ?_⟩
    have f1 : Fr [] H (upd H m' (.dK (mdl n tl ll))) := Fr.refl.newer hm'
    have c1 : Cpl K (upd H m' (.dK (mdl n tl ll))) a m' I n b := t3.cpl.copy hmm hm'
    have t1 : Three K (upd H m' (.dK (mdl n tl ll))) p a m' I n b := ⟨t3.pool.fr f1 (by simp), c1, tabs_fr t3.tabs f1 (by simp)⟩
    generalize upd H m' (.dK (mdl n tl ll)) = H1 at f1 t1 ⊢
    have n1 := t1.ne
    refine ⟨_, rfl, p, 3, rfl, t1.pool, by decide, by decide, fun H2 e f2 hp2 he => ?_⟩
    have t2 : Three K H2 p a m' I n b := ⟨hp2, t1.cpl.fr f2 (by simp; exact n1.1.symm) (by simp; exact n1.2.1.symm), tabs_fr t1.tabs f2 fun x hx => no_tbl t1.pool t1.cpl x (by simp at hx ⊢; exact .inl hx)⟩
    refine ⟨_, _, rfl, rfl, p, a, m', I, n, b, 1 + e, rfl, t2, by omega, hfree, fun H3 f3 t4 => ⟨_, rfl, V.int d, rfl, fun x hx => ?_⟩⟩
    obtain ⟨pr, lg, ea, hsa⟩ := t4.cpl.sesN
    have g3 : Fx [p, a, m'] H1 H3 := (f2.fx.mono (by simp)).trans f3
    have g4 : Fx [p, a] H H3 := fun x o e k n => g3 x o (f1.fx x o e (fun _ => by simp) n) (fun mm => by have := k mm; simp at this ⊢; exact ⟨this.1, this.2, ne_of_none e hm'⟩) n
    have f5 : Fr [] H3 (upd H3 x (.xd [("position", .int d)])) := Fr.refl.newer hx
    exact k _ x (g4.trans (f5.fx.mono (S' := [p, a]) (by simp))) ⟨pr, lg, ea, f5 _ _ hsa fun _ => by simp⟩ (t4.pool.fr f5 (by simp)) (tabs_fr t4.tabs f5 (by simp)) upd_same
abbrev nBroken : List Str := ["_law_pool", "_law_session", "_law_model_here", "_law_visit", "e", "_law_place"]
theorem sc_broken : FnScope nBroken ["_law_pool", "_law_session", "_law_model_here"] (defScope (top 59)) := ⟨rfl, rfl, rfl, by decide +kernel, rfl, by decide +kernel, by decide +kernel⟩
theorem nd_broken : ndefB (defScope (top 59)) (C8.fnScope (visOf 59 1)) frBroken = true := by decide +kernel
theorem in3 {K : PySem.W.Frag} : (tbA K "_law_broken", ("_law_broken.<locals>._law_visit" : Str)) ∈ lamT K := .tail _ (.tail _ (.tail _ (.head _)))
theorem takes0N {X : Cx} : L2N.Takes X (fun _ _ _ _ => False) := fun u s' ⟨_, _, _, _, _, _, _, _, _, _, _, _, _, _, _, _, z⟩ => z.elim
theorem hot_suite {X : Cx} {a : Addr} {oe : Obj} {cls : Value} {d : Option Addr} {pn : List (Addr × Obj)} (hz : L2N.Zn cls d oe) (hf : ∃ vs, oe.data = .fields vs) : L2H.HotC (X.suite a ((a, oe) :: pn)) := let ⟨vs, hd⟩ := hf; ⟨(a, oe), ⟨rfl, vs, hd, hz.2.2 vs hd⟩, List.mem_cons_self⟩
theorem g_broken (T : TL K mg base) (NA : ∀ C, C = cS K ∨ C = cK K → NX P w K mg base C) : GC P w K mg base CX0 16 "_law_broken" ["_law_pool", "_law_session", "_law_model_here"] (spPlain K) := by
  have GS := g_shows (P := P) (w := w) (base := base) T.toTxt
  have GD := g_draw (P := P) (w := w) (base := base) T.toTxt
  obtain ⟨fI, IS⟩ := T.iS'
  refine gcT_of (T.fc (59, "_law_broken") (by decide +kernel)) sc_broken (fun vs H Q E h => ?_) (fun f A outer s H vs Q E hr h => ?_) fun _ _ _ _ _ _ us hl => match us, hl with | [_, _, _], _ => rfl
  · obtain ⟨_, _, _, _, _, _, rfl, _⟩ := h
    rfl
  · obtain ⟨p, a, m, I, n, b, rfl, t3, hb, hfree, k⟩ := h
    have nd := sc_broken.nd
    have hh := L2H.roomH_of hr
    obtain ⟨tabs0, log0, hs0, hm0, hh0⟩ := id t3.cpl
    have S := T.toTxt.sc hs0.1
    refine ⟨_, pss_cons (ps_set (i := 5) nd rfl (Or.inr rfl) (pe_gc GD hr pass0 (pa_cons (pv 0) (pa_cons pe_int pa_nil))))
      (pss_cons (ps_ndefMS (st := visOf 59 1) (T := lamN K) (i := 3) rfl (T.tb (59, "_law_broken") (by decide +kernel)) rfl (List.mem_map_of_mem in3) rfl (lamN_uq T in3) (ndef_free nd_broken) rfl rfl rfl nd rfl (.inl rfl) (.inr rfl))
      (pss_one (L2N.ps_try_as (i := 4) (n := "e") (c := .ref (cIS K)) (Wout := fun _ _ _ _ => False) (tb := fun W => tSeq (tDrop (tAttempt K I.C (fun c' => NF.of (visOf 59 1) "_law_visit" (visQ "_law_broken") (cloFrom (cellsFrom (s.heap.objs.size + 1) (defScope (top 59)).names []) (C8.fnScope (visOf 59 1)).names []) c') 3 [2, 5, 0] (fun f c' => spVisBroken K) (fun σ cls d H => W cls d σ H) (tVar 1))) (tRet (tC (.bl false)))) rfl rfl nd rfl rfl ⟨rfl, by decide, .inl IS.gC⟩ takes0N
        (fun W pn xe tk _ => by exact pss_cons (ps_expr (pe_attempt (i := 3) (j := 15) (js := [2, 5, 0]) (kv := 14) (E := fun σ cls d H => W cls d σ H) T.toTxt S (fun f c' => vis_broken T NA f c' (visQ "_law_broken") _) (by decide) (fun _ => rfl) (fun ok => Caps.made ok (ndef_free nd_broken) (ndef_fr nd_broken) rfl) hr (by decide) (passAt tk fun _ _ _ _ h => h) (pv 1) rfl (.inl rfl))) (pss_one (ps_ret pe_bl)))
        (fun ea oe cls d pn hz hf => pss_one (ps_ret (pe_and (pe_cmpR op_eq (OwnInvalidSteps.pe_byLow IS hz.zc hf (pv 4)) (pv 5) (nomark _)) (pe_one (pe_gg GS (.inr (hot_suite hz hf)) (show L2H.RoomH 15 _ from ⟨hh.dp, hh.un⟩) (pa_cons (pv 1) (pa_cons (pv 2) pa_nil)))))))))), ?_⟩
    obtain ⟨pr, lg, ea, si, hsa, sd⟩ := hs0.sesI
    have nps := t3.ne
    refine ⟨_, rfl, p, 9, rfl, t3.pool, by decide, by decide, fun H1 d f1 hp1 hd => ?_⟩
    have t1 : Three K H1 p a m I n b := ⟨hp1, t3.cpl.fr f1 (by simp; exact nps.1.symm) (by simp; exact nps.2.1.symm), tabs_fr t3.tabs f1 fun x hx => no_tbl t3.pool t3.cpl x (by simp at hx ⊢; exact .inl hx)⟩
    refine ⟨tabsN_of t1.tabs, fun f2 c' H2 eN nn T2 hf2 hfO hcO => ?_⟩
    have T2 := tabsN_to T2
    have e2 : Fx [] H1 H2 := Fx.ofN eN []
    have g2 : Fx [p] H H2 := f1.fx.trans (e2.mono (by simp))
    have ha2 := g2 _ _ hsa (fun _ => by simp; exact nps.1.symm) (fun _ z => by cases z)
    refine ⟨_, rfl, a, I.dx, _, f2, c', rfl, ha2, fs_none I pr lg ea _, rfl, a, I, pr, lg, ea, rfl, hs0.1, ha2, hfO, hcO, fun H3 x dx f3 hx0 hx3 ha3 => ?_⟩
    have g3 : Fx [p] H H3 := g2.trans (f3.fx.mono (by simp))
    have t3' : Three K H3 p a m I n b := t1.fx (e2.trans f3.fx) (by simp) (by simp) (t1.pool.fx (e2.trans f3.fx) (by simp)) (tabs_fr T2 f3 (by simp))
    refine ⟨p, a, m, I, n, b, d, rfl, rfl, t3', by omega, hfree, fun H4 ex f4 hs4 hp4 T4 hex4 σ' => ?_⟩
    obtain ⟨pr4, lg4, ea4, ha4⟩ := hs4
    have npx : p ≠ x := pool_ne_ses t3'.pool hx3
    have nax : a ≠ x := ne_of_none ha2 hx0
    have nxa : ex ≠ a := ne_of hex4 ha4 (by intro z; cases z)
    have hx4 := f4 _ _ hx3 (fun _ => by simp; exact ⟨npx.symm, nax.symm⟩) (fun _ z => by cases z)
    refine ⟨cIS K, rfl, fun ea' t => exit_ok hx4 hs0.1 ha4 ⟨rfl, true, IS.te, fun _ eo heo => ?_, (fun z => nomatch z)⟩⟩
    have g4 : Fx [a, p] H H4 := (g3.mono (by simp)).trans (f4.mono (by simp))
    have g5 : Fx [p] H (upd H4 a (.ins I.C I.dx (I.fs pr lg ea))) := g4.back hsa
    have hex5 : (upd H4 a (.ins I.C I.dx (I.fs pr lg ea))) ex = some (.xd [("position", .int d)]) := (upd_ne nxa).trans hex4
    have hp5 : PoolAt (upd H4 a (.ins I.C I.dx (I.fs pr lg ea))) p := pool_upd hp4 nps.1
    have T5 : LamX.Tabs (lamT K) (upd H4 a (.ins I.C I.dx (I.fs pr lg ea))) := tabs_upd T4 ha4 (by intro ps z; cases z) (by intro c q z; cases z)
    generalize upd H4 a (.ins I.C I.dx (I.fs pr lg ea)) = H5 at g5 hex5 hp5 T5 ⊢
    refine ⟨_, rfl, rfl, rfl, ex, .int d, rfl, hex5, _, rfl, rfl, _, rfl, ?_⟩
    rw [decide_eq_true rfl]
    refine iteT ⟨_, rfl, _, rfl, a, m, I, n, b, rfl, t3.cpl.fx g5 (by simp; exact nps.1.symm) (by simp; exact nps.2.1.symm), by omega, fun H8 f8 => ?_⟩
    exact k H8 (g5.trans (f8.fx.mono (S' := [p]) (by simp))) (hp5.fr f8 (by simp)) (tabs_fr T5 f8 (by simp))
end
end K74
end
-- K74Zq
section
set_option maxRecDepth 100000
set_option maxHeartbeats 4000000
/-! Frames that leave tables and own predicates out; a list kept out of the models' reach. -/
namespace K74
open PySem PySem.Spec PyProof.Rows L2 NdefX
open LamX (CodeO)
/-- neither a table nor an own predicate -/
def plainO : HO → Bool
  | .tbl _ => false
  | .ext _ => false
  | _ => true
/-- what stands, S, the tables and the own predicates apart -/
def FxE (S : List Addr) (H H' : Hp) : Prop := ∀ a o, H a = some o → plainO o = true → (mutO o = true → a ∉ S) → H' a = some o
theorem Fx.e {S : List Addr} {H H' : Hp} (f : Fx S H H') : FxE S H H' := fun a o e n k => f a o e k (fun ps z => by rw [z] at n; cases n)
theorem FxE.refl {S : List Addr} {H : Hp} : FxE S H H := fun _ _ h _ _ => h
theorem FxE.trans {S : List Addr} {H H' H'' : Hp} (f : FxE S H H') (g : FxE S H' H'') : FxE S H H'' := fun a o h n k => g a o (f a o h n k) n k
theorem FxE.mono {S S' : List Addr} {H H' : Hp} (f : FxE S H H') (h : ∀ a ∈ S, a ∈ S') : FxE S' H H' := fun a o e n k => f a o e n (fun m z => k m (h a z))
theorem FxE.new {S : List Addr} {H H' : Hp} {p : Addr} {o : HO} (f : FxE S H H') (h : H p = none) : FxE S H (upd H' p o) := fun a u e n k => by
  rw [upd_ne (ne_of_none e h)]
  exact f a u e n k
theorem FxE.ext {S : List Addr} {H H' : Hp} {p : Addr} {o u : HO} (f : FxE S H H') (h : H p = some u) (hu : plainO u = false) : FxE S H (upd H' p o) := fun a v e n k => by
  have : a ≠ p := fun z => by
    subst z
    rw [h] at e
    cases e
    rw [hu] at n
    cases n
  rw [upd_ne this]
  exact f a v e n k
theorem FxE.imm {S : List Addr} {H H' : Hp} {a : Addr} {o : HO} (f : FxE S H H') (h : H a = some o) (m : mutO o = false) (n : plainO o = true) : H' a = some o := f a o h n (fun z => by rw [m] at z; cases z)
theorem FxE.less {S : List Addr} {H0 H H' : Hp} {p : Addr} (f : FxE (p :: S) H H') (g : FxE S H0 H) (hp : H0 p = none) : FxE S H0 H' := fun a o e n k => f a o (g a o e n k) n (fun m z => by
  rcases List.mem_cons.mp z with q | q
  · exact ne_of_none e hp q
  · exact k m q)
theorem FxE.back {S : List Addr} {H H' : Hp} {p : Addr} {o : HO} (f : FxE (p :: S) H H') (h : H p = some o) : FxE S H (upd H' p o) := fun a u e n k => by
  by_cases z : a = p
  · subst z
    rw [upd_same, ← e, h]
  · rw [upd_ne z]
    refine f a u e n (fun m q => ?_)
    rcases List.mem_cons.mp q with q | q
    · exact z q
    · exact k m q
section
variable {K : PySem.W.Frag} {S : List Addr} {H H' : Hp}
theorem MapAt.fe {a : Addr} {n : Nat} {l : Tbl} (m : MapAt K H a n l) (f : FxE S H H') : MapAt K H' a n l := let ⟨dx, ad, h1, h2⟩ := m; ⟨dx, ad, f.imm h1 rfl rfl, f.imm h2 (mut_kz l) rfl⟩
theorem EntAt.fe {x : V} {e : Str × Str} (m : EntAt H x e) (f : FxE S H H') : EntAt H' x e := let ⟨t, h1, h2⟩ := m; ⟨t, h1, f.imm h2 rfl rfl⟩
theorem TabAt.fe {x : V} {l : Tbl} (m : TabAt H x l) (f : FxE S H H') : TabAt H' x l := let ⟨t, h1, h2⟩ := m; ⟨t, h1, f.imm h2 (mut_kz l) rfl⟩
theorem MapV.fe {n : Nat} {x : V} {l : Tbl} (m : MapV K H n x l) (f : FxE S H H') : MapV K H' n x l := let ⟨t, h1, h2⟩ := m; ⟨t, h1, h2.fe f⟩
theorem PoolAt.fe {p : Addr} (m : PoolAt H p) (f : FxE S H H') (h : p ∉ S) : PoolAt H' p := let ⟨a, b, h1, h2⟩ := m; ⟨a, b, f _ _ h1 rfl (fun _ => h), h2⟩
theorem SessD.fe {n : Nat} {pr lg ea : Addr} {tabs : List Tbl} {log : List (Str × Str)} (m : SessD K H n pr lg ea tabs log) (f : FxE S H H') : SessD K H' n pr lg ea tabs log :=
  let ⟨⟨xs, h1, h2⟩, ⟨ys, h3, h4⟩⟩ := m
  ⟨⟨xs, f.imm h1 rfl rfl, pr_fr (fun _ _ z => z.fe f) h2⟩, ⟨ys, f.imm h3 rfl rfl, pr_fr (fun _ _ z => z.fe f) h4⟩⟩
theorem SessAt.fe {s : Addr} {I : SI} {n : Nat} {tabs : List Tbl} {log : List (Str × Str)} (m : SessAt K H s I n tabs log) (f : FxE S H H') (h : s ∉ S) : SessAt K H' s I n tabs log :=
  let ⟨k, pr, lg, ea, h1, h2⟩ := m; ⟨k, pr, lg, ea, f _ _ h1 rfl (fun _ => h), h2.fe f⟩
theorem ModD.fe {tl ll : Addr} {tabs : List Tbl} {log : List (Str × Str)} (m : ModD H tl ll tabs log) (f : FxE S H H') : ModD H' tl ll tabs log :=
  let ⟨⟨xs, h1, h2⟩, ⟨ys, h3, h4⟩⟩ := m
  ⟨⟨xs, f.imm h1 (mut_refs (refs_tab h2)) rfl, pr_fr (fun _ _ z => z.fe f) h2⟩, ⟨ys, f.imm h3 (mut_refs (refs_ent h4)) rfl, pr_fr (fun _ _ z => z.fe f) h4⟩⟩
theorem ModAt.fe {m : Addr} {n : Nat} {tabs : List Tbl} {log : List (Str × Str)} (k : ModAt H m n tabs log) (f : FxE S H H') (h : m ∉ S) : ModAt H' m n tabs log :=
  let ⟨tl, ll, h1, h2⟩ := k; ⟨tl, ll, f _ _ h1 rfl (fun _ => h), h2.fe f⟩
theorem Cpl.fe {s m : Addr} {I : SI} {n b : Nat} (k : Cpl K H s m I n b) (f : FxE S H H') (hs : s ∉ S) (hm : m ∉ S) : Cpl K H' s m I n b :=
  let ⟨tabs, log, h1, h2, h3⟩ := k; ⟨tabs, log, h1.fe f hs, h2.fe f hm, h3⟩
end
/-- an empty list that only its holder may write -/
def heldO (k : Addr) : HO := .ext fun h => ∃ n : Nat, h.get? k = some { cls := .type "list", data := .seq #[] n }
section
variable {X : Cx} {pins : List (Addr × Obj)} {σ : L2.St} {H : Hp} {s : Shared} {k : Addr}
/-- the view of one thing is changed -/
theorem inv_view {o u : HO} (I : Inv X pins σ H s) (h : H k = some o) (n1 : ∀ xs, o ≠ .tup xs) (n2 : ∀ a b, o ≠ .frz a b) (n3 : ∀ ps, o ≠ .tbl ps) (n4 : ∀ y, o ≠ .own y) (hu : ObjOk X.prog X.w (upd H k u) s.heap k u) : Inv X pins σ (upd H k u) s := by
  have ne : ∀ {b : Addr}, H b = none → b ≠ k := fun {b} e z => by rw [z, h] at e; cases e
  refine ⟨I.ok, I.os, I.bare, ⟨I.base.keep, I.base.slot, fun b ob e n hx => ?_, I.base.there, fun b xs e => ?_, fun b o' u' e => ?_, fun b ps e => ?_⟩, I.loc, I.cell, ?_, fun x c e => ?_, fun p hp => ?_, fun b v e => ?_, I.len⟩
  · have q := I.base.free b ob e n hx
    rw [upd_ne (ne q)]
    exact q
  · have q := I.base.tups b xs e
    rw [upd_ne fun z => by rw [z, h] at q; exact n1 xs (Option.some.inj q)]
    exact q
  · have q := I.base.frzs b o' u' e
    rw [upd_ne fun z => by rw [z, h] at q; exact n2 _ _ (Option.some.inj q)]
    exact q
  · obtain ⟨more, q⟩ := I.base.tbls b ps e
    exact ⟨more, by rw [upd_ne fun z => by rw [z, h] at q; exact n3 _ (Option.some.inj q)]; exact q⟩
  · rw [upd_ne (ne I.free)]
    exact I.free
  · rw [upd_ne (ne (I.freeC x c e))]
    exact I.freeC x c e
  · obtain ⟨e1, e2, e3⟩ := I.pin p hp
    exact ⟨e1, by rw [upd_ne (ne e2)]; exact e2, e3⟩
  · by_cases z : b = k
    · subst z
      rw [upd_same] at e
      cases e
      exact hu
    · rw [upd_ne z] at e
      refine (I.hok b v e).stay (fun c w _ q => q) (fun c q => ?_) fun c xs q => ?_
      · rw [upd_ne fun z => by rw [z, h] at q; exact n4 _ (Option.some.inj q)]
        exact q
      · rw [upd_ne fun z => by rw [z, h] at q; exact n1 _ (Option.some.inj q)]
        exact q
theorem view_in {ss : List Stmt} {t : TS} (ht : PSs X ss t) : PSs X ss (fun D σ H => ∃ k, H k = some (.lst []) ∧ t D σ (upd H k (heldO k))) := by
  refine ⟨fun pins s σ H D I h => ?_⟩
  obtain ⟨k, hk, q⟩ := h
  obtain ⟨_, its, n, r, e⟩ := I.hok k _ hk
  cases r
  refine ht.run pins s σ _ D (inv_view (u := heldO k) I hk (by intro _ z; cases z) (by intro _ _ z; cases z) (by intro _ z; cases z) (by intro _ z; cases z) ⟨⟨n, e⟩, ⟨_, e⟩, fun h1 h2 ⟨n', e'⟩ st => ⟨n', st _ e'⟩⟩) q
theorem view_out {st : Stmt} {t : TS} (ht : PS X st t) : PS X st (fun D σ H => ∃ k, H k = some (heldO k) ∧ ((∀ q, heldO k ≠ CodeO k q) → t D σ (upd H k (.lst [])))) := by
  refine ⟨fun pins s σ H D I h => ?_⟩
  obtain ⟨k, hk, q⟩ := h
  obtain ⟨⟨n, e⟩, _⟩ := I.hok k _ hk
  refine ht.run pins s σ _ D (inv_view (u := .lst []) I hk (by intro _ z; cases z) (by intro _ _ z; cases z) (by intro _ z; cases z) (by intro _ z; cases z) ⟨by show 0 ≤ sizeLine; decide, [], n, .nil, e⟩) (q fun qn z => ?_)
  rw [z] at hk
  obtain ⟨c, oc, vs, t', e1, e2, e3, e4⟩ := codeO_at I.hok hk
  cases e1
  rw [e] at e2
  cases e2
  cases e3
end
end K74
end
-- K74Zr
section
set_option maxRecDepth 100000
set_option maxHeartbeats 4000000
/-! _law_clones. -/
namespace K74
open PySem PySem.Spec PyProof.Rows L2 NdefX
open LamX (CodeO)
section
variable {P : Program} {w : World} {K : PySem.W.Frag} {mg : Str → Option Value} {base : Heap}
theorem tabs_ext {L : List (Addr × Str)} {H : Hp} {k : Addr} {u : HO} (T : LamX.Tabs L H) (h : H k = some (heldO k)) (hq : ∀ q, heldO k ≠ CodeO k q) : LamX.Tabs L (upd H k u) := fun p hp => by
  obtain ⟨ps, h1, h2, h3⟩ := T p hp
  refine ⟨ps, (upd_ne (fun z => by rw [z, h] at h1; cases h1)).trans h1, h2, fun pos cv hc => ?_⟩
  obtain ⟨c, e1, e2⟩ := h3 pos cv hc
  exact ⟨c, e1, (upd_ne (fun z => by subst z; exact hq _ (Option.some.inj (h.symm.trans e2)))).trans e2⟩
theorem Three.fe {H H' : Hp} {S : List Addr} {p s m : Addr} {I : SI} {n b : Nat} (t : Three K H p s m I n b) (f : FxE S H H') (hp : p ∉ S) (hs : s ∉ S) (hm : m ∉ S) (hT : LamX.Tabs (lamT K) H') : Three K H' p s m I n b := ⟨t.pool.fe f hp, t.cpl.fe f hs hm, hT⟩
theorem FxE.lessAt {S : List Addr} {H0 H1 H H' : Hp} {q : Addr} (f : FxE (q :: S) H H') (g : FxE S H0 H) (g1 : FxE S H0 H1) (hq : H1 q = none) : FxE S H0 H' := fun a o e n k => f a o (g a o e n k) n (fun m z => by
  rcases List.mem_cons.mp z with y | y
  · have := g1 a o e n k
    rw [y, hq] at this
    cases this
  · exact k m y)
/-- nothing plain stood there -/
def NewO (H : Hp) (q : Addr) : Prop := ∀ u, H q = some u → plainO u = false
theorem NewO.ofE {S : List Addr} {H H1 : Hp} {q : Addr} (f : FxE S H H1) (h : H1 q = none) (hq : q ∉ S) : NewO H q := fun u e => by
  cases z : plainO u with
  | false => rfl
  | true =>
    have := f q u e z (fun _ => hq)
    rw [h] at this
    cases this
theorem NewO.back {H H1 : Hp} {q : Addr} (n : NewO H1 q) (f : FxE [] H H1) : NewO H q := fun u e => by
  cases z : plainO u with
  | false => rfl
  | true =>
    have := n u (f q u e z (fun _ => by simp))
    rw [z] at this
    cases this
theorem FxE.lessNew {S : List Addr} {H H' : Hp} {q : Addr} (f : FxE (q :: S) H H') (h : NewO H q) : FxE S H H' := fun a o e n k => f a o e n (fun m z => by
  rcases List.mem_cons.mp z with y | y
  · subst y
    rw [h o e] at n
    cases n
  · exact k m y)
def spVisClones (K : PySem.W.Frag) (ws : List (Option V)) : Sp := fun vs H Q _ => ∃ (p s m kk : Addr) (I : SI) (n b : Nat), vs = [.ref s] ∧ ws = [some (.ref kk), some (.ref m), some (.ref p)] ∧ Three K H p s m I n b ∧ b + 9 ≤ 1000 ∧ I.Free ∧ H kk = some (heldO kk) ∧
  ∀ H' tt tw sh I2, FxE [p, s] H H' → (∃ pr lg ea, H' s = some (.ins I.C I.dx (I.fs pr lg ea))) → PoolAt H' p → LamX.Tabs (lamT K) H' → H' kk = some (.lst [.ref tt]) → H' tt = some (.tup [.ref tw, .ref sh]) → tw ≠ s → NewO H tw → NewO H sh → Cpl K H' tw sh I2 n (b + 4) → I2.Free → Q (.bl true) H'
abbrev frClones : List Str := ["_law_held", "_law_model_here", "_law_pool"]
abbrev nVisClones : List Str := ["_law_inner", "_law_held", "_law_model_here", "_law_pool", "_law_own", "_law_good", "_law_twin", "_law_shown"]
theorem ns_visClones : NScope nVisClones ["_law_inner"] frClones (C8.fnScope (visOf 60 1)) := nscope_by (by decide +kernel)
theorem vis_clones (T : TL K mg base) (NA : ∀ C, C = cS K ∨ C = cK K → NX P w K mg base C) (FA : ∀ C, C = cS K ∨ C = cK K → FX P w K mg base C) (f c : Addr) (q : Str) (cl : List (Str × Addr)) : NOk P w K mg base (L2N.CX P w) 17 f (NF.of (visOf 60 1) "_law_visit" q cl c) ["_law_inner"] frClones (spVisClones K) := by
  have GT := g_turns (P := P) (w := w) T NA
  have GB := g_broken (P := P) (w := w) T NA
  have GS := g_shows (P := P) (w := w) (base := base) T.toTxt
  refine nok_of (F := NF.of (visOf 60 1) "_law_visit" q cl c) ns_visClones (fun _ _ _ us hl => match us, hl with | [_], _ => rfl) (fun ws vs H Q E h => ?_) (fun A outer s H vs ws Q E hr hf hc hw h => ?_)
  · obtain ⟨_, _, _, _, _, _, _, rfl, _⟩ := h
    rfl
  · obtain ⟨p, a, m, kk, I, n, b, rfl, rfl, t3, hb, hfree, hk, k⟩ := h
    have nd := ns_visClones.nd
    have hrh := L2H.roomH_of hr
    obtain ⟨tabs0, log0, hs0, hm0, hh0⟩ := id t3.cpl
    have S := T.toTxt.sc hs0.1
    have GCl := m_clone (P := P) (w := w) (base := base) T.toTX S (FA I.C hs0.1.two)
    refine ⟨_, pss_cons (ps_set (i := 4) nd rfl (Or.inl rfl) (pe_callTy call_dictD (by rfl) (T.z "dict") (by decide +kernel) (pa_cons (pv 2) pa_nil)))
      (pss_cons (ps_set (i := 5) nd rfl (Or.inl rfl) (pe_gc GT hr pass0 (pa_cons (pv 3) (pa_cons (pv 0) (pa_cons (pv 4) (pa_cons pe_int pa_nil))))))
      (pss_cons (ps_par (i := 6) (j := 7) rfl nd rfl rfl (by decide) rfl rfl (pa_cons (pe_mc0 (pv 0) S.cf.cl GCl hr pass0) (pa_cons (pe_callTy call_dictD (by rfl) (T.z "dict") (by decide +kernel) (pa_cons (pv 4) pa_nil)) pa_nil)) (by rfl))
      (pss_cons (view_out (ps_expr (pe_bm PySem.F.plainAttrs_list PySem.F.slot_list_append PySem.F.type_list_append mt_append (pv 1) (pa_cons (pe_tup (pa_cons (pv 6) (pa_cons (pv 7) pa_nil))) pa_nil))))
      (pss_cons (ps_set (i := 5) nd rfl (Or.inl rfl) (pe_and (pv 5) (pe_and (pe_gc GT hr pass0 (pa_cons (pv 3) (pa_cons (pv 6) (pa_cons (pv 7) (pa_cons pe_int pa_nil))))) (pe_one (pe_gc GT hr pass0 (pa_cons (pv 3) (pa_cons (pv 0) (pa_cons (pv 4) (pa_cons pe_int pa_nil)))))))))
      (pss_cons (ps_set (i := 5) nd rfl (Or.inl rfl) (pe_and (pv 5) (pe_and (pe_gc GB hr pass0 (pa_cons (pv 3) (pa_cons (pv 0) (pa_cons (pv 4) pa_nil)))) (pe_one (pe_gc GT hr pass0 (pa_cons (pv 3) (pa_cons (pv 0) (pa_cons (pv 4) (pa_cons pe_int pa_nil)))))))))
      (pss_one (ps_ret (pe_and (pv 5) (pe_one (pe_gg GS (.inl rfl) hrh (pa_cons (pv 6) (pa_cons (pv 7) pa_nil)))))))))))), ?_⟩
    obtain ⟨tl, ll, hmm⟩ := t3.cpl.modN
    have nps := t3.ne
    refine ⟨_, rfl, m, _, rfl, .inl hmm, fun o ho => ?_⟩
    have f1 : Fr [] H (upd H o (.dK (mdl n tl ll))) := Fr.refl.newer ho
    have c1 : Cpl K (upd H o (.dK (mdl n tl ll))) a o I n b := t3.cpl.copy hmm ho
    have t1 : Three K (upd H o (.dK (mdl n tl ll))) p a o I n b := ⟨t3.pool.fr f1 (by simp), c1, tabs_fr t3.tabs f1 (by simp)⟩
    have hk1 := f1 _ _ hk fun _ => by simp
    generalize upd H o (.dK (mdl n tl ll)) = H1 at f1 t1 hk1 ⊢
    have n1 := t1.ne
    refine ⟨_, rfl, _, rfl, _, rfl, p, a, o, I, n, b, 2, rfl, t1, by omega, hfree, fun H2 f2 t2 => ?_⟩
    have n2 := t2.ne
    have hk2 : H2 kk = some (heldO kk) := f2 _ _ hk1 (fun z => by cases z) (fun _ z => by cases z)
    obtain ⟨tabs2, log2, hs2, hm2, hh2⟩ := id t2.cpl
    obtain ⟨pr2, lg2, ea2, si2, hsa2, sd2⟩ := hs2.sesI
    obtain ⟨tl2, ll2, ho2⟩ := t2.cpl.modN
    refine ⟨_, rfl, a, I.dx, _, rfl, hsa2, fs_none I pr2 lg2 ea2 _, a, I, n, tabs2, log2, rfl, rfl, hs2, hh2.n1, hh2.n5, fun mm e => by rw [hfree mm e]; exact Nat.zero_le _, fun H3 t dxt pr3 lg3 ea3 f3 ht0 hs3 ht3 ss3 => ?_⟩
    have ho3 := f3 _ _ ho2 fun _ => by simp
    have hsa3 := f3 _ _ hsa2 fun _ => by simp
    refine ⟨_, rfl, o, _, rfl, .inl ho3, fun h hh0' => ?_⟩
    have f4 : Fr [] H3 (upd H3 h (.dK (mdl n tl2 ll2))) := Fr.refl.newer hh0'
    have ct3 : Cpl K H3 t o ⟨I.C, dxt, I.least⟩ n (b + 2) := ⟨tabs2, log2, ss3, hm2.fx f3.fx (by simp), hh2⟩
    have ct4 : Cpl K (upd H3 h (.dK (mdl n tl2 ll2))) t h ⟨I.C, dxt, I.least⟩ n (b + 2) := ct3.copy ho3 hh0'
    have t4 : Three K (upd H3 h (.dK (mdl n tl2 ll2))) p a o I n (b + 2) := (t2.fr f3 (by simp) (by simp) (by simp) (by simp)).fr f4 (by simp) (by simp) (by simp) (by simp)
    have hk4 : (upd H3 h (.dK (mdl n tl2 ll2))) kk = some (heldO kk) := f4 _ _ (f3 _ _ hk2 fun _ => by simp) fun _ => by simp
    have nat : a ≠ t := ne_of_none hsa2 ht0
    have not_ : o ≠ t := ne_of_none ho2 ht0
    have nah : a ≠ h := ne_of_none hsa3 hh0'
    have noh : o ≠ h := ne_of_none ho3 hh0'
    generalize upd H3 h (.dK (mdl n tl2 ll2)) = H4 at f4 ct4 t4 hk4 ⊢
    refine ⟨_, _, rfl, kk, hk4, fun hne => ⟨_, rfl, .inl ⟨rfl, _, SqL.of upd_same⟩, _, rfl, _, rfl, by show 2 ≤ sizeLine; decide, fun tt htt => ?_⟩⟩
    have nkt : kk ≠ tt := ne_of_none (upd_same (H := H4)) htt
    have htt4 : H4 tt = none := by rw [← htt, upd_ne nkt.symm]
    refine ⟨kk, [], .ref tt, rfl, rfl, (upd_ne nkt).trans upd_same, by decide, ?_⟩
    have e6 : FxE [] H4 (upd (upd (upd H4 kk (.lst [])) tt (.tup [.ref t, .ref h])) kk (.lst ([] ++ [.ref tt]))) := ((FxE.refl.ext hk4 rfl).new htt4).ext hk4 rfl
    have T6 : LamX.Tabs (lamT K) (upd (upd (upd H4 kk (.lst [])) tt (.tup [.ref t, .ref h])) kk (.lst ([] ++ [.ref tt]))) :=
      tabs_upd (tabs_fr (tabs_ext t4.tabs hk4 hne) (S := []) (Fr.refl.newer htt) (by simp)) ((upd_ne nkt).trans upd_same) (by intro ps z; cases z) (by intro c q z; cases z)
    have hk6 : (upd (upd (upd H4 kk (.lst [])) tt (.tup [.ref t, .ref h])) kk (.lst ([] ++ [.ref tt]))) kk = some (.lst [.ref tt]) := upd_same
    have ht6 : (upd (upd (upd H4 kk (.lst [])) tt (.tup [.ref t, .ref h])) kk (.lst ([] ++ [.ref tt]))) tt = some (.tup [.ref t, .ref h]) := (upd_ne nkt.symm).trans upd_same
    generalize upd (upd (upd H4 kk (.lst [])) tt (.tup [.ref t, .ref h])) kk (.lst ([] ++ [.ref tt])) = H6 at e6 T6 hk6 ht6 ⊢
    have t6 : Three K H6 p t h ⟨I.C, dxt, I.least⟩ n (b + 2) := ⟨t4.pool.fe e6 (by simp), ct4.fe e6 (by simp) (by simp), T6⟩
    have a6 : Three K H6 p a o I n (b + 2) := t4.fe e6 (by simp) (by simp) (by simp) T6
    have nt := t6.ne
    have na := a6.ne
    refine ⟨_, rfl, true, rfl, iteT ⟨_, rfl, _, rfl, _, rfl, p, t, h, ⟨I.C, dxt, I.least⟩, n, b + 2, 2, rfl, t6, by omega, hfree, fun H7 f7 t7 => ⟨true, rfl, iteT ?_⟩⟩⟩
    have a7 : Three K H7 p a o I n (b + 2) := ⟨t7.pool, a6.cpl.fx f7 (by simp; exact ⟨na.1.symm, nat, nah⟩) (by simp; exact ⟨na.2.1.symm, not_, noh⟩), t7.tabs⟩
    refine ⟨_, rfl, _, rfl, _, rfl, p, a, o, I, n, b + 2, 2, rfl, a7, by omega, hfree, fun H8 f8 t8 => ?_⟩
    have c8 := t7.cpl.fx f8 (by simp; exact ⟨nt.1.symm, nat.symm, not_.symm⟩) (by simp; exact ⟨nt.2.1.symm, nah.symm, noh.symm⟩)
    refine ⟨_, rfl, true, rfl, iteT ⟨_, rfl, _, rfl, _, rfl, p, a, o, I, n, b + 2 + 2, rfl, t8, by omega, hfree, fun H9 f9 p9 T9 => ⟨true, rfl, iteT ?_⟩⟩⟩
    have t9 : Three K H9 p a o I n (b + 2 + 2) := t8.fx f9 (by simp; exact na.1.symm) (by simp; exact na.2.1.symm) p9 T9
    have c9 := c8.fx f9 (by simp; exact nt.1.symm) (by simp; exact nt.2.1.symm)
    refine ⟨_, rfl, _, rfl, _, rfl, p, a, o, I, n, b + 2 + 2, 2, rfl, t9, by omega, hfree, fun H10 f10 t10 => ?_⟩
    have c10 := c9.fx f10 (by simp; exact ⟨nt.1.symm, nat.symm, not_.symm⟩) (by simp; exact ⟨nt.2.1.symm, nah.symm, noh.symm⟩)
    refine ⟨_, rfl, true, rfl, iteT ⟨_, rfl, _, rfl, t, h, ⟨I.C, dxt, I.least⟩, n, b + 2 + 2, rfl, c10, by omega, fun H11 f11 => ?_⟩⟩
    -- frames
    have e1 : FxE [p, a] H H1 := f1.fx.e.mono (by simp)
    have e2 : FxE [p, a] H H2 := FxE.lessAt (q := o) (f2.e.mono (S' := [o, p, a]) (by simp)) e1 FxE.refl ho
    have e3 : FxE [p, a] H H3 := e2.trans (f3.fx.e.mono (by simp))
    have eH6 : FxE [p, a] H H6 := (e3.trans (f4.fx.e.mono (by simp))).trans (e6.mono (by simp))
    have e7a : FxE [h, p, a] H H7 := FxE.lessAt (q := t) (f7.e.mono (S' := [t, h, p, a]) (by simp)) (eH6.mono (by simp)) (e2.mono (by simp)) ht0
    have e7 : FxE [p, a] H H7 := FxE.lessAt (q := h) e7a FxE.refl e3 hh0'
    have e8 : FxE [p, a] H H8 := FxE.lessAt (q := o) (f8.e.mono (S' := [o, p, a]) (by simp)) e7 FxE.refl ho
    have e9 : FxE [p, a] H H9 := e8.trans (f9.e.mono (by simp))
    have e10 : FxE [p, a] H H10 := FxE.lessAt (q := o) (f10.e.mono (S' := [o, p, a]) (by simp)) e9 FxE.refl ho
    have keep : ∀ y u, H6 y = some u → mutO u = false → plainO u = true → H11 y = some u := fun y u e m pl => by
      have nt' : ∀ ps, u ≠ .tbl ps := fun ps z => by rw [z] at pl; cases pl
      have nm : ∀ {S : List Addr}, mutO u = true → y ∉ S := fun z => by rw [m] at z; cases z
      exact f11 _ _ (f10 _ _ (f9 _ _ (f8 _ _ (f7 _ _ e nm nt') nm nt') nm nt') nm nt') nm
    obtain ⟨pr9, lg9, ea9, hs10⟩ := t10.cpl.sesN
    exact k H11 tt t h ⟨I.C, dxt, I.least⟩ (e10.trans (f11.fx.e.mono (by simp))) ⟨pr9, lg9, ea9, f11 _ _ hs10 fun _ => by simp⟩ (t10.pool.fr f11 (by simp)) (tabs_fr t10.tabs f11 (by simp)) (keep _ _ hk6 rfl rfl) (keep _ _ ht6 rfl rfl) nat.symm (NewO.ofE e2 ht0 (by simp; exact ⟨nt.1.symm, nat.symm⟩)) (NewO.ofE e3 hh0' (by simp; exact ⟨nt.2.1.symm, nah.symm⟩)) (c10.fr f11 (by simp) (by simp)) hfree
abbrev nClones : List Str := ["_law_pool", "_law_session", "_law_model_here", "_law_visit", "_law_twin", "_law_shown", "_law_held"]
theorem sc_clones : FnScope nClones ["_law_pool", "_law_session", "_law_model_here"] (defScope (top 60)) := ⟨rfl, rfl, rfl, by decide +kernel, rfl, by decide +kernel, by decide +kernel⟩
theorem nd_clones : ndefB (defScope (top 60)) (C8.fnScope (visOf 60 1)) frClones = true := by decide +kernel
def spClones (K : PySem.W.Frag) : Sp := fun vs H Q _ => ∃ (p s m : Addr) (I : SI) (n b : Nat), vs = [.ref p, .ref s, .ref m] ∧ Three K H p s m I n b ∧ b + 9 ≤ 1000 ∧ I.Free ∧ ∀ H', FxE [p] H H' → PoolAt H' p → LamX.Tabs (lamT K) H' → Q (.bl true) H'
theorem in4 {K : PySem.W.Frag} : (tbA K "_law_clones", ("_law_clones.<locals>._law_visit" : Str)) ∈ lamT K := .tail _ (.tail _ (.tail _ (.tail _ (.head _))))
theorem g_clones (T : TL K mg base) (NA : ∀ C, C = cS K ∨ C = cK K → NX P w K mg base C) (FA : ∀ C, C = cS K ∨ C = cK K → FX P w K mg base C) : GC P w K mg base CX0 19 "_law_clones" ["_law_pool", "_law_session", "_law_model_here"] (spClones K) := by
  have GT := g_turns (P := P) (w := w) T NA
  have GP := g_plain (P := P) (w := w) T NA
  have GS := g_shows (P := P) (w := w) (base := base) T.toTxt
  refine gcT_of (T.fc (60, "_law_clones") (by decide +kernel)) sc_clones (fun vs H Q E h => ?_) (fun f A outer s H vs Q E hr h => ?_) fun _ _ _ _ _ _ us hl => match us, hl with | [_, _, _], _ => rfl
  · obtain ⟨_, _, _, _, _, _, rfl, _⟩ := h
    rfl
  · obtain ⟨p, a, m, I, n, b, rfl, t3, hb, hfree, k⟩ := h
    have nd := sc_clones.nd
    have hh := L2H.roomH_of hr
    obtain ⟨tabs0, log0, hs0, hm0, hh0⟩ := id t3.cpl
    have S := T.toTxt.sc hs0.1
    refine ⟨_, pss_cons (ps_set (i := 6) nd rfl (Or.inr rfl) (pe_lst pa_nil))
      (view_in (pss_cons (ps_ndefMS (st := visOf 60 1) (T := lamN K) (i := 3) rfl (T.tb (60, "_law_clones") (by decide +kernel)) rfl (List.mem_map_of_mem in4) rfl (lamN_uq T in4) (ndef_free nd_clones) rfl rfl rfl nd rfl (.inl rfl) (.inr rfl))
      (pss_cons (ps_if (PW.pt (pw_or (pt_cmpR L2.op_notBl (pe_attempt (i := 3) (js := [6, 2, 0]) (kv := 17) T.toTxt S (fun f c' => vis_clones T NA FA f c' (visQ "_law_clones") _) (by decide) (fun _ => rfl) (fun ok => Caps.made ok (ndef_free nd_clones) (ndef_fr nd_clones) rfl) hr (by decide) (E := fun _ => E0) (fun pins σ H s e s' => passN pins σ H s e s') (pv 1) rfl (.inl rfl)) pe_bl (nomark _))
          (pw_or1 (pt_not (pt_val (pe_gg GS (.inl rfl) hh (pa_cons (pv 1) (pa_cons (pv 2) pa_nil)))))))) (pss_one (ps_ret pe_bl)) pss_nil)
      (pss_cons (ps_asg (pe_ix ix_list (pv 6) pe_int (fun _ _ => rfl)) (pg_tup rfl (pgs_cons (pg_name (i := 4) nd rfl (Or.inl rfl)) (pgs_cons (pg_name (i := 5) nd rfl (Or.inl rfl)) pgs_nil))))
      (pss_one (ps_ret (pe_and (pe_gg GS (.inl rfl) hh (pa_cons (pv 4) (pa_cons (pv 5) pa_nil))) (pe_and (pe_gc GP hr pass0 (pa_cons (pv 0) (pa_cons (pv 4) (pa_cons (pv 5) pa_nil)))) (pe_one (pe_gc GT hr pass0 (pa_cons (pv 0) (pa_cons (pv 4) (pa_cons (pv 5) (pa_cons pe_int pa_nil)))))))))))))), ?_⟩
    obtain ⟨pr, lg, ea, si, hsa, sd⟩ := hs0.sesI
    obtain ⟨tl, ll, hmm⟩ := t3.cpl.modN
    have nps := t3.ne
    refine ⟨by show 0 ≤ sizeLine; decide, fun kk hkk => ⟨kk, upd_same, ?_⟩⟩
    rw [upd_upd]
    have f1 : Fr [] H (upd H kk (heldO kk)) := Fr.refl.newer hkk
    have hk1 : (upd H kk (heldO kk)) kk = some (heldO kk) := upd_same
    have t1 : Three K (upd H kk (heldO kk)) p a m I n b := t3.fr f1 (by simp) (by simp) (by simp) (by simp)
    generalize upd H kk (heldO kk) = H1 at f1 hk1 t1 ⊢
    refine ⟨tabsN_of t1.tabs, fun f2 c' H2 eN nn T2 hf2 hfO hcO => ?_⟩
    have T2 := tabsN_to T2
    have e2 : Fx [] H1 H2 := Fx.ofN eN []
    have hk2 : H2 kk = some (heldO kk) := eN _ _ hk1 (by intro ps z; cases z)
    have g2 : Fx [] H H2 := f1.fx.trans e2
    have ha2 := g2 _ _ hsa (fun _ => by simp) (fun _ z => by cases z)
    refine ⟨_, rfl, a, I.dx, _, f2, c', rfl, ha2, fs_none I pr lg ea _, rfl, a, I, pr, lg, ea, rfl, hs0.1, ha2, hfO, hcO, fun H3 x dx f3 hx0 hx3 ha3 => ?_⟩
    have g3 : Fx [] H H3 := g2.trans f3.fx
    have hk3 := f3 _ _ hk2 fun _ => by simp
    have t3' : Three K H3 p a m I n b := t1.fx (e2.trans f3.fx) (by simp) (by simp) (t1.pool.fx (e2.trans f3.fx) (by simp)) (tabs_fr T2 f3 (by simp))
    refine ⟨p, a, m, kk, I, n, b, rfl, rfl, t3', hb, hfree, hk3, fun H4 tt tw sh I2 f4 hs4 hp4 T4 hk4 htt4 ntw new1 new2 c4 free2 => ?_⟩
    obtain ⟨pr4, lg4, ea4, ha4⟩ := hs4
    have npx : p ≠ x := pool_ne_ses t3'.pool hx3
    have nax : a ≠ x := ne_of_none ha2 hx0
    have nka : kk ≠ a := (ne_of_none hsa hkk).symm
    have nta : tt ≠ a := ne_of htt4 ha4 (by intro z; cases z)
    obtain ⟨tl4, ll4, hsh4⟩ := c4.modN
    have nsa : sh ≠ a := ne_of hsh4 ha4 (by intro z; cases z)
    have hx4 := f4 _ _ hx3 rfl (fun _ => by simp; exact ⟨npx.symm, nax.symm⟩)
    refine exit_ok hx4 hs0.1 ha4 ?_
    have g4 : FxE [a, p] H H4 := (g3.e.mono (by simp)).trans (f4.mono (by simp))
    have g5 : FxE [p] H (upd H4 a (.ins I.C I.dx (I.fs pr lg ea))) := g4.back hsa
    have hk5 : (upd H4 a (.ins I.C I.dx (I.fs pr lg ea))) kk = some (.lst [.ref tt]) := (upd_ne nka).trans hk4
    have ht5 : (upd H4 a (.ins I.C I.dx (I.fs pr lg ea))) tt = some (.tup [.ref tw, .ref sh]) := (upd_ne nta).trans htt4
    have c5 : Cpl K (upd H4 a (.ins I.C I.dx (I.fs pr lg ea))) tw sh I2 n (b + 4) := c4.fx (Fx.refl.set (S := [a]) (by simp) ha4 rfl) (by simp; exact ntw) (by simp; exact nsa)
    have hp5 : PoolAt (upd H4 a (.ins I.C I.dx (I.fs pr lg ea))) p := pool_upd hp4 nps.1
    have T5 : LamX.Tabs (lamT K) (upd H4 a (.ins I.C I.dx (I.fs pr lg ea))) := tabs_upd T4 ha4 (by intro ps z; cases z) (by intro c q z; cases z)
    generalize upd H4 a (.ins I.C I.dx (I.fs pr lg ea)) = H5 at g5 hk5 ht5 c5 hp5 T5 ⊢
    refine ⟨true, true, rfl, rfl, _, rfl, ?_⟩
    rw [show (!decide (true = true)) = false from rfl]
    refine iteF ⟨_, rfl, _, rfl, a, m, I, n, b, rfl, t3.cpl.fe g5 (by simp; exact nps.1.symm) (by simp; exact nps.2.1.symm), by omega, fun H6 f6 => ⟨_, rfl, ?_⟩⟩
    refine iteF ⟨_, rfl, kk, _, 0, _, rfl, rfl, SqL.of (f6 _ _ hk5 fun _ => by simp), rfl, tt, _, rfl, SqT.of (f6 _ _ ht5 fun _ => by simp), rfl, ?_⟩
    have c6 := c5.fr f6 (by simp) (by simp)
    refine ⟨_, _, rfl, _, _, rfl, rfl, _, rfl, _, rfl, tw, sh, I2, n, b + 4, rfl, c6, by omega, fun H7 f7 => ⟨true, rfl, iteT ?_⟩⟩
    have t7 : Three K H7 p tw sh I2 n (b + 4) := ⟨(hp5.fr f6 (by simp)).fr f7 (by simp), c6.fr f7 (by simp) (by simp), tabs_fr (tabs_fr T5 f6 (by simp)) f7 (by simp)⟩
    have n7 := t7.ne
    refine ⟨_, rfl, _, rfl, _, rfl, p, tw, sh, I2, n, b + 4, rfl, t7, by omega, free2, fun H8 f8 p8 T8 => ⟨true, rfl, iteT ?_⟩⟩
    have t8 : Three K H8 p tw sh I2 n (b + 4) := t7.fx f8 (by simp; exact n7.1.symm) (by simp; exact n7.2.1.symm) p8 T8
    refine ⟨_, rfl, _, rfl, _, rfl, p, tw, sh, I2, n, b + 4, 1, rfl, t8, by omega, free2, fun H9 f9 t9 => ?_⟩
    have e8 : FxE [p] H H8 := ((g5.trans (f6.fx.e.mono (by simp))).trans (f7.fx.e.mono (by simp))).trans (f8.e.mono (by simp))
    have e9 : FxE [tw, sh, p] H H9 := (e8.mono (by simp)).trans (f9.e.mono (by simp))
    exact k H9 ((e9.lessNew (new1.back g3.e)).lessNew (new2.back g3.e)) t9.pool t9.tabs
end
end K74
end
-- K74Zs
section
set_option maxRecDepth 100000
set_option maxHeartbeats 4000000
/-! _law_refused. -/
namespace K74
open PySem PySem.Spec PyProof.Rows L2 NdefX
open LamX (CodeO)
def tMethS (C : Addr) (m : Str) (sp : Sp) (E : L2.St → XK) (ta : TE) (t : TA) : TE := fun σ H Q => ta σ H fun x H1 => ∃ a dx fs, x = .ref a ∧ H1 a = some (.ins C dx fs) ∧ fs.lookup m = none ∧ t σ H1 fun vs H2 => sp (x :: vs) H2 Q (E σ)
section
variable {X : Cx} {C : Addr} {j k : Nat} {x : Str} {ps : List Str} {sp : Sp} {e o : Expr} {es : List Expr} {t : TA} {ta : TE} {p pos apos : Pos} {CX : CXT} {E : L2.St → XK}
/-- o.m(..), the wish of an exception told for the names as they are -/
theorem pe_mcS {pl : Sem Bool} (he : PE X o ta) (cl : Cls X.K C) (G : MC X.prog X.w X.K X.mg X.base CX C j x ps sp) (hr : Room k X.A) (hx : ∀ (pins : List (Addr × Obj)) (σ : L2.St) (H : Hp) (s : Shared) (e : Value) (s' : Shared), Inv X pins σ H s → CX X.stack H s (E σ) e s' → X.xe e s') (ha : PA X (e :: es) t) (hjk : j ≤ k := by decide)
    (hst : starEach (e :: es) X.env = (false, eval e X.env) :: starEach es X.env := by rfl) (hpl : (backTo pos (starEach es X.env)).any (·.1) = false := by rfl)
    (ht : eval (.Call (.Attribute o x apos) (e :: es) [] pos) X.env = (do
      let ov ← eval o X.env
      standAt apos.atName
      let (f, first) ← holding [ov] (getMethod ov x pl)
      callWith pos f first (backTo pos (starEach (e :: es) X.env)) (backToKw pos (keywordEach [] X.env))) := by rfl) :
    PE X (.Call (.Attribute o x apos) (e :: es) [] pos) (tMethS C x sp E ta t) := by
  obtain ⟨f, fd, F1, hm, hb⟩ := G.ex
  refine ⟨fun pins s σ H Q I h => ?_⟩
  refine PySem.W.methodCall_KW (pl := pl) (thn (he.run pins s σ H _ I h) fun u s1 ⟨y, H1, I1, rx, a, dx, fs, ex, ea, l, q⟩ => ?_) ht
  subst ex
  obtain rfl : u = Value.ref a := rx
  refine getmeth_ok I1 ea cl hm l ?_
  refine PySem.W.callWith_K (first := [.ref a]) (h₀ := X.base) I.ok.mod.kin hm.kp (thn (ha.run pos pins s1 σ H1 _ I1 q) fun us s2 ⟨vs, H2, I2, r, q2⟩ => ⟨I2.kIn, ?_⟩) hst hpl
  have hl : (Value.ref a :: us).length = ps.length := by
    have := F1.len _ _ _ _ q2
    rw [← this]
    have := r.length
    simp
    omega
  have b := hb s2 (.ref a :: us) I2.kIn (by rw [List.append_nil]; exact hl)
  rw [List.append_nil] at b
  show wpAny _ _ (call (.ref f) (.ref a :: us)) _ _ _
  refine wpAny_call (codeAny_mono (F1.run X.A X.stack s2 H2 _ (.ref a :: us) (.ref a :: vs) Q (E σ) (hr.mono hjk) I2.env0 b (.cons rfl r) q2) fun r s' hq => ?_)
  cases r with
  | error e => exact hx pins σ H2 s2 e s' I2 hq
  | ok fl =>
    cases fl with
    | ret u => exact I2.after hq
    | next => exact False.elim hq
    | brk => exact False.elim hq
    | cont => exact False.elim hq
end
theorem pow3 : ∀ n : Nat, 1 ≤ n → n ≤ 5 → (powE n (fullT n) 3).length = n ∧ (stepsT (powE n (fullT n) 3) [.forget 0]).length = n - 1 := fun n h1 h2 => by
  rcases (show n = 1 ∨ n = 2 ∨ n = 3 ∨ n = 4 ∨ n = 5 by omega) with rfl | rfl | rfl | rfl | rfl <;> decide +kernel
section
variable {P : Program} {w : World} {K : PySem.W.Frag} {mg : Str → Option Value} {base : Heap}
theorem hist0 {n : Nat} (h1 : 1 ≤ n) (h5 : n ≤ 5) : Hist n 0 ([] ++ [fullT n]) [] := ⟨h1, h5, rfl, by simp, fun x hx => by simp at hx; subst hx; exact full_ga n, fun e he => by cases he⟩
theorem hist1 {n : Nat} (h1 : 1 ≤ n) (h5 : n ≤ 5) : Hist n 1 ([fullT n] ++ [powE n (fullT n) 3]) [("ann", "power")] := ⟨h1, h5, rfl, by simp, fun x hx => by
  simp at hx
  rcases hx with rfl | rfl
  · exact full_ga n
  · exact powE_ga (full_ga n).toGood 3, fun e he => by rw [List.mem_singleton.mp he]; exact ⟨by decide +kernel, by decide +kernel⟩⟩
def spVisRefused (K : PySem.W.Frag) : Sp := fun vs H Q _ => ∃ (s : Addr) (I : SI) (n : Nat), vs = [.ref s] ∧ I.C = cK K ∧ I.least = some n ∧ 1 ≤ n ∧ n ≤ 5 ∧ SessAt K H s I n [fullT n] [] ∧
  ∀ H' L, Fr [s] H H' → (∃ pr lg ea, H' s = some (.ins I.C I.dx (I.fs pr lg ea))) → H' L = some (.lst [.int ((n : Int) - 1), .int 1]) → Q (.ref L) H'
abbrev nVisRefused : List Str := ["_law_inner", "e"]
theorem ns_visRefused : NScope nVisRefused ["_law_inner"] [] (C8.fnScope (visOf 61 1)) := nscope_by (by decide +kernel)
theorem vis_refused (T : TK P K mg base) (f c : Addr) (q : Str) (cl : List (Str × Addr)) : NOk P w K mg base (L2N.CX P w) 14 f (NF.of (visOf 61 1) "_law_visit" q cl c) ["_law_inner"] [] (fun _ => spVisRefused K) := by
  have SK := T.toTxt.scK
  have NK := next_K (w := w) T
  have GR := m_raise_to (P := P) (w := w) (base := base) T.toTX SK NK
  have GD := m_do_steps (P := P) (w := w) (base := base) T.toTX SK NK
  have GL := m_ses_len (P := P) (w := w) (mg := mg) (base := base) SK (T.z "len")
  obtain ⟨fI, TF⟩ := T.tf
  refine nok_of (F := NF.of (visOf 61 1) "_law_visit" q cl c) ns_visRefused (fun _ _ _ us hl => match us, hl with | [_], _ => rfl) (fun ws vs H Q E h => ?_) (fun A outer s H vs ws Q E hr hf hc hw h => ?_)
  · obtain ⟨_, _, _, rfl, _⟩ := h
    rfl
  · obtain ⟨a, I, n, rfl, hC, hl, n1, n5, hs, k⟩ := h
    have nd := ns_visRefused.nd
    have hh := L2H.roomH_of hr
    have tk := L2N.takes_of (X := ncx (L2N.CX P w) P w K mg base nVisRefused (NF.of (visOf 61 1) "_law_visit" q cl c) f A outer s H E) rfl rfl rfl rfl
    refine ⟨_, pss_cons (ps_expr (pe_mc (pv 0) SK.cf.cl GR hr pass0 (pa_cons pe_str (pa_cons pe_int pa_nil))))
      (pss_cons (L2N.ps_try_as (i := 1) (n := "e") (c := .ref (cTF K)) (tb := fun W => tDrop (tMethS (cK K) "do_steps" (spDoSteps K (cK K)) (fun σ cls d H => W cls d σ H) (tVar 0) (tCons (tC (.str "bob")) (tCons (tLst (tCons (tTup (tCons (tC (.str "forget")) (tCons (tC (.int 0)) tNil))) tNil)) tNil)))) rfl rfl nd rfl rfl ⟨rfl, by decide, .inl TF.gC⟩ tk
        (fun W pn xe tk' _ => by exact pss_one (ps_expr (pe_mcS (k := 13) (E := fun σ cls d H => W cls d σ H) (pv 0) SK.cf.cl GD hr (passAt tk' fun _ _ _ _ h => h) (pa_cons pe_str (pa_cons (pe_lst (pa_cons (pe_tup (pa_cons pe_str (pa_cons pe_int pa_nil))) pa_nil)) pa_nil)))))
        (fun eo oe cls d pn hz hf => pss_one (ps_ret (pe_lst (pa_cons (OwnTooFew.pe_byLow TF hz.zc hf (pv 1)) (pa_cons (pe_callB (call_lenI GL (.inr (hot_suite hz hf)) (show L2H.RoomH 13 _ from ⟨hh.dp, hh.un⟩)) (by rfl) (T.z "len") PySem.boot_len (pa_cons (pv 0) pa_nil)) pa_nil))))))
      (pss_one (ps_ret (pe_lst pa_nil)))), ?_⟩
    obtain rfl : ws = [] := List.eq_nil_of_length_eq_zero hw
    obtain ⟨pr, lg, ea, si, hsa, sd⟩ := hs.sesI
    have hsa' := hsa
    rw [hC] at hsa'
    obtain ⟨p1, p2⟩ := pow3 n n1 n5
    refine ⟨_, rfl, a, I.dx, _, rfl, hsa', fs_none I pr lg ea _, a, I, n, 0, 3, fullT n, "ann", [], [], rfl, hC, hs, hist0 n1 n5, by omega, by decide +kernel, by decide, by decide, fun k e => by rw [hl] at e; cases e; omega, fun H1 q f1 s1 mq => ?_⟩
    obtain ⟨pr1, lg1, ea1, si1, hsa1, sd1⟩ := s1.sesI
    have hsa1' := hsa1
    rw [hC] at hsa1'
    refine ⟨_, rfl, a, I.dx, _, rfl, hsa1', fs_none I pr1 lg1 ea1 _, by show 2 ≤ sizeLine; decide, fun tt htt => ⟨by show 1 ≤ sizeLine; decide, fun L hL => ?_⟩⟩
    have f2 : Fr [] H1 (upd H1 tt (.tup [.str "forget", .int 0])) := Fr.refl.newer htt
    have f3 : Fr [] H1 (upd (upd H1 tt (.tup [.str "forget", .int 0])) L (.lst [.ref tt])) := f2.newer hL
    have ht3 : (upd (upd H1 tt (.tup [.str "forget", .int 0])) L (.lst [.ref tt])) tt = some (.tup [.str "forget", .int 0]) := (upd_ne (ne_of_none upd_same hL)).trans upd_same
    refine ⟨a, L, I, n, 1, powE n (fullT n) 3, "bob", [fullT n], [("ann", "power")], [.ref tt], [.forget 0], rfl, hC, s1.fr f3 (by simp), hist1 n1 n5, by omega, by decide +kernel, upd_same, .cons ⟨tt, rfl, ht3⟩ .nil, ?_, fun hk => ?_, fun k' e hlt H3 d f4 hd0 hd => ?_⟩
    · intro st hst
      rw [List.mem_singleton.mp hst]
      exact ⟨by omega, by omega⟩
    · have := hk n hl
      omega
    · refine ⟨true, TF.te, fun _ eo heo => ?_, (fun z => nomatch z)⟩
      have s3 : SessAt K H3 a I n ([] ++ [fullT n] ++ [powE n (fullT n) 3]) ([] ++ [(("ann", "power") : Str × Str)]) := (s1.fr f3 (by simp)).fr f4 (by simp)
      obtain ⟨pr3, lg3, ea3, si3, hsa3, ⟨⟨xs, hlg3, plg⟩, _⟩⟩ := s3.sesI
      have hsa3' := hsa3
      rw [hC] at hsa3' si3
      have hx : xs.length = 1 := Paired.length plg
      refine ⟨_, rfl, rfl, rfl, d, _, rfl, hd, _, rfl, a, I.dx, _, rfl, hsa3', a, pr3, lg3, ea3, xs, rfl, si3, hlg3, _, rfl, by omega, by omega, by show 2 ≤ sizeLine; decide, fun L2 hL2 => ?_⟩
      have f5 : Fr [] H3 (upd H3 L2 (.lst [.int (stepsT (powE n (fullT n) 3) [.forget 0]).length, .int xs.length])) := Fr.refl.newer hL2
      refine k _ L2 (((f1.trans (f3.mono (by simp))).trans (f4.mono (by simp))).trans (f5.mono (by simp))) ⟨pr3, lg3, ea3, f5 _ _ hsa3 fun _ => by simp⟩ ?_
      rw [upd_same, p2, hx]
      have : ((n - 1 : Nat) : Int) = (n : Int) - 1 := by omega
      rw [this]
      rfl
abbrev nRefused : List Str := ["_law_size", "_law_session", "_law_visit"]
theorem sc_refused : FnScope nRefused ["_law_size"] (defScope (top 61)) := ⟨rfl, rfl, rfl, by decide +kernel, rfl, by decide +kernel, by decide +kernel⟩
theorem nd_refused : ndefB (defScope (top 61)) (C8.fnScope (visOf 61 1)) [] = true := by decide +kernel
def spRefused (K : PySem.W.Frag) : Sp := fun vs H Q _ => ∃ (n : Nat), vs = [.int n] ∧ 1 ≤ n ∧ n ≤ 5 ∧ LamX.Tabs (lamT K) H ∧ ∀ H', Fx [] H H' → LamX.Tabs (lamT K) H' → Q (.bl true) H'
theorem in5 {K : PySem.W.Frag} : (tbA K "_law_refused", ("_law_refused.<locals>._law_visit" : Str)) ∈ lamT K := .tail _ (.tail _ (.tail _ (.tail _ (.tail _ (.head _)))))
theorem g_refused (T : TK P K mg base) : GC P w K mg base CX0 16 "_law_refused" ["_law_size"] (spRefused K) := by
  have SK := T.toTxt.scK
  have GK := kc_Keeping (P := P) (w := w) T
  have GL := m_ses_len (P := P) (w := w) (mg := mg) (base := base) SK (T.z "len")
  have GLg := m_log (P := P) (w := w) (mg := mg) (base := base) SK (T.z "list")
  refine gcT_of (T.fc (61, "_law_refused") (by decide +kernel)) sc_refused (fun vs H Q E h => ?_) (fun f A outer s H vs Q E hr h => ?_) fun _ _ _ _ _ _ us hl => match us, hl with | [_], _ => rfl
  · obtain ⟨_, rfl, _⟩ := h
    rfl
  · obtain ⟨n, rfl, n1, n5, hT, k⟩ := h
    have nd := sc_refused.nd
    have hh := L2H.roomH_of hr
    have hu64 := huH64 hh
    refine ⟨_, pss_cons (ps_set (i := 1) nd rfl (Or.inl rfl) (pe_kc GK hr (pa_cons (pv 0) (pa_cons (pv 0) pa_nil))))
      (pss_cons (ps_ndefMS (st := visOf 61 1) (T := lamN K) (i := 2) rfl (T.tb (61, "_law_refused") (by decide +kernel)) rfl (List.mem_map_of_mem in5) rfl (lamN_uq T.toTL in5) (ndef_free nd_refused) rfl rfl rfl nd rfl (.inl rfl) (.inr rfl))
      (pss_one (ps_ret (pe_and (pe_cmpR (op_eqD hu64) (pe_attempt (i := 2) (js := []) (kv := 14) T.toTxt SK (fun f c' => vis_refused T f c' (visQ "_law_refused") _) (by decide) (fun _ => rfl) (fun ok => Caps.made ok (ndef_free nd_refused) (ndef_fr nd_refused) rfl) hr (by decide) (E := fun _ => E0) (fun pins σ H s e s' => passN pins σ H s e s') (pv 1) rfl (.inl rfl))
          (pe_lst (pa_cons (pe_op op_sub (pv 0) pe_int) (pa_cons pe_int pa_nil))) (nomark _))
        (pe_and (pe_cmpR op_eq (pe_callB (call_lenI GL (.inl rfl) hh) (by rfl) (T.z "len") PySem.boot_len (pa_cons (pv 1) pa_nil)) pe_int (nomark _))
        (pe_one (pe_cmpR (op_eqD hu64) (pe_mg0 (pv 1) SK.cf.cl GLg (.inl rfl) hh) (pe_lst pa_nil) (nomark _)))))))), ?_⟩
    have shp : SeqAt.shaped (.list [.int ((n : Int) - 1), .int 1]) = true := by
      rcases (show n = 1 ∨ n = 2 ∨ n = 3 ∨ n = 4 ∨ n = 5 by omega) with rfl | rfl | rfl | rfl | rfl <;> decide +kernel
    refine ⟨_, rfl, _, rfl, fun a dx ha0 hdy ne => ⟨a, dx, n, n, rfl, upd_same, n1, by omega, Nat.le_refl n, fun H1 pr0 lg0 ea0 s1 hsx mp hlg hea => ⟨rfl, ?_⟩⟩⟩
    have f1 : Fr [] H H1 := s1.fr ha0 hdy []
    have hs1 : SessAt K H1 a ⟨cK K, dx, some n⟩ n [fullT n] [] := ⟨rfl, pr0, lg0, ea0, hsx, ⟨⟨[], hlg, .nil⟩, ⟨[], hea, .cons ⟨pr0, rfl, mp⟩ .nil⟩⟩⟩
    obtain ⟨pr, lg, ea, si, hsa, sd⟩ := hs1.sesI
    have T1 := tabs_fr hT f1 (by simp)
    refine ⟨tabsN_of T1, fun f2 c' H2 eN nn T2 hf2 hfO hcO => ?_⟩
    have T2 := tabsN_to T2
    have e2 : Fx [] H1 H2 := Fx.ofN eN []
    have ha2 := e2 _ _ hsa (fun _ => by simp) (fun _ z => by cases z)
    refine ⟨_, rfl, a, dx, _, f2, c', rfl, ha2, fs_none ⟨cK K, dx, some n⟩ pr lg ea _, rfl, a, ⟨cK K, dx, some n⟩, pr, lg, ea, rfl, hs1.1, ha2, hfO, hcO, fun H3 x dxx f3 hx0 hx3 ha3 => ?_⟩
    have hs3 : SessAt K H3 a ⟨cK K, dx, some n⟩ n [fullT n] [] := (hs1.fx e2 (by simp)).fr f3 (by simp)
    have T3 := tabs_fr T2 f3 (by simp)
    have g3 : Fx [] H H3 := (f1.fx.trans e2).trans f3.fx
    refine ⟨a, ⟨cK K, dx, some n⟩, n, rfl, rfl, rfl, n1, n5, hs3, fun H4 L f4 hs4 hL4 => ?_⟩
    obtain ⟨pr4, lg4, ea4, ha4⟩ := hs4
    have nax : a ≠ x := ne_of_none ha2 hx0
    have nLa : L ≠ a := ne_of hL4 ha4 (by intro z; cases z)
    have hx4 := f4 _ _ hx3 (fun _ => by simp; exact nax.symm)
    refine exit_ok hx4 hs1.1 ha4 ?_
    have T4 := tabs_fr T3 f4 (by intro b hb ps z; rw [List.mem_singleton.mp hb, ha3] at z; cases z)
    have g5 : Fx [] H (upd H4 a (.ins (cK K) dx ((SI.mk (cK K) dx (some n)).fs pr lg ea))) := (Fx.less (p := a) f4.fx g3 ha0).new ha0
    have hs5 : SessAt K (upd H4 a (.ins (cK K) dx ((SI.mk (cK K) dx (some n)).fs pr lg ea))) a ⟨cK K, dx, some n⟩ n [fullT n] [] := hs3.fx (f4.fx.back ha3) (by simp)
    have hL5 : (upd H4 a (.ins (cK K) dx ((SI.mk (cK K) dx (some n)).fs pr lg ea))) L = some (.lst [.int ((n : Int) - 1), .int 1]) := (upd_ne nLa).trans hL4
    have T5 : LamX.Tabs (lamT K) (upd H4 a (.ins (cK K) dx ((SI.mk (cK K) dx (some n)).fs pr lg ea))) := tabs_upd T4 ha4 (by intro ps z; cases z) (by intro c q z; cases z)
    generalize upd H4 a (.ins (cK K) dx ((SI.mk (cK K) dx (some n)).fs pr lg ea)) = H5 at g5 hs5 hL5 T5 ⊢
    refine ⟨_, rfl, _, _, rfl, rfl, by show 2 ≤ sizeLine; decide, fun q hq => ?_⟩
    have f6 : Fr [] H5 (upd H5 q (.lst [.int ((n : Int) - 1), .int 1])) := Fr.refl.newer hq
    have hL6 := f6 _ _ hL5 fun _ => by simp
    refine ⟨.list [.int ((n : Int) - 1), .int 1], .list [.int ((n : Int) - 1), .int 1], .lst (SqL.of hL6) (.cons (.int _) (.cons (.int _) .nil)), .lst (SqL.of upd_same) (.cons (.int _) (.cons (.int _) .nil)), shp, shp, _, rfl, ?_⟩
    rw [SeqAt.eqv_refl _ (SeqAt.canLay_of_shaped shp)]
    have hs6 := hs5.fr f6 (by simp)
    generalize upd H5 q (.lst [.int ((n : Int) - 1), .int 1]) = H6 at f6 hs6 ⊢
    obtain ⟨pr6, lg6, ea6, si6, hsa6, ⟨⟨xs, hlg6, plg⟩, _⟩⟩ := hs6.sesI
    obtain rfl : xs = [] := List.eq_nil_of_length_eq_zero (Paired.length plg)
    refine iteT ⟨_, rfl, a, dx, _, rfl, hsa6, a, pr6, lg6, ea6, [], rfl, si6, hlg6, _, rfl, by decide, by decide, rfl, _, rfl, ?_⟩
    rw [decide_eq_true (show V.int (([] : List V).length : Int) = V.int 0 from rfl)]
    refine iteT ⟨_, rfl, a, dx, _, rfl, hsa6, fs_none ⟨cK K, dx, some n⟩ pr6 lg6 ea6 _, a, pr6, lg6, ea6, [], rfl, si6, hlg6, fun p hp => ⟨by show 0 ≤ sizeLine; decide, fun q2 hq2 => ?_⟩⟩
    have f7 : Fr [] H6 (upd H6 p (.lst [])) := Fr.refl.newer hp
    have f8 : Fr [] H6 (upd (upd H6 p (.lst [])) q2 (.lst [])) := f7.newer hq2
    refine ⟨.list [], .list [], .lst (SqL.of ((upd_ne (ne_of_none upd_same hq2)).trans upd_same)) .nil, .lst (SqL.of upd_same) .nil, by decide, by decide, ?_⟩
    exact k _ ((g5.trans f6.fx).trans f8.fx) (tabs_fr (tabs_fr T5 f6 (by simp)) f8 (by simp))
end
end K74
end
-- K74Zt
section
set_option maxRecDepth 100000
set_option maxHeartbeats 4000000
/-! law. -/
namespace K74
open PySem PySem.Spec PyProof.Rows L2 NdefX
open LamX (CodeO)
section
variable {X : Cx}
/-- two rules for one expression -/
theorem pe_or2 {e : Expr} {t1 t2 : TE} (h1 : PE X e t1) (h2 : PE X e t2) : PE X e (fun σ H Q => t1 σ H Q ∨ t2 σ H Q) := ⟨fun pins s σ H Q I h => h.elim (h1.run pins s σ H Q I) (h2.run pins s σ H Q I)⟩
theorem pt_or2 {e : Expr} {t1 t2 : TT} (h1 : PT X e t1) (h2 : PT X e t2) : PT X e (fun σ H Q => t1 σ H Q ∨ t2 σ H Q) := ⟨fun pins s σ H Q I h => h.elim (h1.run pins s σ H Q I) (h2.run pins s σ H Q I)⟩
end
section
variable {P : Program} {w : World} {K : PySem.W.Frag} {mg : Str → Option Value} {base : Heap}
abbrev nLaw : List Str := ["_law_script", "_law_k", "_law_pool", "_law_size", "_law_session", "_law_model_here", "_law_turn", "_law_kept"]
theorem sc_law : FnScope nLaw ["_law_script"] (defScope (top 62)) := ⟨rfl, rfl, rfl, by decide +kernel, rfl, by decide +kernel, by decide +kernel⟩
def spLaw (K : PySem.W.Frag) : Sp := fun vs H Q _ => ∃ (c : Addr) (ns : List Int), vs = [.ref c] ∧ SqL K H c (ns.map V.int) ∧ (∀ H', FxE [] H H' → SqL K H' c (ns.map V.int)) ∧ ns.length < sizeLine ∧ LamX.Tabs (lamT K) H ∧ ∀ H', Q (.bl true) H'
/-- a def that lets nothing out, its function object given -/
theorem fn0_of {k : Nat} {x qual : Str} {ps : List Str} {sp : Sp} {st : Stmt} {f : Addr} {fd : FuncData} {N : List Str} (F : Fun K x qual st f fd) (S : FnScope N ps (defScope st)) (len : ∀ vs H Q E, sp vs H Q E → vs.length = ps.length)
    (hbody : ∀ (cdv : Value) (A : Around) (outer : List Env) (s : Shared) (H : Hp) (vs : List V) (Q : VK) (E : XK), Room k (A.deeper (envOfC qual (defScope st) s.heap.objs.size f cdv)) → sp vs H Q E →
      ∃ t, PSs (cxOf CX0 P w K mg base N qual (defScope st) f cdv A outer s H E).nox (defBody st) t ∧ t { nx := fun _ H' => Q .non H', rt := Q } (start N vs) H) : FnOk P w K mg base CX0 (k + 1) f fd ps sp := F.ok S len hbody
theorem law_ok (T : TK P K mg base) {fL : Addr} {fdL : FuncData} (FL : Fun K "law" "law" (top 62) fL fdL) : FnOk P w K mg base CX0 21 fL fdL ["_law_script"] (spLaw K) := by
  have SS := T.toTxt.scS
  have SK := T.toTxt.scK
  have NA : ∀ C, C = cS K ∨ C = cK K → NX P w K mg base C := fun C h => h.elim (fun e => by rw [e]; exact next_S T.toTX) (fun e => by rw [e]; exact next_K T)
  have FA : ∀ C, C = cS K ∨ C = cK K → FX P w K mg base C := fun C h => h.elim (fun e => by rw [e]; exact fresh_S T.toTX) (fun e => by rw [e]; exact fresh_K T)
  have GH := g_hand (P := P) (w := w) (base := base) T.toTxt
  have GD := g_draw (P := P) (w := w) (base := base) T.toTxt
  have GM := g_model (P := P) (w := w) (base := base) T.toTxt
  have KS := kc_Session (P := P) (w := w) (base := base) T.toTxt
  have KK := kc_Keeping (P := P) (w := w) T
  have GT := g_turns (P := P) (w := w) T.toTL NA
  have GP := g_plain (P := P) (w := w) T.toTL NA
  have GN := g_nested (P := P) (w := w) T.toTL NA
  have GB := g_broken (P := P) (w := w) T.toTL NA
  have GC_ := g_clones (P := P) (w := w) T.toTL NA FA
  have GR := g_refused (P := P) (w := w) T
  have CS := m_clone (P := P) (w := w) (base := base) T.toTX SS (FA _ (.inl rfl))
  have CK := m_clone (P := P) (w := w) (base := base) T.toTX SK (FA _ (.inr rfl))
  have ES := m_ses_eq (P := P) (w := w) (base := base) T.toTX SS
  have EK := m_ses_eq (P := P) (w := w) (base := base) T.toTX SK
  refine fn0_of FL sc_law (fun vs H Q E h => ?_) (fun cdv A outer s H vs Q E hr h => ?_)
  · obtain ⟨_, _, rfl, _⟩ := h
    rfl
  · obtain ⟨c, ns, rfl, hsq, hsq', hlen, hT, k⟩ := h
    have nd := sc_law.nd
    have hh := L2H.roomH_of hr
    refine ⟨_, pss_cons (ps_for PassesOwn.never rfl (pi_range1 rfl (T.z "range") (pa_cons (pe_callB (call_max2 rfl) (by rfl) (T.z "max") (by decide +kernel) (pa_cons pe_int (pa_cons (pe_callB (call_min2 rfl) (by rfl) (T.z "min") (by decide +kernel) (pa_cons (pe_callB call_len_seq (by rfl) (T.z "len") PySem.boot_len (pa_cons (pv 0) pa_nil)) (pa_cons pe_int pa_nil))) pa_nil))) pa_nil)) (pg_name (i := 1) nd rfl (Or.inl rfl))
        (pss_cons (ps_set (i := 2) nd rfl (Or.inl rfl) (pe_gc GH hr pass0 (pa_cons (pv 0) (pa_cons (pv 1) pa_nil))))
        (pss_cons (ps_set (i := 3) nd rfl (Or.inl rfl) (pe_op op_add pe_int (pe_gc GD hr pass0 (pa_cons (pv 2) (pa_cons pe_int pa_nil)))))
        (pss_cons (ps_par (i := 4) (j := 5) rfl nd rfl rfl (by decide) rfl rfl (pa_cons (pe_ix ix_list (pe_lst (pa_cons (pe_kc KS hr (pa_cons (pv 3) pa_nil)) (pa_cons (pe_kc KK hr (pa_cons (pv 3) (pa_cons pe_int pa_nil))) pa_nil))) (pe_gc GD hr pass0 (pa_cons (pv 2) (pa_cons pe_int pa_nil))) (fun _ _ => rfl)) (pa_cons (pe_gc GM hr pass0 (pa_cons (pv 3) pa_nil)) pa_nil)) (by rfl))
        (pss_cons (ps_if (pt_not (pt_val (pe_gc GT hr pass0 (pa_cons (pv 2) (pa_cons (pv 4) (pa_cons (pv 5) (pa_cons pe_int pa_nil))))))) (pss_one (ps_ret pe_bl)) pss_nil)
        (pss_one (ps_for PassesOwn.never rfl (pi_range1 rfl (T.z "range") (pa_cons pe_int pa_nil)) (pg_name (i := 6) nd rfl (Or.inl rfl))
          (pss_cons (ps_set (i := 7) nd rfl (Or.inl rfl) (pe_or2 (pe_mc0 (pv 4) SS.cf.cl CS hr pass0) (pe_mc0 (pv 4) SK.cf.cl CK hr pass0)))
          (pss_cons (ps_if (PW.pt (pw_or (pt_not (pt_val (pe_gc GP hr pass0 (pa_cons (pv 2) (pa_cons (pv 4) (pa_cons (pv 5) pa_nil)))))) (pw_or1 (pt_not (pt_val (pe_gc GN hr pass0 (pa_cons (pv 2) (pa_cons (pv 4) (pa_cons (pv 5) pa_nil))))))))) (pss_one (ps_ret pe_bl)) pss_nil)
          (pss_cons (ps_if (PW.pt (pw_or (pt_not (pt_val (pe_gc GB hr pass0 (pa_cons (pv 2) (pa_cons (pv 4) (pa_cons (pv 5) pa_nil)))))) (pw_or1 (pt_not (pt_val (pe_gc GC_ hr pass0 (pa_cons (pv 2) (pa_cons (pv 4) (pa_cons (pv 5) pa_nil))))))))) (pss_one (ps_ret pe_bl)) pss_nil)
          (pss_one (ps_if (PW.pt (pw_or (pt_or2 (pt_cmpR (op_neC (C' := cS K) ES (T.eqS _ (.inl rfl)) (T.neS _ (.inl rfl)) T.fS.mo (hr.mono (by decide : 2 + 1 ≤ 20))) (pv 4) (pv 7) (nomark _)) (pt_cmpR (op_neC (C' := cK K) EK (T.eqS _ (.inr rfl)) (T.neS _ (.inr rfl)) T.fK.mo (hr.mono (by decide : 2 + 1 ≤ 20))) (pv 4) (pv 7) (nomark _)))
            (pw_or (pt_not (pt_val (pe_gc GR hr pass0 (pa_cons (pv 3) pa_nil)))) (pw_or1 (pt_not (pt_val (pe_gc GT hr pass0 (pa_cons (pv 2) (pa_cons (pv 4) (pa_cons (pv 5) (pa_cons pe_int pa_nil)))))))))))
            (pss_one (ps_ret pe_bl)) pss_nil))))))))))))
      (pss_one (ps_ret pe_bl)), ?_⟩
    refine ⟨_, rfl, c, _, rfl, .inl hsq, _, _, rfl, _, _, rfl, _, rfl, ?_, ?_, ?_⟩
    · (repeat' split) <;> omega
    · (repeat' split) <;> omega
    refine for_it walk_rg0 (fun i σ H' => ∃ x1 x2 x3 x4 x5 x6 x7, σ = [some (.ref c), x1, x2, x3, x4, x5, x6, x7] ∧ FxE [] H H' ∧ LamX.Tabs (lamT K) H') ?_ (fun _ _ _ _ _ => trivial) ?_ ?_
    · exact ⟨_, _, _, _, _, _, _, rfl, FxE.refl, hT⟩
    · rintro i _ _ _ H1 hi ⟨x1, x2, x3, x4, x5, x6, x7, rfl, e1, T1⟩ ⟨rfl, rfl⟩
      have hi5 : i ≤ 5 := by
        revert hi
        (repeat' split) <;> omega
      refine ⟨_, rfl, _, rfl, c, i, ns, rfl, by omega, hsq' H1 e1, hlen, fun H2 p f2 hp0 hp2 => ?_⟩
      refine ⟨_, rfl, p, 5, rfl, hp2, by decide, by decide, fun H3 d f3 hp3 hd => ⟨_, _, rfl, rfl, ?_⟩⟩
      have n1 : 1 ≤ 1 + d := by omega
      have n5 : 1 + d ≤ 5 := by omega
      refine ⟨_, rfl, fun y dy hy hdy ne => ⟨y, cS K, dy, 1 + d, rfl, T.toTxt.scS, upd_same, n1, by omega, fun H4 pr lg ea s4 hs4 mp hl4 he4 => ⟨rfl, ?_⟩⟩⟩
      refine ⟨_, rfl, fun y2 dy2 hy2 hdy2 ne2 => ⟨y2, dy2, 1 + d, 0, rfl, upd_same, n1, by omega, by omega, fun H5 pr2 lg2 ea2 s5 hs5 mp2 hl5 he5 => ⟨rfl, ?_⟩⟩⟩
      have f4 : Fr [] H3 H4 := s4.fr hy hdy []
      have f5 : Fr [] H4 H5 := s5.fr hy2 hdy2 []
      have ss4 : SessAt K H4 y ⟨cS K, dy, none⟩ (1 + d) [fullT (1 + d)] [] := ⟨rfl, pr, lg, ea, hs4, ⟨⟨[], hl4, .nil⟩, ⟨[], he4, .cons ⟨pr, rfl, mp⟩ .nil⟩⟩⟩
      have ss5 : SessAt K H5 y2 ⟨cK K, dy2, some 0⟩ (1 + d) [fullT (1 + d)] [] := ⟨rfl, pr2, lg2, ea2, hs5, ⟨⟨[], hl5, .nil⟩, ⟨[], he5, .cons ⟨pr2, rfl, mp2⟩ .nil⟩⟩⟩
      have hp5 : PoolAt H5 p := (hp3.fr f4 (by simp)).fr f5 (by simp)
      refine ⟨by show 2 ≤ sizeLine; decide, fun L hL => ?_⟩
      have f6 : Fr [] H5 (upd H5 L (.lst [.ref y, .ref y2])) := Fr.refl.newer hL
      have hL6 : (upd H5 L (.lst [.ref y, .ref y2])) L = some (.lst [.ref y, .ref y2]) := upd_same
      refine ⟨_, rfl, p, 2, rfl, hp5.fr f6 (by simp), by decide, by decide, fun H7 d2 f7 hp7 hd2 => ?_⟩
      have hL7 := f7.imm hL6 rfl
      have npy : p ≠ y := pool_ne_ses (hp3.fr f4 (by simp)) hs4
      have npy2 : p ≠ y2 := pool_ne_ses hp5 hs5
      have np : NewO H p := NewO.ofE e1 hp0 (by simp)
      have eH3 : FxE [] H H3 := FxE.lessNew (((e1.mono (by simp)).trans (f2.fx.e.mono (by simp))).trans f3.fx.e) np
      have eH4 : FxE [] H H4 := eH3.trans f4.fx.e
      have eH7 : FxE [] H H7 := FxE.lessNew ((((eH4.trans f5.fx.e).trans f6.fx.e).mono (by simp)).trans f7.fx.e) np
      obtain ⟨a, I, hat, hss, hfree, na⟩ : ∃ a I, atI [V.ref y, V.ref y2] (d2 : Int) = some (.ref a) ∧ SessAt K H7 a I (1 + d) [fullT (1 + d)] [] ∧ I.Free ∧ NewO H a := by
        rcases (show d2 = 0 ∨ d2 = 1 by omega) with rfl | rfl
        · exact ⟨y, _, rfl, ((ss4.fr f5 (by simp)).fr f6 (by simp)).fr f7 (by simp; exact npy.symm), (fun k e => by cases e), NewO.ofE eH3 hy (by simp)⟩
        · exact ⟨y2, _, rfl, (ss5.fr f6 (by simp)).fr f7 (by simp; exact npy2.symm), (fun k e => by cases e; rfl), NewO.ofE eH4 hy2 (by simp)⟩
      refine ⟨L, _, d2, _, rfl, rfl, SqL.of hL7, hat, ?_⟩
      refine ⟨_, rfl, 1 + d, rfl, by omega, fun H8 m f8 hm0 hmod => ⟨_, _, rfl, ?_⟩⟩
      have pa : p ≠ a := by
        obtain ⟨_, _, _, _, h, _⟩ := hss
        exact pool_ne_ses hp7 h
      have T2 := tabs_fr T1 f2 (by simp)
      have T3 := tabs_fr T2 f3 (fun b hb ps z => by rw [List.mem_singleton.mp hb] at z; obtain ⟨_, _, h, _⟩ := hp2; rw [h] at z; cases z)
      have T6 := tabs_fr (tabs_fr (tabs_fr T3 f4 (by simp)) f5 (by simp)) f6 (by simp)
      have T7 := tabs_fr T6 f7 (fun b hb ps z => by rw [List.mem_singleton.mp hb] at z; obtain ⟨_, _, h, _⟩ := hp5.fr f6 (by simp); rw [h] at z; cases z)
      have t8 : Three K H8 p a m I (1 + d) 0 := ⟨hp7.fr f8 (by simp), ⟨_, _, hss.fr f8 (by simp), hmod, hist0 n1 n5⟩, tabs_fr T7 f8 (by simp)⟩
      have e8 : FxE [] H H8 := eH7.trans f8.fx.e
      have nm : NewO H m := NewO.ofE eH7 hm0 (by simp)
      have dropE : ∀ {H' : Hp}, FxE [p, a, m] H H' → FxE [] H H' := fun f => ((f.lessNew np).lessNew na).lessNew nm
      refine ⟨_, rfl, _, rfl, _, rfl, p, a, m, I, 1 + d, 0, 8, rfl, t8, by omega, hfree, fun H9 f9 t9 => ⟨_, rfl, iteF ?_⟩⟩
      refine ⟨_, rfl, by decide, by decide, ?_⟩
      refine for_it walk_rg0 (fun j σ H' => ∃ x6 x7, σ = [some (.ref c), some (.int i), some (.ref p), some (.int ((1 + d : Nat) : Int)), some (.ref a), some (.ref m), x6, x7] ∧ Three K H' p a m I (1 + d) (8 + 2 * j) ∧ FxE [] H H') ?_ (fun _ _ _ _ _ => trivial) ?_ ?_
      · exact ⟨_, _, rfl, t9, dropE ((e8.mono (by simp)).trans f9.e)⟩
      · rintro j _ _ _ H10 hj ⟨x6, x7, rfl, t10, e10⟩ ⟨rfl, rfl⟩
        obtain ⟨tabs, log, hs10, hm10, hh10⟩ := id t10.cpl
        obtain ⟨pr, lg, ea, si10, hsa10, sd10⟩ := hs10.sesI
        have n10 := t10.ne
        have hj2 : j < 2 := hj
        rcases hs10.1.two with hC | hC
        · have hsC := hsa10
          rw [hC] at hsC
          refine .inl ⟨_, rfl, a, I.dx, _, rfl, hsC, fs_none I pr lg ea _, a, I, 1 + d, tabs, log, rfl, hC, hs10, n1, n5, fun mm e => by rw [hfree mm e]; exact Nat.zero_le _, fun H11 t dxt pr1 lg1 ea1 f11 ht0 hs1 ht11 hst11 => ?_⟩
          have t11 : Three K H11 p a m I (1 + d) (8 + 2 * j) := t10.fr f11 (by simp) (by simp) (by simp) (by simp)
          have npt : p ≠ t := pool_ne_ses t11.pool ht11
          refine ⟨_, rfl, _, rfl, _, rfl, p, a, m, I, 1 + d, 8 + 2 * j, rfl, t11, by omega, hfree, fun H12 f12 p12 T12 => ⟨_, rfl, iteF ?_⟩⟩
          have t12 : Three K H12 p a m I (1 + d) (8 + 2 * j) := t11.fx f12 (by simp; exact n10.1.symm) (by simp; exact n10.2.1.symm) p12 T12
          refine ⟨_, rfl, _, rfl, _, rfl, p, a, m, I, 1 + d, 8 + 2 * j, rfl, t12, by omega, hfree, fun H13 f13 p13 T13 => ⟨_, rfl, iteF ?_⟩⟩
          have t13 : Three K H13 p a m I (1 + d) (8 + 2 * j) := t12.fx f13 (by simp; exact n10.1.symm) (by simp; exact n10.2.1.symm) p13 T13
          refine ⟨_, rfl, _, rfl, _, rfl, p, a, m, I, 1 + d, 8 + 2 * j, rfl, t13, by omega, hfree, fun H14 f14 p14 T14 => ⟨_, rfl, iteF ?_⟩⟩
          have t14 : Three K H14 p a m I (1 + d) (8 + 2 * j) := t13.fx f14 (by simp; exact n10.1.symm) (by simp; exact n10.2.1.symm) p14 T14
          refine ⟨_, rfl, _, rfl, _, rfl, p, a, m, I, 1 + d, 8 + 2 * j, rfl, t14, by omega, hfree, fun H15 f15 p15 T15 => ⟨_, rfl, iteF ?_⟩⟩
          have e15 : FxE [p] H11 H15 := ((f12.e.trans f13.e).trans f14.e).trans f15
          have t15 : Three K H15 p a m I (1 + d) (8 + 2 * j) := ⟨p15, t14.cpl.fe f15 (by simp; exact n10.1.symm) (by simp; exact n10.2.1.symm), T15⟩
          have hst15 := hst11.fe e15 (by simp; exact npt.symm)
          have ha15 : H15 a = some (.ins I.C I.dx (I.fs pr1 lg1 ea1)) := e15 _ _ (f11 _ _ hs1 fun _ => by simp) rfl (fun _ => by simp; exact n10.1.symm)
          have ht15 : H15 t = some (.ins I.C dxt ((SI.mk I.C dxt I.least).fs pr1 lg1 ea1)) := e15 _ _ ht11 rfl (fun _ => by simp; exact npt.symm)
          have haC := ha15
          have htC := ht15
          rw [hC] at haC htC
          have sd15 : SessD K H15 (1 + d) pr1 lg1 ea1 tabs log := by
            obtain ⟨_, pr', lg', ea', z1, z2⟩ := hst15
            rw [ht15] at z1
            have q := (HO.ins.inj (Option.some.inj z1)).2.2
            unfold SI.fs at q
            simp at q
            obtain ⟨q1, q2, q3⟩ := q
            rw [q1, q2, q3]
            exact z2
          refine .inl ⟨_, rfl, _, rfl, a, t, I.dx, dxt, _, _, rfl, rfl, haC, htC, a, t, I, ⟨I.C, dxt, I.least⟩, pr1, lg1, ea1, 1 + d, tabs, log, rfl, hC, hC, hs10.1, ha15, ht15, sd15, hh10.ent, ?_, fun H16 f16 => ⟨true, rfl, _, rfl, iteF ?_⟩⟩
          · have := hh10.len
            have := hh10.le
            omega
          have t16 := t15.fr f16 (by simp) (by simp) (by simp) (by simp)
          refine ⟨_, rfl, 1 + d, rfl, n1, n5, t16.tabs, fun H17 f17 T17 => ⟨_, rfl, iteF ?_⟩⟩
          have t17 : Three K H17 p a m I (1 + d) (8 + 2 * j) := t16.fx f17 (by simp) (by simp) (t16.pool.fx f17 (by simp)) T17
          refine ⟨_, rfl, _, rfl, _, rfl, p, a, m, I, 1 + d, 8 + 2 * j, 2, rfl, t17, by omega, hfree, fun H18 f18 t18 => ⟨_, rfl, iteF ?_⟩⟩
          have e18 : FxE [p, a, m] H10 H18 := ((((f11.fx.e.mono (by simp)).trans (e15.mono (by simp))).trans (f16.fx.e.mono (by simp))).trans (f17.e.mono (by simp))).trans f18.e
          exact ⟨_, _, rfl, t18, dropE ((e10.mono (by simp)).trans e18)⟩
        · have hsC := hsa10
          rw [hC] at hsC
          refine .inr ⟨_, rfl, a, I.dx, _, rfl, hsC, fs_none I pr lg ea _, a, I, 1 + d, tabs, log, rfl, hC, hs10, n1, n5, fun mm e => by rw [hfree mm e]; exact Nat.zero_le _, fun H11 t dxt pr1 lg1 ea1 f11 ht0 hs1 ht11 hst11 => ?_⟩
          have t11 : Three K H11 p a m I (1 + d) (8 + 2 * j) := t10.fr f11 (by simp) (by simp) (by simp) (by simp)
          have npt : p ≠ t := pool_ne_ses t11.pool ht11
          refine ⟨_, rfl, _, rfl, _, rfl, p, a, m, I, 1 + d, 8 + 2 * j, rfl, t11, by omega, hfree, fun H12 f12 p12 T12 => ⟨_, rfl, iteF ?_⟩⟩
          have t12 : Three K H12 p a m I (1 + d) (8 + 2 * j) := t11.fx f12 (by simp; exact n10.1.symm) (by simp; exact n10.2.1.symm) p12 T12
          refine ⟨_, rfl, _, rfl, _, rfl, p, a, m, I, 1 + d, 8 + 2 * j, rfl, t12, by omega, hfree, fun H13 f13 p13 T13 => ⟨_, rfl, iteF ?_⟩⟩
          have t13 : Three K H13 p a m I (1 + d) (8 + 2 * j) := t12.fx f13 (by simp; exact n10.1.symm) (by simp; exact n10.2.1.symm) p13 T13
          refine ⟨_, rfl, _, rfl, _, rfl, p, a, m, I, 1 + d, 8 + 2 * j, rfl, t13, by omega, hfree, fun H14 f14 p14 T14 => ⟨_, rfl, iteF ?_⟩⟩
          have t14 : Three K H14 p a m I (1 + d) (8 + 2 * j) := t13.fx f14 (by simp; exact n10.1.symm) (by simp; exact n10.2.1.symm) p14 T14
          refine ⟨_, rfl, _, rfl, _, rfl, p, a, m, I, 1 + d, 8 + 2 * j, rfl, t14, by omega, hfree, fun H15 f15 p15 T15 => ⟨_, rfl, iteF ?_⟩⟩
          have e15 : FxE [p] H11 H15 := ((f12.e.trans f13.e).trans f14.e).trans f15
          have t15 : Three K H15 p a m I (1 + d) (8 + 2 * j) := ⟨p15, t14.cpl.fe f15 (by simp; exact n10.1.symm) (by simp; exact n10.2.1.symm), T15⟩
          have hst15 := hst11.fe e15 (by simp; exact npt.symm)
          have ha15 : H15 a = some (.ins I.C I.dx (I.fs pr1 lg1 ea1)) := e15 _ _ (f11 _ _ hs1 fun _ => by simp) rfl (fun _ => by simp; exact n10.1.symm)
          have ht15 : H15 t = some (.ins I.C dxt ((SI.mk I.C dxt I.least).fs pr1 lg1 ea1)) := e15 _ _ ht11 rfl (fun _ => by simp; exact npt.symm)
          have haC := ha15
          have htC := ht15
          rw [hC] at haC htC
          have sd15 : SessD K H15 (1 + d) pr1 lg1 ea1 tabs log := by
            obtain ⟨_, pr', lg', ea', z1, z2⟩ := hst15
            rw [ht15] at z1
            have q := (HO.ins.inj (Option.some.inj z1)).2.2
            unfold SI.fs at q
            simp at q
            obtain ⟨q1, q2, q3⟩ := q
            rw [q1, q2, q3]
            exact z2
          refine .inr ⟨_, rfl, _, rfl, a, t, I.dx, dxt, _, _, rfl, rfl, haC, htC, a, t, I, ⟨I.C, dxt, I.least⟩, pr1, lg1, ea1, 1 + d, tabs, log, rfl, hC, hC, hs10.1, ha15, ht15, sd15, hh10.ent, ?_, fun H16 f16 => ⟨true, rfl, _, rfl, iteF ?_⟩⟩
          · have := hh10.len
            have := hh10.le
            omega
          have t16 := t15.fr f16 (by simp) (by simp) (by simp) (by simp)
          refine ⟨_, rfl, 1 + d, rfl, n1, n5, t16.tabs, fun H17 f17 T17 => ⟨_, rfl, iteF ?_⟩⟩
          have t17 : Three K H17 p a m I (1 + d) (8 + 2 * j) := t16.fx f17 (by simp) (by simp) (t16.pool.fx f17 (by simp)) T17
          refine ⟨_, rfl, _, rfl, _, rfl, p, a, m, I, 1 + d, 8 + 2 * j, 2, rfl, t17, by omega, hfree, fun H18 f18 t18 => ⟨_, rfl, iteF ?_⟩⟩
          have e18 : FxE [p, a, m] H10 H18 := ((((f11.fx.e.mono (by simp)).trans (e15.mono (by simp))).trans (f16.fx.e.mono (by simp))).trans (f17.e.mono (by simp))).trans f18.e
          exact ⟨_, _, rfl, t18, dropE ((e10.mono (by simp)).trans e18)⟩
      · rintro σ H10 ⟨x6, x7, rfl, t10, e10⟩
        exact ⟨_, _, _, _, _, _, _, rfl, e10, t10.tabs⟩
    · rintro σ H1 ⟨x1, x2, x3, x4, x5, x6, x7, rfl, e1, T1⟩
      exact k H1
end
end K74
end
-- K74Xa
section
set_option maxRecDepth 100000
set_option maxHeartbeats 4000000
/-! The head: what is looked at behind the top (a Hook of our own). -/
namespace K74
open PySem PySem.Spec PyProof.Rows L2
open PySem.W (nsIn findIn specialIn takesIn mroIn clsIn typeIn fnIn recIn findCls readsIn subIn hasDictIn keepIn codeIn exmOne kitOne notFirst selfFirst ks_superIn codeHdIn)
open He (ga ma eqO eqO_ok ba frT)
/-! ### the part of the heap that is looked at -/
def ledBy (o : Obj) : List Addr := match o.data with
  | .dict es _ => es.toList.flatMap fun e => He.refV e.val
  | .func fd => He.refV fd.code ++ fd.closure.map (·.2)
  | .cls cd => [cd.ns]
  | .fields vs => (match o.cls with
    | .type n => (match n == "property" || n == "classmethod" with
      | true => vs.toList.flatMap He.refV
      | false => [])
    | _ => [])
  | _ => []
def ledAll (g : Addr → Option Obj) (as : List Addr) : List Addr := as.flatMap fun a => match g a with
  | some o => ledBy o
  | none => []
def ledTo (g : Addr → Option Obj) : Nat → List Addr → List Addr
  | 0, as => as
  | n + 1, as => as ++ ledTo g n (ledAll g as)
def asK (g : Addr → Option Obj) : List Addr := PySem.cStatics :: ledTo g 5 [mainGlobals]
/-! ### the defs -/
structure DefX where
  at_ : PySem.W.Frag → Addr
  name : Str
  qual : Str
  st : Stmt
  clo : PySem.W.Frag → List (Str × Addr)
abbrev FnV : Type := Option (Str × Str × Arguments × FuncBody × Scope × Addr × Value × Addr)
def fnV (K : PySem.W.Frag) (a : Addr) : FnV := match K.lookup a with
  | some ⟨_, _, .func fd, _⟩ => some (fd.name, fd.qualname, fd.params, fd.body, fd.scope, fd.globals, fd.defaults, fd.builtins)
  | _ => none
def DefX.val (d : DefX) : FnV := some (d.name, d.qual, defArgs d.st, .stmts (defBody d.st), defScope d.st, mainGlobals, .none, builtinsNs)
def DefX.ok (K : PySem.W.Frag) (d : DefX) : Bool := keepIn K (.ref (d.at_ K)) && (match K.lookup (d.at_ K) with
  | some ⟨_, _, .func fd, _⟩ => codeIn K fd.code d.qual && (decide (fd.closure = d.clo K) && decide (fd.kwdefaults = .none))
  | _ => false)
/-- a def's code object -/
def codeX (K : PySem.W.Frag) (f : Addr) : Addr := match K.lookup f with
  | some ⟨_, _, .func fd, _⟩ => (match fd.code with
    | .ref c => c
    | _ => 0)
  | _ => 0
/-- a def as it stands -/
structure At (K : PySem.W.Frag) (name qual : Str) (st : Stmt) (clo : List (Str × Addr)) (f : Addr) : Prop where
  ex : ∃ (oc : Value) (od : Option Addr) (doc pm : Value) (an : Option Addr) (ct : Value) (osl : Array (Option Value)),
    K.lookup f = some ⟨oc, od, .func (PySem.W.fnX name qual (defArgs st) (defBody st) (defScope st) clo .none .none doc pm an (.ref (codeX K f)) ct), osl⟩
  cd : codeIn K (.ref (codeX K f)) qual = true
  kp : keepIn K (.ref f) = true
theorem DefX.at {K : PySem.W.Frag} {d : DefX} (e : fnV K (d.at_ K) = d.val) (c : d.ok K = true) : At K d.name d.qual d.st (d.clo K) (d.at_ K) := by
  obtain ⟨kp, c2⟩ := ba c
  unfold fnV at e
  cases q : K.lookup (d.at_ K) with
  | none =>
    rw [q] at c2
    cases c2
  | some o =>
    obtain ⟨oc, od, dt, osl⟩ := o
    rw [q] at c2 e
    cases dt with
    | func fd =>
      obtain ⟨n1, n2, n3, n4, n5, n6, n7, n8, n9, n10, n11, n12, n13, n14, n15⟩ := fd
      have e2 : (some (n1, n2, n3, n4, n5, n6, n8, n15) : FnV) = some (d.name, d.qual, defArgs d.st, .stmts (defBody d.st), defScope d.st, mainGlobals, .none, builtinsNs) := e
      simp only [Option.some.injEq, Prod.mk.injEq] at e2
      obtain ⟨h1, h2, h3, h4, h5, h6, h8, h9⟩ := e2
      subst h1 h2 h3 h4 h5 h6 h8 h9
      have c3 : (codeIn K n13 d.qual && (decide (n7 = d.clo K) && decide (n9 = .none))) = true := c2
      obtain ⟨k1, k2⟩ := ba c3
      obtain ⟨k3, k4⟩ := ba k2
      have k3 := of_decide_eq_true k3
      have k4 := of_decide_eq_true k4
      subst k3 k4
      obtain ⟨cda, rfl⟩ := He.codeIn_ref k1
      have ec : codeX K (d.at_ K) = cda := by
        unfold codeX
        rw [q]
      refine ⟨⟨oc, od, n10, n11, n12, n14, osl, ?_⟩, ?_, kp⟩
      · rw [ec]
        exact q
      · rw [ec]
        exact k1
    | _ => cases c2
theorem At.fun_ {K : PySem.W.Frag} {x qual : Str} {st : Stmt} {f : Addr} (a : At K x qual st [] f) : ∃ fd, Fun K x qual st f fd := by
  obtain ⟨oc, od, doc, pm, an, ct, osl, e⟩ := a.ex
  exact ⟨_, ⟨oc, od, .none, doc, pm, an, _, ct, osl, rfl, e, a.cd⟩, a.kp⟩
/-! ### what is looked at -/
/-- a class's place among the module's statements -/
structure MethD where
  cls : Str
  i : Nat
  j : Nat
  qual : Str
def MethD.nm (q : MethD) : Str := nameOf (sub q.i q.j)
def meths : List MethD := mapMeths.map (fun p => ⟨"Map", 24, p.1, p.2⟩) ++ (trialMeths.map (fun p => ⟨"Trial", 37, p.1, p.2⟩) ++ (sesMeths.map (fun p => ⟨"Session", 38, p.1, p.2⟩) ++ (keepMeths.map (fun p => ⟨"KeepingSession", 38, p.1, p.2⟩) ++ [⟨"KeepingSession", 39, 3, "KeepingSession.fresh"⟩])))
def makers : List MethD := [⟨"Map", 24, 0, "Map.__init__"⟩, ⟨"Trial", 37, 0, "Trial.__init__"⟩, ⟨"Session", 38, 0, "Session.__init__"⟩]
def props : List MethD := mapProps.map (fun p => ⟨"Map", 24, p.1, p.2⟩) ++ [⟨"Session", 38, 1, "Session.present"⟩, ⟨"KeepingSession", 38, 1, "Session.present"⟩]
def classNames : List Str := ["Map", "Trial", "Session", "KeepingSession"]
/-- an exception of the text: its class's name and place, the field, the maker, the classes above -/
structure ExcD where
  cls : Str
  i : Nat
  field : Str
  qual : Str
  new_ : String
  above : List Value
def excs : List ExcD := [⟨"NotLast", 11, "user", "NotLast.__init__", "RuntimeError.__new__", [.type "RuntimeError", .type "Exception", .type "BaseException", .type "object"]⟩,
  ⟨"NothingToUndo", 12, "user", "NothingToUndo.__init__", "LookupError.__new__", [.type "LookupError", .type "Exception", .type "BaseException", .type "object"]⟩,
  ⟨"TooFew", 13, "number", "TooFew.__init__", "RuntimeError.__new__", [.type "RuntimeError", .type "Exception", .type "BaseException", .type "object"]⟩,
  ⟨"InvalidSteps", 6, "position", "InvalidSteps.__init__", "ValueError.__new__", [.type "ValueError", .type "Exception", .type "BaseException", .type "object"]⟩]
def getterA (K : PySem.W.Frag) (x m : Str) : Addr := match recIn K (ma K (ga K x) m) "property" with
  | some (.ref g :: _) => g
  | _ => 0
def idP (K : PySem.W.Frag) : Addr := match findCls K (.ref (ga K "Map")) (.type "type") "identity" with
  | some (.get _ (.ref p) _ _) => p
  | _ => 0
def idG (K : PySem.W.Frag) : Addr := match recIn K (idP K) "classmethod" with
  | some (.ref g :: _) => g
  | _ => 0
def supA (K : PySem.W.Frag) (m : Str) : Addr := match ks_superIn K (ga K "KeepingSession") (ga K "KeepingSession") m with
  | some (some (.ref a)) => a
  | _ => 0
def cloOf (K : PySem.W.Frag) (f : Addr) : List (Str × Addr) := match K.lookup f with
  | some ⟨_, _, .func fd, _⟩ => fd.closure
  | _ => []
/-- the cell of __class__ -/
def cellA (K : PySem.W.Frag) : Addr := match cloOf K (ma K (ga K "KeepingSession") "__init__") with
  | [(_, c)] => c
  | _ => 0
def fns : List DefX := defPlaces.map (fun i => ⟨fun K => ga K (nameOf (top i)), nameOf (top i), nameOf (top i), top i, fun _ => []⟩) ++
  (meths.map (fun q => ⟨fun K => ma K (ga K q.cls) q.nm, q.nm, q.qual, sub q.i q.j, fun _ => []⟩) ++
  (makers.map (fun q => ⟨fun K => ma K (ga K q.cls) "__init__", "__init__", q.qual, sub q.i q.j, fun _ => []⟩) ++
  (props.map (fun q => ⟨fun K => getterA K q.cls q.nm, q.nm, q.qual, sub q.i q.j, fun _ => []⟩) ++
  (excs.map (fun d => ⟨fun K => ma K (ga K d.cls) "__init__", "__init__", d.qual, sub d.i 0, fun _ => []⟩) ++
  [⟨idG, "identity", "Map.identity", sub 24 1, fun _ => []⟩,
   ⟨fun K => ma K (ga K "KeepingSession") "__init__", "__init__", "KeepingSession.__init__", sub 39 0, fun K => [("__class__", cellA K)]⟩,
   ⟨fun K => ma K (ga K "KeepingSession") "check_next", "check_next", "KeepingSession.check_next", sub 39 2, fun K => [("__class__", cellA K)]⟩,
   ⟨fun K => supA K "__init__", "__init__", "Session.__init__", sub 38 0, fun _ => []⟩,
   ⟨fun K => supA K "check_next", "check_next", "Session.check_next", sub 38 3, fun _ => []⟩]))))
def fa : List He.Fa := freeNames.map .free ++ ([.int "MAX_SIZE" 300, .int "MAX_NAME" 8] ++ (classNames.map .glo ++ (defPlaces.map (fun i => .glo (nameOf (top i))) ++ (excs.map (fun d => .glo d.cls) ++ (classNames.map .cls ++
  (meths.map (fun q => .meth q.cls q.nm) ++ ([.meth "KeepingSession" "check_next"] ++ ([.mkr "Map", .mkr "Trial", .mkr "Session", .mkr "KeepingSession"] ++
  ([.noat "Map" "own_size", .noat "Map" "own_arrows", .noat "Trial" "session", .noat "Trial" "kept_map", .noat "Trial" "kept_log", .noat "Trial" "kept_maps"] ++ (sesFields.map (.noat "Session") ++ sesFields.map (.noat "KeepingSession")))))))))))
/-! ### the rest, one Bool each -/
def cfB (K : PySem.W.Frag) (x : Str) : Bool := eqO (findIn K (.ref (ga K x)) "__class__") (some (some (.builtin "object.__class__"))) && decide (mroIn K (ga K x) (.type "object") = some true)
def propB (K : PySem.W.Frag) (q : MethD) : Bool := eqO (findIn K (.ref (ga K q.cls)) q.nm) (some (some (.ref (ma K (ga K q.cls) q.nm)))) && (eqO (specialIn K (.ref (ma K (ga K q.cls) q.nm)) "__get__") (some (some (.builtin "property.__get__"))) &&
  (decide (takesIn K (.ref (ma K (ga K q.cls) q.nm)) = some true) && (match recIn K (ma K (ga K q.cls) q.nm) "property" with
    | some (.ref g :: _) => decide (g = getterA K q.cls q.nm)
    | _ => false)))
def idB (K : PySem.W.Frag) : Bool := readsIn K (ga K "Map") (.type "type") && (eqO (specialIn K (.ref (ga K "Map")) "__getattribute__") (some (some (.builtin "type.__getattribute__"))) &&
  ((match findCls K (.ref (ga K "Map")) (.type "type") "identity" with
    | some (.get g a o t) => decide (g = .builtin "classmethod.__get__") && (decide (a = .ref (idP K)) && (decide (o = .none) && decide (t = .ref (ga K "Map"))))
    | _ => false) && ((match recIn K (idP K) "classmethod" with
    | some (.ref g :: _) => decide (g = idG K)
    | _ => false) && fnIn K (idG K))))
def excClsB (K : PySem.W.Frag) (d : ExcD) : Bool := match K.lookup (ga K d.cls) with
  | some ⟨.type t, _, .cls cd, sl⟩ => decide (t = "type") && (decide (cd.mro = .ref (ga K d.cls) :: d.above) && (cd.hasDict && (!cd.hasDel && (match sl.toList with
    | [_, _, _, _, some (.builtin n), _] => decide (n = d.new_)
    | _ => false))))
  | _ => false
def excB (K : PySem.W.Frag) (d : ExcD) : Bool := excClsB K d && (eqO (findIn K (.ref (ga K d.cls)) "__setattr__") (some (some (.builtin "object.__setattr__"))) && (eqO (findIn K (.ref (ga K d.cls)) "__getattribute__") (some (some (.builtin "BaseException.__getattribute__"))) &&
  (eqO (findIn K (.ref (ga K d.cls)) "__getattr__") (some none) && (eqO (findIn K (.ref (ga K d.cls)) d.field) (some none) && (eqO (findIn K (.ref (ga K d.cls)) "__init__") (some (some (.ref (ma K (ga K d.cls) "__init__")))) &&
  (decide (typeIn K (.ref (ma K (ga K d.cls) "__init__")) = some (.type "function")) && (keepIn K (.ref (ga K d.cls)) && (decide (subIn K (.ref (ga K d.cls)) (.type "BaseException") = some true) && (decide (typeIn K (.ref (ga K d.cls)) = some (.type "type")) &&
  (hasDictIn K (ga K d.cls) && decide (exmOne K (.ref (ga K d.cls)) (.ref (ga K d.cls)) = some true)))))))))))
def supB (K : PySem.W.Frag) (m : Str) : Bool := (clsIn K (ga K "KeepingSession")).isSome && (decide (mroIn K (ga K "KeepingSession") (.ref (ga K "KeepingSession")) = some true) && (eqO (ks_superIn K (ga K "KeepingSession") (ga K "KeepingSession") m) (some (some (.ref (supA K m)))) &&
  (decide (typeIn K (.ref (supA K m)) = some (.type "function")) && (fnIn K (supA K m) && eqO (nsIn K PySem.cStatics "thirdparty.any") (some none)))))
/-- a code object's file -/
def fileB (K : PySem.W.Frag) (c : Addr) : Bool := match K.lookup c with
  | some ⟨_, _, .fields vs, _⟩ => (match (vs[2]? : Option Value) with
    | some (.str file _) => (PySem.Challenge.pw_chainmaps_k74_whole_attempts_restore.main.file : Str) == file
    | _ => false)
  | _ => false
def cellB (K : PySem.W.Frag) : Bool := match K.lookup (cellA K) with
  | some ⟨_, _, .cell (some (.ref D)), _⟩ => decide (D = ga K "KeepingSession")
  | _ => false
def keepB (K : PySem.W.Frag) : Bool := fileB K (codeX K (ma K (ga K "KeepingSession") "__init__")) && (fileB K (codeX K (ma K (ga K "KeepingSession") "check_next")) && (cellB K && (supB K "__init__" && supB K "check_next")))
def neB (K : PySem.W.Frag) (x : Str) : Bool := notFirst K (ga K x) (.ref (ga K x)) && eqO (findIn K (.ref (ga K x)) "__ne__") (some (some (.builtin "object.__ne__")))
def uqB (K : PySem.W.Frag) : Bool := (lamT K).all fun p => (lamT K).all fun q => !decide (p.1 = q.1) || decide (p.2 = q.2)
def restB (K : PySem.W.Frag) : Bool := eqO (specialIn K (.builtin "object.__class__") "__get__") (some (some (.builtin "getset_descriptor.__get__"))) && (decide (takesIn K (.builtin "object.__class__") = some true) && (selfFirst K (ga K "Map") &&
  (decide (kitOne K (.ref (ga K "KeepingSession")) (.ref (ga K "Session")) = some true) && (decide (exmOne K (.ref (ga K "NotLast")) (.ref (ga K "NothingToUndo")) = some false) && (!decide (ga K "Session" = ga K "KeepingSession") && uqB K)))))
def moreB (K : PySem.W.Frag) : Bool := classNames.all (cfB K) && (props.all (propB K) && (idB K && (excs.all (excB K) && (keepB K && ((["Map", "Session", "KeepingSession"] : List Str).all (neB K) && restB K)))))
def okK (K : PySem.W.Frag) : Bool := (fa.all fun f => f.ok K) && ((fns.all fun d => d.ok K) && moreB K)
def tabsK (g : Addr → Option Obj) (K : PySem.W.Frag) : Bool := lamDefs.all fun p => codeHdIn K (cdA K p.2) (tbA K p.2) && (match g (tbA K p.2) with
  | some o => He.emptyTab o
  | none => false)
abbrev AlK : Type := Bool × List FnV
def obsK (g : Addr → Option Obj) : AlK := (okK (frT g (asK g)) && tabsK g (frT g (asK g)), fns.map fun d => fnV (frT g (asK g)) (d.at_ (frT g (asK g))))
structure SaysK (h : Heap) (K : PySem.W.Frag) : Prop where
  ok : okK K = true
  fn : (fns.map fun d => fnV K (d.at_ K)) = fns.map DefX.val
  hd : ∀ p ∈ lamDefs, codeHdIn K (cdA K p.2) (tbA K p.2) = true
  out : ∀ p ∈ lamDefs, K.lookup (tbA K p.2) = none
  empty : ∀ p ∈ lamDefs, h.get? (tbA K p.2) = some { cls := .none, data := .fields #[] }
theorem saysK_of {h : Heap} (e : obsK h.get? = (true, fns.map DefX.val)) : SaysK h (frT h.get? (asK h.get?)) := by
  have e1 : (okK (frT h.get? (asK h.get?)) && tabsK h.get? (frT h.get? (asK h.get?))) = true := congrArg (fun z : AlK => z.1) e
  have e2 : (fns.map fun d => fnV (frT h.get? (asK h.get?)) (d.at_ (frT h.get? (asK h.get?)))) = fns.map DefX.val := congrArg (fun z : AlK => z.2) e
  obtain ⟨h1, h2⟩ := ba e1
  have key : ∀ p ∈ lamDefs, codeHdIn (frT h.get? (asK h.get?)) (cdA (frT h.get? (asK h.get?)) p.2) (tbA (frT h.get? (asK h.get?)) p.2) = true ∧ ∃ o, h.get? (tbA (frT h.get? (asK h.get?)) p.2) = some o ∧ He.emptyTab o = true := fun p hp => by
    obtain ⟨h3, h4⟩ := ba (List.all_eq_true.mp h2 p hp)
    refine ⟨h3, ?_⟩
    cases q : h.get? (tbA (frT h.get? (asK h.get?)) p.2) with
    | none =>
      rw [q] at h4
      cases h4
    | some o =>
      rw [q] at h4
      exact ⟨o, rfl, h4⟩
  exact ⟨h1, e2, fun p hp => (key p hp).1, fun p hp => by
    obtain ⟨_, o, q, z⟩ := key p hp
    exact He.frT_none q z, fun p hp => by
    obtain ⟨_, o, q, z⟩ := key p hp
    rw [q, He.emptyTab_eq z]⟩
def hookK : PySem.W.Hook where
  α := AlK
  obs := fun s => obsK s.heap.get?
  val := fun _ => (true, fns.map DefX.val)
  says := fun _ h => ∃ K : PySem.W.Frag, K.In h ∧ SaysK h K
  of := fun _ _ e => ⟨_, He.frT_in, saysK_of e⟩
  keeps := fun _ _ _ ⟨K, hK, c⟩ k => ⟨K, PySem.W.Frag.In.keeps hK k, ⟨c.ok, c.fn, c.hd, c.out, fun p hp => k _ _ (c.empty p hp)⟩⟩
theorem obsK_eq {g : Addr → Option Obj} {s : Shared} (h : ∀ a, g a = s.heap.get? a) : obsK g = hookK.obs s := by
  have e : g = s.heap.get? := funext h
  rw [e] <;> rfl
end K74
end
-- K74Xb
section
set_option maxRecDepth 100000
set_option maxHeartbeats 0
/-! The top's run, looked at by that Hook. -/
namespace K74
open PySem PySem.W PySem.Calls PyProof.Rows
abbrev R : OpenRow := OpenLaw.row PySem.Challenge.rw_chainmaps_k74_whole_attempts_restore
abbrev qv : Program := view R.prog [62]
def namesA : List PySem.Str := ["_wall", "InvalidMap", "InvalidSize", "InvalidElement", "InvalidNumber", "InvalidSteps", "SizeMismatch", "Clash", "Undefined", "InvalidUser", "NotLast", "NothingToUndo", "TooFew", "MAX_SIZE", "is_integer", "in_range", "check_size", "check_elements", "are_arrows", "common_size", "row_from", "moved", "Map", "is_part", "first_clash", "check_map", "check_maps"]
def namesB : List PySem.Str := ["is_step", "first_invalid", "after_list", "MAX_NAME", "is_name", "check_user", "Trial", "Session", "KeepingSession", "_law_hand", "_law_draw", "_law_arrows", "_law_product", "_law_full", "_law_inverse", "_law_power", "_law_step", "_law_stepped", "_law_caught", "_law_act", "_law_undone", "_law_shows", "_law_model", "_law_user", "_law_turns", "_law_plain", "_law_nested", "_law_broken", "_law_clones", "_law_refused"]
def names : List PySem.Str := namesA ++ namesB
def obT (s : SharedT) : AlK := obsK (HandSHeadRun.getT s)
theorem obT_eq (s : SharedT) : obT s = hookK.obs s.abs := obsK_eq (HandSHeadRun.getT_eq s)
theorem run (w : World) : HandSHeadRun.RunEq R qv hookK obT 12000 names w := by
  intro os
  kernel_rfl
end K74
end
-- K74Xc
section
set_option maxRecDepth 100000
set_option maxHeartbeats 4000000
/-! What was looked at is what the walk asks. -/
namespace K74
open PySem PySem.Spec PyProof.Rows L2
open PySem.W (nsIn findIn specialIn takesIn mroIn clsIn typeIn fnIn recIn findCls readsIn subIn hasDictIn keepIn codeIn exmOne kitOne notFirst selfFirst ks_superIn codeHdIn)
open He (ga ma eqO eqO_ok ba frT)
section
variable {h : Heap} {K : PySem.W.Frag} {mg : Str → Option Value} {base : Heap}
theorem inL {α : Type} {a : α} {l1 l2 : List α} (h : a ∈ l1) : a ∈ l1 ++ l2 := List.mem_append_left _ h
theorem inR {α : Type} {a : α} {l1 l2 : List α} (h : a ∈ l2) : a ∈ l1 ++ l2 := List.mem_append_right _ h
theorem inM {α β : Type} {f : α → β} {a : α} {l : List α} (h : a ∈ l) : f a ∈ l.map f := List.mem_map.mpr ⟨a, h, rfl⟩
theorem SaysK.fact (c : SaysK h K) {f : He.Fa} (hf : f ∈ fa) : f.ok K = true := List.all_eq_true.mp (ba c.ok).1 f hf
theorem SaysK.def_ (c : SaysK h K) {d : DefX} (hd : d ∈ fns) : At K d.name d.qual d.st (d.clo K) (d.at_ K) :=
  DefX.at (List.map_inj_left.mp c.fn d hd) (List.all_eq_true.mp (ba (ba c.ok).2).1 d hd)
theorem SaysK.more (c : SaysK h K) : moreB K = true := (ba (ba c.ok).2).2
/-- the parts of the last Bool -/
theorem SaysK.cfs (c : SaysK h K) : ∀ x ∈ classNames, cfB K x = true := List.all_eq_true.mp (ba c.more).1
theorem SaysK.prs (c : SaysK h K) : ∀ q ∈ props, propB K q = true := List.all_eq_true.mp (ba (ba c.more).2).1
theorem SaysK.id_ (c : SaysK h K) : idB K = true := (ba (ba (ba c.more).2).2).1
theorem SaysK.exs (c : SaysK h K) : ∀ d ∈ excs, excB K d = true := List.all_eq_true.mp (ba (ba (ba (ba c.more).2).2).2).1
theorem SaysK.kp (c : SaysK h K) : keepB K = true := (ba (ba (ba (ba (ba c.more).2).2).2).2).1
theorem SaysK.nes (c : SaysK h K) : ∀ x ∈ (["Map", "Session", "KeepingSession"] : List Str), neB K x = true := List.all_eq_true.mp (ba (ba (ba (ba (ba (ba c.more).2).2).2).2).2).1
theorem SaysK.rest (c : SaysK h K) : restB K = true := (ba (ba (ba (ba (ba (ba c.more).2).2).2).2).2).2
theorem hd_cf (c : SaysK h K) {x : Str} (hx : x ∈ classNames) : CF K (ga K x) := by
  obtain ⟨a, b⟩ := ba (c.cfs x hx)
  exact ⟨He.cls_ok (c.fact (inR (inR (inR (inR (inR (inL (inM hx)))))))), eqO_ok a, of_decide_eq_true b⟩
theorem hd_mf (c : SaysK h K) {q : MethD} (hq : q ∈ meths) : MF K (ga K q.cls) q.nm q.qual (sub q.i q.j) := by
  obtain ⟨fd, F⟩ := (c.def_ (inR (inL (inM hq)))).fun_
  exact ⟨_, fd, F, He.meth_ok (c.fact (inR (inR (inR (inR (inR (inR (inL (inM hq)))))))))⟩
theorem hd_mk (c : SaysK h K) {q : MethD} (hq : q ∈ makers) (hm : He.Fa.mkr q.cls ∈ fa) : MkF K (ga K q.cls) q.qual (sub q.i q.j) := by
  obtain ⟨fd, F⟩ := (c.def_ (inR (inR (inL (inM hq))))).fun_
  exact ⟨_, fd, F, He.mkr_ok (c.fact hm)⟩
theorem hd_pr (c : SaysK h K) {q : MethD} (hq : q ∈ props) : PrF K (ga K q.cls) q.nm q.qual (sub q.i q.j) := by
  obtain ⟨fd, F⟩ := (c.def_ (inR (inR (inR (inL (inM hq)))))).fun_
  obtain ⟨a1, a2⟩ := ba (c.prs q hq)
  obtain ⟨a2, a3⟩ := ba a2
  obtain ⟨a3, a4⟩ := ba a3
  refine ⟨_, _, fd, F, eqO_ok a1, eqO_ok a2, of_decide_eq_true a3, ?_⟩
  cases e : recIn K (ma K (ga K q.cls) q.nm) "property" with
  | none =>
    rw [e] at a4
    cases a4
  | some l =>
    rw [e] at a4
    cases l with
    | nil => cases a4
    | cons v r =>
      cases v with
      | ref g =>
        have a5 : g = getterA K q.cls q.nm := of_decide_eq_true a4
        rw [a5]
        exact ⟨r, rfl⟩
      | _ => cases a4
theorem hd_id (c : SaysK h K) : CmF K (ga K "Map") "identity" "Map.identity" (sub 24 1) := by
  obtain ⟨fd, F⟩ := (c.def_ (d := ⟨idG, "identity", "Map.identity", sub 24 1, fun _ => []⟩) (inR (inR (inR (inR (inR (.head _))))))).fun_
  obtain ⟨a1, a2⟩ := ba c.id_
  obtain ⟨a2, a3⟩ := ba a2
  obtain ⟨a3, a4⟩ := ba a3
  obtain ⟨a4, a5⟩ := ba a4
  refine ⟨.type "type", idP K, idG K, fd, F, ⟨a1, eqO_ok a2⟩, ?_, ?_, a5⟩
  · cases e : findCls K (.ref (ga K "Map")) (.type "type") "identity" with
    | none =>
      rw [e] at a3
      cases a3
    | some f =>
      rw [e] at a3
      cases f with
      | val v => cases a3
      | get g a o t =>
        obtain ⟨b1, b2⟩ := ba a3
        obtain ⟨b2, b3⟩ := ba b2
        obtain ⟨b3, b4⟩ := ba b3
        rw [of_decide_eq_true b1, of_decide_eq_true b2, of_decide_eq_true b3, of_decide_eq_true b4]
  · cases e : recIn K (idP K) "classmethod" with
    | none =>
      rw [e] at a4
      cases a4
    | some l =>
      rw [e] at a4
      cases l with
      | nil => cases a4
      | cons v r =>
        cases v with
        | ref g =>
          have a6 : g = idG K := of_decide_eq_true a4
          rw [a6]
          exact ⟨r, rfl⟩
        | _ => cases a4
theorem hd_txt (X : K.In h) (G : h.Ns mainGlobals mg) (c : SaysK h K) : Txt K mg := by
  obtain ⟨r1, r2⟩ := ba c.rest
  obtain ⟨r2, r3⟩ := ba r2
  obtain ⟨r3, r4⟩ := ba r3
  obtain ⟨r4, r5⟩ := ba r4
  have gl : ∀ x ∈ classNames, mg x = some (.ref (ga K x)) := fun x hx => He.glo_ok X G (c.fact (inR (inR (inL (inM hx)))))
  have no : ∀ f ∈ ([.noat "Map" "own_size", .noat "Map" "own_arrows", .noat "Trial" "session", .noat "Trial" "kept_map", .noat "Trial" "kept_log", .noat "Trial" "kept_maps"] : List He.Fa), f.ok K = true := fun f hf => c.fact (inR (inR (inR (inR (inR (inR (inR (inR (inR (inL hf))))))))))
  have n1 := ba (c.nes "Map" (by simp))
  exact {
    zn := fun x hx => He.free_ok X G (c.fact (inL (inM hx)))
    maxSize := He.int_ok X G (c.fact (inR (inL (.head _))))
    maxName := He.int_ok X G (c.fact (inR (inL (.tail _ (.head _)))))
    gM := gl "Map" (by simp [classNames])
    gT := gl "Trial" (by simp [classNames])
    gS := gl "Session" (by simp [classNames])
    gK := gl "KeepingSession" (by simp [classNames])
    fM := hd_cf c (by simp [classNames])
    fT := hd_cf c (by simp [classNames])
    fS := hd_cf c (by simp [classNames])
    fK := hd_cf c (by simp [classNames])
    od := eqO_ok r1
    ot := of_decide_eq_true r2
    nM := fun x hx => by
      rcases List.mem_cons.mp hx with e | hx
      · rw [e]; exact He.noat_ok (no _ (by simp))
      · rw [List.mem_singleton.mp hx]; exact He.noat_ok (no _ (by simp))
    nT := fun x hx => by
      rcases List.mem_cons.mp hx with e | hx
      · rw [e]; exact He.noat_ok (no _ (by simp))
      rcases List.mem_cons.mp hx with e | hx
      · rw [e]; exact He.noat_ok (no _ (by simp))
      rcases List.mem_cons.mp hx with e | hx
      · rw [e]; exact He.noat_ok (no _ (by simp))
      · rw [List.mem_singleton.mp hx]; exact He.noat_ok (no _ (by simp))
    nS := fun x hx => He.noat_ok (c.fact (inR (inR (inR (inR (inR (inR (inR (inR (inR (inR (inL (inM hx)))))))))))))
    nK := fun x hx => He.noat_ok (c.fact (inR (inR (inR (inR (inR (inR (inR (inR (inR (inR (inR (inM hx)))))))))))))
    fn := fun i hi => by
      obtain ⟨fd, F⟩ := (c.def_ (inL (inM hi))).fun_
      exact ⟨_, fd, F, He.glo_ok X G (c.fact (inR (inR (inR (inL (inM (f := fun i => He.Fa.glo (nameOf (top i))) hi))))))⟩
    iM := hd_mk c (q := ⟨"Map", 24, 0, "Map.__init__"⟩) (.head _) (inR (inR (inR (inR (inR (inR (inR (inR (inL (.head _))))))))))
    iT := hd_mk c (q := ⟨"Trial", 37, 0, "Trial.__init__"⟩) (.tail _ (.head _)) (inR (inR (inR (inR (inR (inR (inR (inR (inL (.tail _ (.head _)))))))))))
    iS := hd_mk c (q := ⟨"Session", 38, 0, "Session.__init__"⟩) (.tail _ (.tail _ (.head _))) (inR (inR (inR (inR (inR (inR (inR (inR (inL (.tail _ (.tail _ (.head _))))))))))))
    mM := fun p hp => hd_mf c (q := ⟨"Map", 24, p.1, p.2⟩) (inL (inM (f := fun p : Nat × Str => (⟨"Map", 24, p.1, p.2⟩ : MethD)) hp))
    pM := fun p hp => hd_pr c (q := ⟨"Map", 24, p.1, p.2⟩) (inL (inM (f := fun p : Nat × Str => (⟨"Map", 24, p.1, p.2⟩ : MethD)) hp))
    idM := hd_id c
    mT := fun p hp => hd_mf c (q := ⟨"Trial", 37, p.1, p.2⟩) (inR (inL (inM (f := fun p : Nat × Str => (⟨"Trial", 37, p.1, p.2⟩ : MethD)) hp)))
    mS := fun p hp => hd_mf c (q := ⟨"Session", 38, p.1, p.2⟩) (inR (inR (inL (inM (f := fun p : Nat × Str => (⟨"Session", 38, p.1, p.2⟩ : MethD)) hp))))
    mSK := fun p hp => hd_mf c (q := ⟨"KeepingSession", 38, p.1, p.2⟩) (inR (inR (inR (inL (inM (f := fun p : Nat × Str => (⟨"KeepingSession", 38, p.1, p.2⟩ : MethD)) hp)))))
    pS := hd_pr c (q := ⟨"Session", 38, 1, "Session.present"⟩) (inR (.head _))
    pSK := hd_pr c (q := ⟨"KeepingSession", 38, 1, "Session.present"⟩) (inR (.tail _ (.head _)))
    freshK := hd_mf c (q := ⟨"KeepingSession", 39, 3, "KeepingSession.fresh"⟩) (inR (inR (inR (inR (.head _)))))
    firstM := r3
    eqM := n1.1
    neM := eqO_ok n1.2
    kindK := of_decide_eq_true r4 }
/-- an exception of the text -/
structure ExcAt (K : PySem.W.Frag) (mg : Str → Option Value) (d : ExcD) : Prop where
  gC : mg d.cls = some (.ref (ga K d.cls))
  cls : ∃ nm q N bs bm sn sub ab col dd k0 k1 k2 k3 k5, K.lookup (ga K d.cls) = some (excClassObj nm q (ga K d.cls) N bs bm true sn sub ab col dd k0 k1 k2 k3 k5 d.new_) ∧ bm = d.above
  sa : findIn K (.ref (ga K d.cls)) "__setattr__" = some (some (.builtin "object.__setattr__"))
  ga_ : findIn K (.ref (ga K d.cls)) "__getattribute__" = some (some (.builtin "BaseException.__getattribute__"))
  gg : findIn K (.ref (ga K d.cls)) "__getattr__" = some none
  noN : findIn K (.ref (ga K d.cls)) d.field = some none
  iC : findIn K (.ref (ga K d.cls)) "__init__" = some (some (.ref (ma K (ga K d.cls) "__init__")))
  tC : typeIn K (.ref (ma K (ga K d.cls) "__init__")) = some (.type "function")
  kC : keepIn K (.ref (ga K d.cls)) = true
  exC : subIn K (.ref (ga K d.cls)) (.type "BaseException") = some true
  tyC : typeIn K (.ref (ga K d.cls)) = some (.type "type")
  hdC : hasDictIn K (ga K d.cls) = true
  te : exmOne K (.ref (ga K d.cls)) (.ref (ga K d.cls)) = some true
  at_ : At K "__init__" d.qual (sub d.i 0) [] (ma K (ga K d.cls) "__init__")
theorem hd_excCls {d : ExcD} (e : excClsB K d = true) : ∃ nm q N bs bm sn sub ab col dd k0 k1 k2 k3 k5, K.lookup (ga K d.cls) = some (excClassObj nm q (ga K d.cls) N bs bm true sn sub ab col dd k0 k1 k2 k3 k5 d.new_) ∧ bm = d.above := by
  unfold excClsB at e
  cases q : K.lookup (ga K d.cls) with
  | none =>
    rw [q] at e
    cases e
  | some o =>
    obtain ⟨oc, od, dt, osl⟩ := o
    rw [q] at e
    cases oc with
    | type t =>
      cases dt with
      | cls cd =>
        obtain ⟨nm, bs, mro, ns, qn, hd, sn, sb, ab, col, del⟩ := cd
        obtain ⟨e1, e2⟩ := ba e
        obtain ⟨e2, e3⟩ := ba e2
        obtain ⟨e3, e4⟩ := ba e3
        obtain ⟨e4, e5⟩ := ba e4
        obtain rfl : t = "type" := of_decide_eq_true e1
        obtain rfl : mro = .ref (ga K d.cls) :: d.above := of_decide_eq_true e2
        obtain rfl : hd = true := e3
        obtain rfl : del = false := by
          cases del with
          | false => rfl
          | true => cases e4
        obtain ⟨l⟩ := osl
        match l, e5 with
        | [k0, k1, k2, k3, some (.builtin n), k5], e5 =>
          obtain rfl : n = d.new_ := of_decide_eq_true e5
          exact ⟨nm, qn, ns, bs, _, sn, sb, ab, col, od, k0, k1, k2, k3, k5, rfl, rfl⟩
      | _ => cases e
    | _ => cases dt <;> cases e
theorem hd_exc (X : K.In h) (G : h.Ns mainGlobals mg) (c : SaysK h K) {d : ExcD} (hd : d ∈ excs) : ExcAt K mg d := by
  obtain ⟨a1, a2⟩ := ba (c.exs d hd)
  obtain ⟨a2, a3⟩ := ba a2
  obtain ⟨a3, a4⟩ := ba a3
  obtain ⟨a4, a5⟩ := ba a4
  obtain ⟨a5, a6⟩ := ba a5
  obtain ⟨a6, a7⟩ := ba a6
  obtain ⟨a7, a8⟩ := ba a7
  obtain ⟨a8, a9⟩ := ba a8
  obtain ⟨a9, a10⟩ := ba a9
  obtain ⟨a10, a11⟩ := ba a10
  obtain ⟨a11, a12⟩ := ba a11
  exact ⟨He.glo_ok X G (c.fact (inR (inR (inR (inR (inL (inM (f := fun d : ExcD => He.Fa.glo d.cls) hd))))))), hd_excCls a1, eqO_ok a2, eqO_ok a3, eqO_ok a4, eqO_ok a5, eqO_ok a6, of_decide_eq_true a7, a8, of_decide_eq_true a9, of_decide_eq_true a10, a11, of_decide_eq_true a12,
    c.def_ (inR (inR (inR (inR (inL (inM (f := fun d : ExcD => (⟨fun K => ma K (ga K d.cls) "__init__", "__init__", d.qual, sub d.i 0, fun _ => []⟩ : DefX)) hd))))))⟩
theorem hd_nl (X : K.In h) (G : h.Ns mainGlobals mg) (c : SaysK h K) : ∃ fI, OwnNotLast.LowTxt K mg (ga K "NotLast") fI := by
  have e := hd_exc X G c (d := excs.getD 0 ⟨"", 0, "", "", "", []⟩) (.head _)
  obtain ⟨oc, od, doc, pm, an, ct, osl, q⟩ := e.at_.ex
  exact ⟨_, e.gC, e.cls, e.sa, e.ga_, e.gg, e.noN, e.iC, e.tC, e.kC, e.exC, e.tyC, e.hdC, e.te, oc, od, doc, pm, an, _, ct, osl, _, _, _, _, _, _, q, e.at_.cd⟩
theorem hd_nt (X : K.In h) (G : h.Ns mainGlobals mg) (c : SaysK h K) : ∃ fI, OwnNothingToUndo.LowTxt K mg (ga K "NothingToUndo") fI := by
  have e := hd_exc X G c (d := excs.getD 1 ⟨"", 0, "", "", "", []⟩) (.tail _ (.head _))
  obtain ⟨oc, od, doc, pm, an, ct, osl, q⟩ := e.at_.ex
  exact ⟨_, e.gC, e.cls, e.sa, e.ga_, e.gg, e.noN, e.iC, e.tC, e.kC, e.exC, e.tyC, e.hdC, e.te, oc, od, doc, pm, an, _, ct, osl, _, _, _, _, _, _, q, e.at_.cd⟩
theorem hd_tf (X : K.In h) (G : h.Ns mainGlobals mg) (c : SaysK h K) : ∃ fI, OwnTooFew.LowTxt K mg (ga K "TooFew") fI := by
  have e := hd_exc X G c (d := excs.getD 2 ⟨"", 0, "", "", "", []⟩) (.tail _ (.tail _ (.head _)))
  obtain ⟨oc, od, doc, pm, an, ct, osl, q⟩ := e.at_.ex
  exact ⟨_, e.gC, e.cls, e.sa, e.ga_, e.gg, e.noN, e.iC, e.tC, e.kC, e.exC, e.tyC, e.hdC, e.te, oc, od, doc, pm, an, _, ct, osl, _, _, _, _, _, _, q, e.at_.cd⟩
theorem hd_is (X : K.In h) (G : h.Ns mainGlobals mg) (c : SaysK h K) : ∃ fI, OwnInvalidSteps.LowTxt K mg (ga K "InvalidSteps") fI := by
  have e := hd_exc X G c (d := excs.getD 3 ⟨"", 0, "", "", "", []⟩) (.tail _ (.tail _ (.tail _ (.head _))))
  obtain ⟨oc, od, doc, pm, an, ct, osl, q⟩ := e.at_.ex
  exact ⟨_, e.gC, e.cls, e.sa, e.ga_, e.gg, e.noN, e.iC, e.tC, e.kC, e.exC, e.tyC, e.hdC, e.te, oc, od, doc, pm, an, _, ct, osl, _, _, _, _, _, _, q, e.at_.cd⟩
end
end K74
end
-- K74Xd
section
set_option maxRecDepth 100000
set_option maxHeartbeats 4000000
/-! All of what the walk asks; the law's promise behind the head. -/
namespace K74
open PySem PySem.Spec PyProof.Rows L2
open PySem.W (nsIn findIn specialIn takesIn mroIn clsIn typeIn fnIn recIn findCls readsIn subIn hasDictIn keepIn codeIn exmOne kitOne notFirst selfFirst ks_superIn codeHdIn)
open He (ga ma eqO eqO_ok ba frT)
abbrev prg : Program := PySem.Challenge.rw_chainmaps_k74_whole_attempts_restore.prog
section
variable {h : Heap} {K : PySem.W.Frag} {mg : Str → Option Value} {base : Heap}
theorem hd_tx (X : K.In h) (G : h.Ns mainGlobals mg) (c : SaysK h K) : TX K mg := by
  obtain ⟨_, r2⟩ := ba c.rest
  obtain ⟨_, r3⟩ := ba r2
  obtain ⟨_, r4⟩ := ba r3
  obtain ⟨_, r5⟩ := ba r4
  obtain ⟨r5, r6⟩ := ba r5
  obtain ⟨r6, r7⟩ := ba r6
  have nS := ba (c.nes "Session" (by simp))
  have nK := ba (c.nes "KeepingSession" (by simp))
  have ne : ga K "Session" ≠ ga K "KeepingSession" := fun e => by
    rw [decide_eq_true e] at r6
    cases r6
  exact { toTxt := hd_txt X G c, nl := hd_nl X G c, nt := hd_nt X G c, tf := hd_tf X G c, iS' := hd_is X G c, neSK := ne
          eqS := fun C hC => by
            rcases hC with rfl | rfl
            · exact nS.1
            · exact nK.1
          neS := fun C hC => by
            rcases hC with rfl | rfl
            · exact eqO_ok nS.2
            · exact eqO_ok nK.2
          nlnt := of_decide_eq_true r5 }
theorem hd_tl (X : K.In h) (G : h.Ns mainGlobals mg) (c : SaysK h K) (TB : ∀ p ∈ lamDefs, LamX.TabB base mg (cdA K p.2) (tbA K p.2)) : TL K mg base := by
  obtain ⟨_, r2⟩ := ba c.rest
  obtain ⟨_, r3⟩ := ba r2
  obtain ⟨_, r4⟩ := ba r3
  obtain ⟨_, r5⟩ := ba r4
  obtain ⟨_, r6⟩ := ba r5
  obtain ⟨_, r7⟩ := ba r6
  refine { toTX := hd_tx X G c, fc := fun p hp => ?_, tb := TB, uq := fun p hp q hq e => ?_ }
  · have key : ∀ i ∈ defPlaces, GFc K mg (nameOf (top i)) (top i) (cdA K (nameOf (top i))) := fun i hi => by
      have a := c.def_ (inL (inM (f := fun i => (⟨fun K => ga K (nameOf (top i)), nameOf (top i), nameOf (top i), top i, fun _ => []⟩ : DefX)) hi))
      obtain ⟨oc, od, doc, pm, an, ct, osl, q⟩ := a.ex
      have ec : codeX K (ga K (nameOf (top i))) = cdA K (nameOf (top i)) := by
        unfold codeX cdA
        rfl
      have e1 := a.cd
      rw [show codeX K (ga K (nameOf (top i))) = cdA K (nameOf (top i)) from ec] at q
      refine ⟨ga K (nameOf (top i)), _, ⟨oc, od, .none, doc, pm, an, ct, osl, rfl, q, ?_⟩, a.kp, He.glo_ok X G (c.fact (inR (inR (inR (inL (inM (f := fun i => He.Fa.glo (nameOf (top i))) hi))))))⟩
      rw [← ec]
      exact e1
    have hl : ∀ p ∈ lamDefs, p.1 ∈ defPlaces ∧ nameOf (top p.1) = p.2 := by decide +kernel
    obtain ⟨h1, h2⟩ := hl p hp
    have z := key p.1 h1
    rw [h2] at z
    exact z
  · have z := List.all_eq_true.mp (List.all_eq_true.mp r7 p hp) q hq
    have z2 : (!decide (p.1 = q.1) || decide (p.2 = q.2)) = true := z
    rw [decide_eq_true e] at z2
    exact of_decide_eq_true z2
theorem hd_file {f : Addr} (e : fileB K (codeX K f) = true) : ∃ (ccl : Value) (cdd : Option Addr) (vs : Array Value) (ccs : Array (Option Value)) (file : Str) (tf : Tok), K.lookup (codeX K f) = some ⟨ccl, cdd, .fields vs, ccs⟩ ∧ vs[2]? = some (.str file tf) ∧ ((prg.main.file : Str) == file) = true := by
  unfold fileB at e
  cases q : K.lookup (codeX K f) with
  | none =>
    rw [q] at e
    cases e
  | some o =>
    obtain ⟨oc, od, dt, osl⟩ := o
    rw [q] at e
    cases dt with
    | fields vs =>
      have e2 : (match (vs[2]? : Option Value) with
        | some (.str file _) => (PySem.Challenge.pw_chainmaps_k74_whole_attempts_restore.main.file : Str) == file
        | _ => false) = true := e
      cases q2 : (vs[2]? : Option Value) with
      | none =>
        rw [q2] at e2
        cases e2
      | some v =>
        rw [q2] at e2
        cases v with
        | str file tf => exact ⟨oc, od, vs, osl, file, tf, rfl, q2, e2⟩
        | _ => cases e2
    | _ => cases e
theorem hd_sup {m : Str} (e : supB K m = true) (hm : (m == ("__class__" : Str)) = false) : SupOf K (ga K "KeepingSession") (ga K "KeepingSession") m (supA K m) := by
  obtain ⟨a1, a2⟩ := ba e
  obtain ⟨a2, a3⟩ := ba a2
  obtain ⟨a3, a4⟩ := ba a3
  obtain ⟨a4, a5⟩ := ba a4
  obtain ⟨a5, a6⟩ := ba a5
  exact ⟨Option.isSome_iff_exists.mp a1, of_decide_eq_true a2, eqO_ok a3, of_decide_eq_true a4, a5, eqO_ok a6, hm⟩
theorem no_super : (prg.main.scope.names.lookup ("super" : Str)).isSome = false := by kernel_rfl
theorem hd_tk (X : K.In h) (G : h.Ns mainGlobals mg) (c : SaysK h K) (TB : ∀ p ∈ lamDefs, LamX.TabB base mg (cdA K p.2) (tbA K p.2)) : TK prg K mg base := by
  obtain ⟨k1, k2⟩ := ba c.kp
  obtain ⟨k2, k3⟩ := ba k2
  obtain ⟨k3, k4⟩ := ba k3
  obtain ⟨k4, k5⟩ := ba k4
  have cell : ∃ (cl : Value) (cld : Option Addr) (csl : Array (Option Value)), K.lookup (cellA K) = some ⟨cl, cld, .cell (some (.ref (ga K "KeepingSession"))), csl⟩ := by
    unfold cellB at k3
    cases q : K.lookup (cellA K) with
    | none =>
      rw [q] at k3
      cases k3
    | some o =>
      obtain ⟨oc, od, dt, osl⟩ := o
      rw [q] at k3
      cases dt with
      | cell v =>
        cases v with
        | none => cases k3
        | some v =>
          cases v with
          | ref D =>
            have e : D = ga K "KeepingSession" := of_decide_eq_true k3
            rw [e]
            exact ⟨oc, od, osl, rfl⟩
          | _ => cases k3
      | _ => cases k3
  have lst : ∀ d ∈ ([⟨idG, "identity", "Map.identity", sub 24 1, fun _ => []⟩,
   ⟨fun K => ma K (ga K "KeepingSession") "__init__", "__init__", "KeepingSession.__init__", sub 39 0, fun K => [("__class__", cellA K)]⟩,
   ⟨fun K => ma K (ga K "KeepingSession") "check_next", "check_next", "KeepingSession.check_next", sub 39 2, fun K => [("__class__", cellA K)]⟩,
   ⟨fun K => supA K "__init__", "__init__", "Session.__init__", sub 38 0, fun _ => []⟩,
   ⟨fun K => supA K "check_next", "check_next", "Session.check_next", sub 38 3, fun _ => []⟩] : List DefX), At K d.name d.qual d.st (d.clo K) (d.at_ K) := fun d hd => c.def_ (inR (inR (inR (inR (inR hd)))))
  have aI := lst _ (.tail _ (.head _))
  have aN := lst _ (.tail _ (.tail _ (.head _)))
  have sI := lst _ (.tail _ (.tail _ (.tail _ (.head _))))
  have sN := lst _ (.tail _ (.tail _ (.tail _ (.tail _ (.head _)))))
  obtain ⟨fd1, F1⟩ := sI.fun_
  obtain ⟨fd2, F2⟩ := sN.fun_
  obtain ⟨oc, od, doc, pm, an, ct, osl, q⟩ := aI.ex
  obtain ⟨oc', od', doc', pm', an', ct', osl', q'⟩ := aN.ex
  refine { toTL := hd_tl X G c TB, kc := ⟨cellA K, ⟨_, _, ⟨⟨oc, od, .none, doc, pm, an, _, ct, osl, rfl, q, aI.cd, hd_file k1⟩, cell, no_super⟩, He.mkr_ok (c.fact ?_)⟩, ⟨_, _, ⟨⟨oc', od', .none, doc', pm', an', _, ct', osl', rfl, q', aN.cd, hd_file k2⟩, cell, no_super⟩, He.meth_ok (c.fact ?_)⟩⟩
           supI := ⟨_, fd1, F1, hd_sup k4 (by decide +kernel)⟩, supN := ⟨_, fd2, F2, hd_sup k5 (by decide +kernel)⟩ }
  · exact inR (inR (inR (inR (inR (inR (inR (inR (inL (.tail _ (.tail _ (.tail _ (.head _))))))))))))
  · exact inR (inR (inR (inR (inR (inR (inR (inL (.head _))))))))
/-- the law's promise behind the head -/
theorem law_at {w : World} {fA : Addr} (X : K.In h) (G : h.Ns mainGlobals mg) (c : SaysK h K) (hfa : mg ("law" : Str) = some (.ref fA)) : LamX.LawAtS PySem.Challenge.rw_chainmaps_k74_whole_attempts_restore w K CX0 21 63 "_law_script" mg fA h := by
  obtain ⟨fL, fd, F, hm⟩ := (hd_txt X G c).fn 62 (by decide)
  have hm' : mg ("law" : Str) = some (.ref fL) := hm
  obtain rfl : fA = fL := by
    have e := hfa.symm.trans hm'
    cases e
    rfl
  have hb : Binds K fd ["_law_script"] [] := F.binds (ps := ["_law_script"]) fun _ _ _ _ _ _ us hl => match us, hl with | [_], _ => rfl
  have memT : ∀ {p : Addr × Addr}, p ∈ lamDefs.map (fun p => (cdA K p.2, tbA K p.2)) → ∃ q ∈ lamDefs, p = (cdA K q.2, tbA K q.2) := fun hp => by
    obtain ⟨q, hq, e⟩ := List.mem_map.mp hp
    exact ⟨q, hq, e.symm⟩
  refine ⟨fd, lamDefs.map fun p => (cdA K p.2, tbA K p.2), spLaw K, fun p hp => ?_, fun p hp => ?_, fun p hp => ?_, fun s u => ?_, fun H a ns hl _ hT hS => ?_, fun base KX Gb TB => ?_⟩
  · obtain ⟨q, hq, rfl⟩ := memT hp
    exact c.empty q hq
  · obtain ⟨q, hq, rfl⟩ := memT hp
    exact c.out q hq
  · obtain ⟨q, hq, rfl⟩ := memT hp
    exact PySem.W.codeHd_of_K X (c.hd q hq)
  · obtain ⟨oc, od, kV, doc, pm, an, cdv, ct, osl, rfl, _⟩ := F.ex
    exact .of_eq (by rfl)
  · refine ⟨a, ns, rfl, hS, fun H' f => ?_, by rw [sizeLine_eq]; omega, fun p hp => ?_, fun _ => rfl⟩
    · rcases hS with hS | hS
      · rcases hS with hS | ⟨o, hS⟩
        · exact .inl (.inl (f _ _ hS rfl fun _ => by simp))
        · exact .inl (.inr ⟨o, f _ _ hS rfl fun _ => by simp⟩)
      · exact .inr hS
    · have hp2 : ∃ q ∈ lamDefs, p.1 = tbA K q.2 := by
        have e : ∀ {x : Addr × Str} {l : List (Addr × Str)} {z : List (Nat × Str)}, l.map (·.1) = z.map (fun q => tbA K q.2) → x ∈ l → ∃ q ∈ z, x.1 = tbA K q.2 := fun {x l z} e hx => by
          have hx2 : x.1 ∈ l.map (·.1) := List.mem_map.mpr ⟨x, hx, rfl⟩
          rw [e] at hx2
          obtain ⟨q, hq, e3⟩ := List.mem_map.mp hx2
          exact ⟨q, hq, e3.symm⟩
        exact e (l := lamT K) (z := lamDefs) rfl hp
      obtain ⟨q, hq, e⟩ := hp2
      rw [show p = (p.1, p.2) from rfl, e]
      exact ⟨#[], hT _ (List.mem_map.mpr ⟨q, hq, rfl⟩), trivial, fun pos cv z => by cases z⟩
  · exact law_ok (hd_tk X G c fun p hp => TB _ (List.mem_map.mpr ⟨p, hp, rfl⟩)) F
end
end K74
end
-- K74Xe
set_option maxRecDepth 100000
set_option maxHeartbeats 0
open PySem PySem.W PySem.Calls PyProof.Rows
theorem PySem.Challenge.cw_chainmaps_k74_whole_attempts_restore_holds : PySem.Challenge.rw_chainmaps_k74_whole_attempts_restore.Holds := by
  w_on; o_law
  refine HandSHeadRun.head_any (r := OpenLaw.row PySem.Challenge.rw_chainmaps_k74_whole_attempts_restore) (q := view (OpenLaw.row PySem.Challenge.rw_chainmaps_k74_whole_attempts_restore).prog [62]) (H := K74.hookK) (ob := K74.obT) (M := 12000) (loose := K74.names) (d := HandSHeadRun.topDef (OpenLaw.row PySem.Challenge.rw_chainmaps_k74_whole_attempts_restore).prog 62) (kwd := []) K74.obT_eq
    (by kernel_rfl) (fun s => by kernel_rfl) K74.run (by kernel_rfl) (by kernel_rfl) (by kernel_rfl) (by rfl) (by first | assumption | decide +kernel) (by decide +kernel) ⟨rfl, rfl, rfl, rfl, rfl, by decide +kernel⟩ ?hw ?hc
  case hw => w_witness2
  case hc =>
    refine LamX.walk_ofTsE (l := PySem.Challenge.rw_chainmaps_k74_whole_attempts_restore) (n := 63) (k := 21) (x := "_law_script") (CX := fun _ => L2.CX0) rfl (by decide) (by kernel_rfl) ⟨rfl, by decide, by decide⟩ ?F (fun _ _ _ _ _ z => z)
    intro w mg fa h Y G hmg0
    obtain ⟨K, KX, c⟩ := Y
    have hmg : mg ("law" : PySem.Str) = some (.ref fa) := by
      have e : (HandSHeadRun.topDef (OpenLaw.row PySem.Challenge.rw_chainmaps_k74_whole_attempts_restore).prog 62).name = ("law" : PySem.Str) := by kernel_rfl
      rw [← e]
      exact hmg0
    exact ⟨K, KX, K74.law_at KX G c hmg⟩
