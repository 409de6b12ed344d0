import PyProof.Rows.All
import Wide.All
import OpenK.AllK
import Wide.FinOn
import HandS.ForMost
import HandS.Exc
import HandS.IsInst
import HandS.Codes
import HandS.Defaults
import HandS.Walk
import HandS.TupAny
import HandS.TupMul
import HandS.Style
import HandS.Flow
import HandS.Lambda
import HandS.ExcInit
import HandS.RaiseMore
import HandS.More
import PyProof.ReprRoads
import PyProof.ReprLen
import HandS.HeadEnd
import HandS.HeadHook1
import HandS.HeadHook2
import HandS.Head0
import HandS.Head1
import HandS.Head2
import KE.KExcSuper
import HandS.EndTab
import HandS.HeadHook4
import HandS.ExcField
import HandS.ExcIs
import KE.KStateDown
import Lean
import HandS.Base
import HandS.Call
import HandS.Ends
import HandS.Words
import HandS.WordsExc
import PySem.Challenge.RW_pathbits_k02_bits_and_their_digits
set_option Elab.async false
set_option linter.all false
set_option maxRecDepth 100000
set_option maxHeartbeats 4000000
namespace Pb
open PySem PySem.Spec PyProof.Rows L2

/-! ### room with the guards known -/
structure RoomG (b : Bool) (k : Nat) (A : Around) : Prop where
  rm : Room k A
  gd : b = true → A.guards = some []
theorem RoomG.sub {b b2 : Bool} {k : Nat} {A : Around} (r : RoomG b2 k A) (h : (!b || b2) = true) : RoomG b k A := ⟨r.rm, fun z => r.gd (by subst z; simpa using h)⟩
theorem roomG_of {k : Nat} {A : Around} (r : Room k A) : RoomG false k A := ⟨r, fun z => by cases z⟩
theorem RoomG.mono {b : Bool} {j k : Nat} {A : Around} (r : RoomG b k A) (h : j ≤ k) : RoomG b j A := ⟨r.rm.mono h, r.gd⟩
theorem guards_deeper {A : Around} {env : Env} : (A.deeper env).guards = A.guards := by
  first
    | rfl
    | (cases A with | mk a b c d e => cases d <;> first | rfl | simp [Around.deeper])
theorem RoomG.deeper {b : Bool} {k : Nat} {A : Around} (r : RoomG b (k + 1) A) (env : Env) : RoomG b k (A.deeper env) :=
  ⟨r.rm.deeper env, fun z => by rw [guards_deeper]; exact r.gd z⟩
theorem RoomG.make {b : Bool} {k : Nat} {A : Around} (r : RoomG b (k + 1) A) (C : Addr) (us : List Value) (kw : List (Str × Value)) :
    RoomG b k (A.under (.builtin "type.__call__" ⟨.ref C :: us, kw⟩)) :=
  ⟨r.rm.make C us kw, fun z => by
    have h := r.gd z
    first
      | exact h
      | (simpa [Around.under, Code.guards, Code.isGuard, pushGuards, guardIds] using h)⟩

/-- a def keeps its promise, wherever there is room and no guard stands -/
structure FnG (b : Bool) (P : Program) (w : World) (K : PySem.W.Frag) (mg : Str → Option Value) (base : Heap) (CX : CXT) (k : Nat) (f : Addr) (fd : FuncData) (ps : List Str) (sp : Sp) : Prop where
  len : ∀ vs H Q E, sp vs H Q E → vs.length = ps.length
  run : ∀ (A : Around) (outer : List Env) (s : Shared) (H : Hp) (args : Args) (us : List Value) (vs : List V) (Q : VK) (E : XK), RoomG b k A →
    Env0 P w K mg base A outer s H → BindsTo s fd args (ps.zip us) → Vals vs us → sp vs H Q E →
    codeAny (model P w) A (.call (.ref f) args) (CR CX outer P w H s Q E) s
theorem FnG.mono {b : Bool} {P : Program} {w : World} {K : PySem.W.Frag} {mg : Str → Option Value} {base : Heap} {CX : CXT} {j k : Nat} {f : Addr} {fd : FuncData} {ps : List Str} {sp : Sp}
    (F : FnG b P w K mg base CX j f fd ps sp) (h : j ≤ k) : FnG b P w K mg base CX k f fd ps sp :=
  ⟨F.len, fun A outer s H args us vs Q E hr => F.run A outer s H args us vs Q E (hr.mono h)⟩

/-- a def of the text, by its body -/
theorem fnG_of {b : Bool} {CX : CXT} {P : Program} {w : World} {K : PySem.W.Frag} {mg : Str → Option Value} {base : Heap} {k : Nat} {f : Addr} {name qual : Str} {params : Arguments} {body : List Stmt}
    {scope : Scope} {dV kV doc pm cdv ct oc : Value} {an od : Option Addr} {osl : Array (Option Value)} {N ps : List Str} {sp : Sp}
    (lk : K.lookup f = some ⟨oc, od, .func (PySem.W.fnOf name qual params body scope dV kV doc pm an cdv ct), osl⟩) (hcd : PySem.W.codeIn K cdv qual = true) (S : FnScope N ps scope)
    (len : ∀ vs H Q E, sp vs H Q E → vs.length = ps.length)
    (hbody : ∀ (A : Around) (outer : List Env) (s : Shared) (H : Hp) (vs : List V) (Q : VK) (E : XK),
      RoomG b k (A.deeper (envOfC qual scope s.heap.objs.size f cdv)) → sp vs H Q E →
      ∃ t, PSs (cxOf CX P w K mg base N qual scope f cdv A outer s H E) body t ∧ t { nx := fun _ H' => Q .non H', rt := Q } (start N vs) H) :
    FnG b P w K mg base CX (k + 1) f (PySem.W.fnOf name qual params body scope dV kV doc pm an cdv ct) ps sp := by
  constructor
  · exact len
  intro A outer s H args us vs Q E hr e0 hb r hsp
  have hlen := len _ _ _ _ hsp
  have hin : K.In s.heap := e0.mod.kin.keeps fun b o e => (e0.bs b o e).1
  have hlim : s.heap.NoLimit := e0.mod.nolimit.keeps fun b o e => (e0.bs b o e).1
  have hkd : ∀ y ∈ ps.zip us, scope.names.lookup y.1 = some .local ∨
      (scope.names.lookup y.1 = some .cell ∧ ((cellsFrom (s.heap.objs.size + 1) scope.names []).lookup y.1).isSome = true) := by
    rintro ⟨n, v⟩ hy
    rcases S.par n (List.of_mem_zip hy).1 with q | q
    · left; exact q
    · right; exact ⟨q, PySem.W.cellsFrom_some _ _ _ (.inl q)⟩
  refine codeAny_call_function hr.rm.depth (hin _ _ lk) rfl S.co S.gen rfl (PySem.W.codeRec_of hin hcd) (hb _ _ _ _ ?_)
  refine wpAny_newFunctionEnv_cells S.kind hkd ?_
  intro env he s1 x
  subst he
  refine ⟨hlim.keeps x.toInCall.keep, codeAny_func ?_⟩
  obtain ⟨t, ht, hq⟩ := hbody A outer s H vs Q E (hr.deeper _) hsp
  have I := inv_start (CX := CX) (E := E) S hr.rm.hd e0 hlen r x
  refine wpAny_mono (ht.run [] s1 (start N vs) H _ I hq) ?_ ?_
  · intro fl s' hs
    cases fl with
    | ret u =>
      obtain ⟨v, σ', H', J, rv, q⟩ := hs
      exact ⟨v, H', J.os, J.bare, J.base, J.hok, rv, q⟩
    | next =>
      obtain ⟨σ', H', J, q⟩ := hs
      exact ⟨V.non, H', J.os, J.bare, J.base, J.hok, rfl, q⟩
    | brk =>
      obtain ⟨_, _, _, q⟩ := hs
      exact q.elim
    | cont =>
      obtain ⟨_, _, _, q⟩ := hs
      exact q.elim
  · intro e s' hs
    exact hs

/-! ### a call by values of a def -/
section
variable {X : Cx} {CX : CXT} {k : Nat} {f C : Addr} {fd : FuncData} {ps : List Str} {sp : Sp} {dvs : List V} {ds : List Value} {E : XK}
theorem FnG.callR {b : Bool} (F : FnG b X.prog X.w X.K X.mg X.base CX k f fd ps sp) (hr : RoomG b k X.A) (hb : Binds X.K fd ps ds) (hd : Vals dvs ds) (hx : Passes CX X E) :
    CallR X (.ref f) (fun vs H Q => sp (vs ++ dvs) H Q E) := by
  intro pins s σ H vs us Q I r h
  have r2 : Vals (vs ++ dvs) (us ++ ds) := r.append hd
  have hl : (us ++ ds).length = ps.length := by
    rw [← r2.length]
    exact F.len _ _ _ _ h
  refine wpAny_call (codeAny_mono (F.run X.A X.stack s H ⟨us, []⟩ (us ++ ds) (vs ++ dvs) Q E hr I.env0 (hb s us I.kIn hl) r2 h) ?_)
  intro r s' hq
  cases r with
  | error e => exact hx pins σ H s e s' I hq
  | ok fl =>
    cases fl with
    | ret u => exact I.after hq
    | next => exact hq.elim
    | brk => exact hq.elim
    | cont => exact hq.elim
variable {x : Str} {p pos : Pos} {e : Expr} {es : List Expr} {t : TA} {r : List V → Hp → VK → Prop}
/-- g(e, ..), g a name of the module that holds a kept object -/
theorem pe_callO (hc : CallR X (.ref f) r) (hm : X.mg x = some (.ref f)) (hk : PySem.W.keepIn X.K (.ref f) = true) (ha : PA X (e :: es) t) (hg : Gl X x := by rfl)
    (hdb : (x == ("__debug__" : Str)) = false := by decide) (he : starEach (e :: es) X.env = (false, eval e X.env) :: starEach es X.env := by rfl)
    (hpl : (backTo pos (starEach es X.env)).any (·.1) = false := by rfl) : PE X (.Call (.Name x p) (e :: es) [] pos) (tCB r t) := by
  constructor
  intro pins s σ H Q I h
  refine wpAny_Call_Name_kw (ld_glob I hg hm ?_ hdb)
  refine PySem.W.callWith_K (h₀ := X.base) I.ok.mod.kin hk (thn (ha.run pos pins s σ H _ I h) ?_) he hpl
  rintro us s1 ⟨vs, H1, I1, r, q⟩
  exact ⟨I1.kIn, hc pins s1 σ H1 vs us Q I1 r q⟩
theorem pe_callO0 (hc : CallR X (.ref f) r) (hm : X.mg x = some (.ref f)) (hk : PySem.W.keepIn X.K (.ref f) = true) (hg : Gl X x := by rfl)
    (hdb : (x == ("__debug__" : Str)) = false := by decide) : PE X (.Call (.Name x p) [] [] pos) (tCB r tNil) := by
  constructor
  intro pins s σ H Q I h
  refine wpAny_Call_Name_kw (ld_glob I hg hm ?_ hdb)
  exact PySem.W.callWith_K0 I.kIn hk (hc pins s σ H [] [] Q I .nil h)
end
end Pb
namespace Pb
open PySem PySem.Spec PyProof.Rows L2

/-! ### a def of the text -/
abbrev Fd (K : PySem.W.Frag) (x qual : Str) (st : Stmt) (f : Addr) (fd : FuncData) : Prop := FunD K x qual (defArgs st) (defBody st) (defScope st) [] [] f fd
section
variable {P : Program} {w : World} {K : PySem.W.Frag} {mg : Str → Option Value} {base : Heap} {x qual : Str} {params : Arguments} {body : List Stmt} {scope : Scope} {dvs : List V} {kws : List (Str × V)} {f : Addr} {fd : FuncData}
theorem okG {b : Bool} {CX : CXT} {N ps : List Str} {k : Nat} {sp : Sp} (F : FunD K x qual params body scope dvs kws f fd) (S : FnScope N ps scope) (len : ∀ vs H Q E, sp vs H Q E → vs.length = ps.length)
    (hbody : ∀ (cdv : Value) (A : Around) (outer : List Env) (s : Shared) (H : Hp) (vs : List V) (Q : VK) (E : XK),
      RoomG b k (A.deeper (envOfC qual scope s.heap.objs.size f cdv)) → sp vs H Q E →
      ∃ t, PSs (cxOf CX P w K mg base N qual scope f cdv A outer s H E) body t ∧ t { nx := fun _ H' => Q .non H', rt := Q } (start N vs) H) :
    FnG b P w K mg base CX (k + 1) f fd ps sp := by
  obtain ⟨oc, od, dV, kV, doc, pm, an, cdv, ct, osl, rfl, lk, hcd, _, _⟩ := F.ex
  exact fnG_of lk hcd S len fun A outer s H vs Q E hr hsp => hbody cdv A outer s H vs Q E hr hsp
/-- .. out of which nothing is raised -/
theorem okG0 {b : Bool} {N ps : List Str} {k : Nat} {sp : Sp} (F : FunD K x qual params body scope dvs kws f fd) (S : FnScope N ps scope) (len : ∀ vs H Q E, sp vs H Q E → vs.length = ps.length)
    (hbody : ∀ (cdv : Value) (A : Around) (outer : List Env) (s : Shared) (H : Hp) (vs : List V) (Q : VK) (E : XK),
      RoomG b k (A.deeper (envOfC qual scope s.heap.objs.size f cdv)) → sp vs H Q E →
      ∃ t, PSs (cxOf CX0 P w K mg base N qual scope f cdv A outer s H E).nox body t ∧ t { nx := fun _ H' => Q .non H', rt := Q } (start N vs) H) :
    FnG b P w K mg base CX0 (k + 1) f fd ps sp := by
  refine okG F S len fun cdv A outer s H vs Q E hr hsp => ?_
  obtain ⟨t, h, q⟩ := hbody cdv A outer s H vs Q E hr hsp
  exact ⟨t, h.nox, q⟩
end
/-- a global name x that holds a def with the promise sp -/
structure Cal (b : Bool) (P : Program) (w : World) (K : PySem.W.Frag) (mg : Str → Option Value) (base : Heap) (CX : CXT) (k : Nat) (st : Stmt) (x : Str) (ps : List Str) (sp : Sp) : Prop where
  ex : ∃ f fd, mg x = some (.ref f) ∧ Fd K x x st f fd ∧ Binds K fd ps [] ∧ FnG b P w K mg base CX k f fd ps sp
/-- how the arguments are bound: positional values us, values ws of keywords named ks; the parameters' order by g -/
def Bnd (x qual : Str) (st : Stmt) (ps ks : List Str) (n : Nat) (g : {α : Type} → List α → List α → List α) : Prop :=
  ∀ (kV doc pm : Value) (an : Option Addr) (cdv ct : Value) (us ws : List Value), us.length = n → ws.length = ks.length →
    bindArgs (PySem.W.fnOf x qual (defArgs st) (defBody st) (defScope st) .none kV doc pm an cdv ct) ⟨us, ks.zip ws⟩ = pure (ps.zip (g us ws))
section
variable {X : Cx} {CX : CXT} {j k n : Nat} {st : Stmt} {f : Addr} {fd : FuncData} {ps ks : List Str} {sp : Sp} {E : XK} {x qual : Str} {p pos : Pos} {e : Expr} {es : List Expr} {kws : List Keyword} {t tk : TA}
/-- x(e, ..) -/
theorem pe_cal {b b2 : Bool} (c : Cal b X.prog X.w X.K X.mg X.base CX k st x ps sp) (hr : RoomG b2 j X.A) (hx : Passes CX X E) (ha : PA X (e :: es) t) (hk : k ≤ j := by decide) (hbb : (!b || b2) = true := by rfl) (hg : Gl X x := by rfl)
    (hdb : (x == ("__debug__" : Str)) = false := by decide) (he : starEach (e :: es) X.env = (false, eval e X.env) :: starEach es X.env := by rfl)
    (hpl : (backTo pos (starEach es X.env)).any (·.1) = false := by rfl) :
    PE X (.Call (.Name x p) (e :: es) [] pos) (tCB (fun vs H Q => sp vs H Q E) t) := by
  obtain ⟨f, fd, hm, F, hb, G⟩ := c.ex
  have hc := G.callR (RoomG.sub (hr.mono hk) hbb) hb .nil hx
  simp only [List.append_nil] at hc
  exact pe_callO hc hm F.kp ha hg hdb he hpl
theorem pe_cal0 {b b2 : Bool} (c : Cal b X.prog X.w X.K X.mg X.base CX k st x ps sp) (hr : RoomG b2 j X.A) (hx : Passes CX X E) (hk : k ≤ j := by decide) (hbb : (!b || b2) = true := by rfl) (hg : Gl X x := by rfl)
    (hdb : (x == ("__debug__" : Str)) = false := by decide) : PE X (.Call (.Name x p) [] [] pos) (tCB (fun vs H Q => sp vs H Q E) tNil) := by
  obtain ⟨f, fd, hm, F, hb, G⟩ := c.ex
  have hc := G.callR (RoomG.sub (hr.mono hk) hbb) hb .nil hx
  simp only [List.append_nil] at hc
  exact pe_callO0 hc hm F.kp hg hdb
theorem FnG.runK {b : Bool} {pins : List (Addr × Obj)} {σ : L2.St} {H : Hp} {s : Shared} {Q : VK} {us ws zs : List Value} {vs : List V} {kw : List (Str × Value)} (F : FnG b X.prog X.w X.K X.mg X.base CX k f fd ps sp)
    (hr : RoomG b k X.A) (hx : Passes CX X E) (hb : BindsTo s fd ⟨us, kw⟩ (ps.zip zs)) (I : Inv X pins σ H s) (r : Vals vs zs) (h : sp vs H Q E) :
    wpAny (model X.prog X.w) X.A (call (.ref f) us kw) (EP X pins σ Q) X.xe s := by
  refine wpAny_call (codeAny_mono (F.run X.A X.stack s H ⟨us, kw⟩ zs vs Q E hr I.env0 hb r h) ?_)
  intro r s' hq
  cases r with
  | error e => exact hx pins σ H s e s' I hq
  | ok fl =>
    cases fl with
    | ret u => exact I.after hq
    | next => exact hq.elim
    | brk => exact hq.elim
    | cont => exact hq.elim
/-- the reading of a call with keywords -/
def tCK (g : {α : Type} → List α → List α → List α) (n m : Nat) (r : List V → Hp → VK → Prop) (t tk : TA) : TE := fun σ H Q => t σ H fun vs H1 => tk σ H1 fun zs H2 => (vs.length = n ∧ zs.length = m) ∧ r (g vs zs) H2 Q
theorem Fd.bnd {K : PySem.W.Frag} {g : {α : Type} → List α → List α → List α} (F : Fd K x qual st f fd) (hb : Bnd x qual st ps ks n g) {s : Shared} {us ws : List Value} (h1 : us.length = n) (h2 : ws.length = ks.length) :
    BindsTo s fd ⟨us, ks.zip ws⟩ (ps.zip (g us ws)) := by
  obtain ⟨oc, od, dV, kV, doc, pm, an, cdv, ct, osl, rfl, lk, hcd, hD, hK⟩ := F.ex
  rcases hD with ⟨_, rfl⟩ | ⟨e, _⟩
  · exact .of_eq (hb kV doc pm an cdv ct us ws h1 h2)
  · exact absurd rfl e
/-- x(e, .., k = v, ..) -/
theorem pe_calK {g : {α : Type} → List α → List α → List α} {b b2 : Bool} (c : Cal b X.prog X.w X.K X.mg X.base CX k st x ps sp) (hr : RoomG b2 j X.A) (hx : Passes CX X E)
    (hb : Bnd x x st ps ks n g) (hrel : ∀ {vs zs : List V} {us ws : List Value}, Vals vs us → Vals zs ws → Vals (g vs zs) (g us ws)) (ha : PA X (e :: es) t) (hkw : PK X kws tk) (hk : k ≤ j := by decide) (hbb : (!b || b2) = true := by rfl) (hg : Gl X x := by rfl)
    (hall : (backToKw pos (keywordEach kws X.env)).all (·.1.isSome) = true := by rfl) (hks : (backToKw pos (keywordEach kws X.env)).filterMap (·.1) = ks := by rfl)
    (hdb : (x == ("__debug__" : Str)) = false := by decide) (he : starEach (e :: es) X.env = (false, eval e X.env) :: starEach es X.env := by rfl)
    (hpl : ((backTo pos (starEach (e :: es) X.env)).any (·.1) || (backToKw pos (keywordEach kws X.env)).any (·.1.isNone)) = false := by rfl) :
    PE X (.Call (.Name x p) (e :: es) kws pos) (tCK g n ks.length (fun vs H Q => sp vs H Q E) t tk) := by
  obtain ⟨f, fd, hm, F, _, G⟩ := c.ex
  constructor
  intro pins s σ H Q I h
  refine wpAny_Call_Name_kw (ld_glob I hg hm ?_ hdb)
  refine PySem.W.callWith_KW (h₀ := X.base) I.ok.mod.kin F.kp hall (thn (ha.run pos pins s σ H _ I h) ?_) hpl he
  rintro us s1 ⟨vs, H1, I1, r, q⟩
  refine thn (hkw.run pos pins s1 σ H1 _ I1 q) ?_
  rintro ws s2 ⟨zs, H2, I2, rz, ⟨l1, l2⟩, q2⟩
  refine ⟨I2.kIn, ?_⟩
  rw [hks]
  exact G.runK (us := us) (ws := ws) (RoomG.sub (hr.mono hk) hbb) hx (F.bnd hb (r.length.symm.trans l1) (rz.length.symm.trans l2)) I2 (hrel r rz) q2
theorem pe_calK0 {g : {α : Type} → List α → List α → List α} {b b2 : Bool} (c : Cal b X.prog X.w X.K X.mg X.base CX k st x ps sp) (hr : RoomG b2 j X.A) (hx : Passes CX X E)
    (hb : Bnd x x st ps ks 0 g) (hrel : ∀ {vs zs : List V} {us ws : List Value}, Vals vs us → Vals zs ws → Vals (g vs zs) (g us ws)) (hkw : PK X kws tk) (hk : k ≤ j := by decide) (hbb : (!b || b2) = true := by rfl) (hg : Gl X x := by rfl)
    (hall : (backToKw pos (keywordEach kws X.env)).all (·.1.isSome) = true := by rfl) (hks : (backToKw pos (keywordEach kws X.env)).filterMap (·.1) = ks := by rfl)
    (hdb : (x == ("__debug__" : Str)) = false := by decide)
    (hpl : ((backTo pos (starEach [] X.env)).any (·.1) || (backToKw pos (keywordEach kws X.env)).any (·.1.isNone)) = false := by rfl) :
    PE X (.Call (.Name x p) [] kws pos) (tCK g 0 ks.length (fun vs H Q => sp vs H Q E) tNil tk) := by
  obtain ⟨f, fd, hm, F, _, G⟩ := c.ex
  constructor
  intro pins s σ H Q I h
  refine wpAny_Call_Name_kw (ld_glob I hg hm ?_ hdb)
  refine PySem.W.callWith_KW0 (h₀ := X.base) I.ok.mod.kin F.kp hall (thn (hkw.run pos pins s σ H _ I h) ?_) hpl
  rintro ws s2 ⟨zs, H2, I2, rz, ⟨l1, l2⟩, q2⟩
  refine ⟨I2.kIn, ?_⟩
  rw [hks]
  exact G.runK (us := []) (ws := ws) (RoomG.sub (hr.mono hk) hbb) hx (F.bnd hb rfl (rz.length.symm.trans l2)) I2 (hrel .nil rz) q2
end
/-- the keywords stand behind the positional values -/
abbrev gApp : {α : Type} → List α → List α → List α := fun us ws => us ++ ws
theorem rel_app {vs zs : List V} {us ws : List Value} (h1 : Vals vs us) (h2 : Vals zs ws) : Vals (gApp vs zs) (gApp us ws) := h1.append h2

/-! ### walked things, several kinds -/
theorem PI.or {X : Cx} {tg it : Expr} {w1 w2 : TI} (h1 : PI X tg it w1) (h2 : PI X tg it w2) : PI X tg it (fun σ H R => w1 σ H R ∨ w2 σ H R) := by
  constructor
  intro pins s σ H R I h
  rcases h with h | h
  · exact h1.run pins s σ H R I h
  · exact h2.run pins s σ H R I h
/-- a list, a tuple or a text, by its value -/
def iSeq (K : PySem.W.Frag) (te : TE) : TI := fun σ H R => iList K te σ H R ∨ iTup K te σ H R ∨ iStr te σ H R
theorem pi_seq {X : Cx} {tg l : Expr} {te : TE} (h : PE X l te) : PI X tg l (iSeq X.K te) := PI.or (pi_list h) (PI.or (pi_tup h) (pi_str h))
end Pb
namespace Pb
open PySem PySem.Spec PyProof.Rows L2

/-! ### data, without addresses -/
inductive Dt where
  | non
  | bl (b : Bool)
  | int (i : Int)
  | str (x : Str)
  | lst (xs : List Dt)
  | tup (xs : List Dt)
  | dic (ks : List Key) (ds : List Dt)
  | obj (c : Str) (ns : List Str) (ds : List Dt)
  | err (c : Str) (ns : List Str) (ds : List Dt)
  | pen
/-- what stands fixed: the written part, the module's names, where the pen lies -/
structure Wc where
  K : PySem.W.Frag
  mg : Str → Option Value
  a : Addr
  l : Addr
  ns : List Int
  T : List (Addr × Str)
  er : Option (Addr × Addr × Addr) := none
/-- a tuple: one that is not of av, or one of the written part -/
def TupAt (K : PySem.W.Frag) (av : Addr → Prop) (H : Hp) (p : Addr) (vs : List V) : Prop := (¬ av p ∧ Rd H p (.tup vs)) ∨
  ∃ (o : Obj) (its : Array Value) (n : Nat), K.lookup p = some o ∧ o.cls = .type "tuple" ∧ o.data = .seq its n ∧ its.size ≤ sizeLine ∧ Vals vs its.toList
theorem TupAt.sq {K : PySem.W.Frag} {av : Addr → Prop} {H : Hp} {p : Addr} {vs : List V} (h : TupAt K av H p vs) : SqT K H p vs := by
  rcases h with ⟨_, h⟩ | h
  · exact .inl h
  · exact .inr h
theorem TupAt.less {K : PySem.W.Frag} {av av' : Addr → Prop} {H : Hp} {p : Addr} {vs : List V} (k : ∀ p, av' p → av p) (h : TupAt K av H p vs) : TupAt K av' H p vs := by
  rcases h with ⟨h1, h2⟩ | h
  · exact .inl ⟨fun z => h1 (k _ z), h2⟩
  · exact .inr h
theorem TupAt.more {K : PySem.W.Frag} {av : Addr → Prop} {H : Hp} {p q : Addr} {vs : List V} (hq : H q = none) (h : TupAt K av H p vs) : TupAt K (fun p => av p ∨ p = q) H p vs := by
  rcases h with ⟨h1, h2⟩ | h
  · refine .inl ⟨fun z => z.elim h1 fun e => ?_, h2⟩
    rw [e] at h2
    rcases h2 with h2 | ⟨o, h2⟩
    · rw [hq] at h2; cases h2
    · rw [hq] at h2; cases h2
  · exact .inr h
/-- an own error of the class at C with these fields: the one that is held (er tells it, its class and its dict), or one that is a value -/
def ErAt (c : Wc) (av : Addr → Prop) (H : Hp) (p C : Addr) (fs : List (Str × V)) : Prop := (∃ dd, c.er = some (p, C, dd) ∧ ¬ av dd ∧ H dd = some (.xd fs)) ∨
  ∃ dd, ¬ av p ∧ ¬ av dd ∧ H p = some (exo p C (some dd)) ∧ H dd = some (exd dd fs)
theorem ErAt.less {c : Wc} {av av' : Addr → Prop} {H : Hp} {p C : Addr} {fs : List (Str × V)} (k : ∀ p, av' p → av p) (h : ErAt c av H p C fs) : ErAt c av' H p C fs := by
  rcases h with ⟨dd, h1, h2, h3⟩ | ⟨dd, h1, h2, h3, h4⟩
  · exact .inl ⟨dd, h1, fun z => h2 (k _ z), h3⟩
  · exact .inr ⟨dd, fun z => h1 (k _ z), fun z => h2 (k _ z), h3, h4⟩
theorem ErAt.more {c : Wc} {av : Addr → Prop} {H : Hp} {p C q : Addr} {fs : List (Str × V)} (hq : H q = none) (h : ErAt c av H p C fs) : ErAt c (fun p => av p ∨ p = q) H p C fs := by
  rcases h with ⟨dd, h1, h2, h3⟩ | ⟨dd, h1, h2, h3, h4⟩
  · refine .inl ⟨dd, h1, fun z => z.elim h2 fun e => ?_, h3⟩
    rw [e, hq] at h3
    cases h3
  · refine .inr ⟨dd, fun z => z.elim h1 fun e => ?_, fun z => z.elim h2 fun e => ?_, h3, h4⟩
    · rw [e, hq] at h3
      cases h3
    · rw [e, hq] at h4
      cases h4
mutual
/-- a value is this data; no object of it is one of av -/
inductive Da (c : Wc) (av : Addr → Prop) (H : Hp) : V → Dt → Prop
  | non : Da c av H .non .non
  | bl (b : Bool) : Da c av H (.bl b) (.bl b)
  | int (i : Int) : Da c av H (.int i) (.int i)
  | str (x : Str) : Da c av H (.str x) (.str x)
  | lst {p : Addr} {vs : List V} {ds : List Dt} : ¬ av p → H p = some (.lst vs) → DaAll c av H vs ds → Da c av H (.ref p) (.lst ds)
  | tup {p : Addr} {vs : List V} {ds : List Dt} : TupAt c.K av H p vs → DaAll c av H vs ds → Da c av H (.ref p) (.tup ds)
  | dic {p : Addr} {kvs : List (Key × V)} {ks : List Key} {ds : List Dt} : ¬ av p → H p = some (.dK kvs) → kvs.map (·.1) = ks → DaAll c av H (kvs.map (·.2)) ds → Da c av H (.ref p) (.dic ks ds)
  | obj {p C dx : Addr} {cn : Str} {fs : List (Str × V)} {ns : List Str} {ds : List Dt} : ¬ av p → c.mg cn = some (.ref C) → H p = some (.ins C dx fs) → fs.map (·.1) = ns → DaAll c av H (fs.map (·.2)) ds → Da c av H (.ref p) (.obj cn ns ds)
  | err {p C : Addr} {cn : Str} {fs : List (Str × V)} {ns : List Str} {ds : List Dt} : ErAt c av H p C fs → c.mg cn = some (.ref C) → fs.map (·.1) = ns → DaAll c av H (fs.map (·.2)) ds → Da c av H (.ref p) (.err cn ns ds)
  | pen : Da c av H (.ref c.a) .pen
inductive DaAll (c : Wc) (av : Addr → Prop) (H : Hp) : List V → List Dt → Prop
  | nil : DaAll c av H [] []
  | cons {v : V} {d : Dt} {vs : List V} {ds : List Dt} : Da c av H v d → DaAll c av H vs ds → DaAll c av H (v :: vs) (d :: ds)
end
/-- a table of code objects -/
def isT : HO → Bool
  | .tbl _ => true
  | _ => false
/-- what is not of av, and no table, stays -/
def Kp (av : Addr → Prop) (H H' : Hp) : Prop := ∀ b o, ¬ av b → H b = some o → isT o = false → H' b = some o
theorem TupAt.keep {K : PySem.W.Frag} {av : Addr → Prop} {H H' : Hp} {p : Addr} {vs : List V} (k : Kp av H H') (h : TupAt K av H p vs) : TupAt K av H' p vs := by
  rcases h with ⟨h1, h2 | ⟨o, h2⟩⟩ | h
  · exact .inl ⟨h1, .inl (k _ _ h1 h2 rfl)⟩
  · exact .inl ⟨h1, .inr ⟨o, k _ _ h1 h2 rfl⟩⟩
  · exact .inr h
theorem ErAt.keep {c : Wc} {av : Addr → Prop} {H H' : Hp} {p C : Addr} {fs : List (Str × V)} (k : Kp av H H') (h : ErAt c av H p C fs) : ErAt c av H' p C fs := by
  rcases h with ⟨dd, h1, h2, h3⟩ | ⟨dd, h1, h2, h3, h4⟩
  · exact .inl ⟨dd, h1, h2, k _ _ h2 h3 rfl⟩
  · exact .inr ⟨dd, h1, h2, k _ _ h1 h3 rfl, k _ _ h2 h4 rfl⟩
theorem Kp.refl (av : Addr → Prop) (H : Hp) : Kp av H H := fun _ _ _ h _ => h
theorem Kp.trans {av : Addr → Prop} {H H1 H2 : Hp} (x : Kp av H H1) (y : Kp av H1 H2) : Kp av H H2 := fun b o hb h t => y b o hb (x b o hb h t) t
theorem Kp.more {av av' : Addr → Prop} {H H' : Hp} (x : Kp av H H') (k : ∀ p, av p → av' p) : Kp av' H H' := fun b o hb h t => x b o (fun z => hb (k _ z)) h t
section
variable {c : Wc} {av av' : Addr → Prop} {H H' : Hp}
mutual
theorem Da.keep (k : Kp av H H') : ∀ (d : Dt) (v : V), Da c av H v d → Da c av H' v d
  | .non, _, h => by cases h; exact .non
  | .bl _, _, h => by cases h; exact .bl _
  | .int _, _, h => by cases h; exact .int _
  | .str _, _, h => by cases h; exact .str _
  | .lst ds, _, h => by
    cases h with
    | lst h1 h2 h3 => exact .lst h1 (k _ _ h1 h2 rfl) (DaAll.keep k ds _ h3)
  | .tup ds, _, h => by
    cases h with
    | tup h2 h3 => exact .tup (h2.keep k) (DaAll.keep k ds _ h3)
  | .dic ks ds, _, h => by
    cases h with
    | dic h1 h2 h3 h4 => exact .dic h1 (k _ _ h1 h2 rfl) h3 (DaAll.keep k ds _ h4)
  | .obj cn ns ds, _, h => by
    cases h with
    | obj h1 h2 h3 h4 h5 => exact .obj h1 h2 (k _ _ h1 h3 rfl) h4 (DaAll.keep k ds _ h5)
  | .err cn ns ds, _, h => by
    cases h with
    | err h1 h2 h3 h4 => exact .err (h1.keep k) h2 h3 (DaAll.keep k ds _ h4)
  | .pen, _, h => by cases h; exact .pen
theorem DaAll.keep (k : Kp av H H') : ∀ (ds : List Dt) (vs : List V), DaAll c av H vs ds → DaAll c av H' vs ds
  | [], _, h => by cases h; exact .nil
  | d :: ds, _, h => by
    cases h with
    | cons h1 h2 => exact .cons (Da.keep k d _ h1) (DaAll.keep k ds _ h2)
end
mutual
theorem Da.less (k : ∀ p, av' p → av p) : ∀ (d : Dt) (v : V), Da c av H v d → Da c av' H v d
  | .non, _, h => by cases h; exact .non
  | .bl _, _, h => by cases h; exact .bl _
  | .int _, _, h => by cases h; exact .int _
  | .str _, _, h => by cases h; exact .str _
  | .lst ds, _, h => by
    cases h with
    | lst h1 h2 h3 => exact .lst (fun z => h1 (k _ z)) h2 (DaAll.less k ds _ h3)
  | .tup ds, _, h => by
    cases h with
    | tup h2 h3 => exact .tup (h2.less k) (DaAll.less k ds _ h3)
  | .dic ks ds, _, h => by
    cases h with
    | dic h1 h2 h3 h4 => exact .dic (fun z => h1 (k _ z)) h2 h3 (DaAll.less k ds _ h4)
  | .obj cn ns ds, _, h => by
    cases h with
    | obj h1 h2 h3 h4 h5 => exact .obj (fun z => h1 (k _ z)) h2 h3 h4 (DaAll.less k ds _ h5)
  | .err cn ns ds, _, h => by
    cases h with
    | err h1 h2 h3 h4 => exact .err (h1.less k) h2 h3 (DaAll.less k ds _ h4)
  | .pen, _, h => by cases h; exact .pen
theorem DaAll.less (k : ∀ p, av' p → av p) : ∀ (ds : List Dt) (vs : List V), DaAll c av H vs ds → DaAll c av' H vs ds
  | [], _, h => by cases h; exact .nil
  | d :: ds, _, h => by
    cases h with
    | cons h1 h2 => exact .cons (Da.less k d _ h1) (DaAll.less k ds _ h2)
end

mutual
theorem Da.more {q : Addr} (hq : H q = none) : ∀ (d : Dt) (v : V), Da c av H v d → Da c (fun p => av p ∨ p = q) H v d
  | .non, _, h => by cases h; exact .non
  | .bl _, _, h => by cases h; exact .bl _
  | .int _, _, h => by cases h; exact .int _
  | .str _, _, h => by cases h; exact .str _
  | .lst ds, _, h => by
    cases h with
    | lst h1 h2 h3 =>
      refine .lst (fun z => z.elim h1 fun e => ?_) h2 (DaAll.more hq ds _ h3)
      rw [e, hq] at h2
      cases h2
  | .tup ds, _, h => by
    cases h with
    | tup h2 h3 => exact .tup (h2.more hq) (DaAll.more hq ds _ h3)
  | .dic ks ds, _, h => by
    cases h with
    | dic h1 h2 h3 h4 =>
      refine .dic (fun z => z.elim h1 fun e => ?_) h2 h3 (DaAll.more hq ds _ h4)
      rw [e, hq] at h2
      cases h2
  | .obj cn ns ds, _, h => by
    cases h with
    | obj h1 h2 h3 h4 h5 =>
      refine .obj (fun z => z.elim h1 fun e => ?_) h2 h3 h4 (DaAll.more hq ds _ h5)
      rw [e, hq] at h3
      cases h3
  | .err cn ns ds, _, h => by
    cases h with
    | err h1 h2 h3 h4 => exact .err (h1.more hq) h2 h3 (DaAll.more hq ds _ h4)
  | .pen, _, h => by cases h; exact .pen
theorem DaAll.more {q : Addr} (hq : H q = none) : ∀ (ds : List Dt) (vs : List V), DaAll c av H vs ds → DaAll c (fun p => av p ∨ p = q) H vs ds
  | [], _, h => by cases h; exact .nil
  | d :: ds, _, h => by
    cases h with
    | cons h1 h2 => exact .cons (Da.more hq d _ h1) (DaAll.more hq ds _ h2)
end
end
end Pb
namespace Pb
open PySem PySem.Spec PyProof.Rows L2

/-! ### the pen, and what a body knows -/
def penLine : Nat := 4194304
/-- the pen at a, its numbers at l, is good for n draws more -/
def Pen (a l : Addr) (ns : List Int) (T : List (Addr × Str)) (n : Nat) (H : Hp) : Prop := ∃ (i r : Int), H a = some (.lst [.ref l, .int i, .int r]) ∧ H l = some (.lst (ns.map V.int)) ∧ l ≠ a ∧ ns.length ≤ 63 ∧ 0 ≤ i ∧ i + n ≤ (penLine : Int) ∧ LamX.Tabs T H
/-- all objects but the pen stay -/
def Stp (a : Addr) (H H' : Hp) : Prop := ∀ b o, b ≠ a → H b = some o → isT o = false → H' b = some o
theorem Stp.refl (a : Addr) (H : Hp) : Stp a H H := fun _ _ _ h _ => h
theorem Stp.trans {a : Addr} {H H1 H2 : Hp} (x : Stp a H H1) (y : Stp a H1 H2) : Stp a H H2 := fun b o hb h t => y b o hb (x b o hb h t) t
theorem Stp.same {a : Addr} {H H' : Hp} (x : Same H H') : Stp a H H' := fun b o _ h _ => x b o h
theorem Stp.kp {a : Addr} {av : Addr → Prop} {H H' : Hp} (x : Stp a H H') (ha : av a) : Kp av H H' := fun b o hb h t => x b o (fun e => hb (e ▸ ha)) h t
theorem same_kp {av : Addr → Prop} {H H' : Hp} (x : Same H H') : Kp av H H' := fun b o _ h _ => x b o h
theorem same_new {H : Hp} {p : Addr} {o : HO} (h : H p = none) : Same H (upd H p o) := fun a u e => by
  rw [upd_ne (ne_of_none e h)]
  exact e
theorem Pen.same {a l : Addr} {ns : List Int} {T : List (Addr × Str)} {n : Nat} {H H' : Hp} (x : Same H H') (h : Pen a l ns T n H) : Pen a l ns T n H' := by
  obtain ⟨i, r, h1, h2, h3, h4, h5, h6, h7⟩ := h
  exact ⟨i, r, x _ _ h1, x _ _ h2, h3, h4, h5, h6, h7.ext x⟩
theorem Pen.less {a l : Addr} {ns : List Int} {T : List (Addr × Str)} {m n : Nat} {H : Hp} (h : Pen a l ns T n H) (hm : m ≤ n) : Pen a l ns T m H := by
  obtain ⟨i, r, h1, h2, h3, h4, h5, h6, h7⟩ := h
  exact ⟨i, r, h1, h2, h3, h4, h5, by omega, h7⟩
/-- an object that is no table and no code object changes: the tables stay -/
def isC : HO → Bool
  | .ext _ => true
  | _ => false
theorem Tabs.upd {T : List (Addr × Str)} {H : Hp} {p : Addr} {o u : HO} (h : LamX.Tabs T H) (hp : H p = some o) (ht : isT o = false) (hc : isC o = false) : LamX.Tabs T (upd H p u) := by
  intro q hq
  obtain ⟨ps, a1, a2, a3⟩ := h q hq
  refine ⟨ps, ?_, a2, fun pos cv hcv => ?_⟩
  · rw [upd_ne fun z => ?_]
    · exact a1
    · rw [z, hp] at a1
      cases a1
      cases ht
  · obtain ⟨x, e1, e2⟩ := a3 pos cv hcv
    refine ⟨x, e1, ?_⟩
    rw [upd_ne fun z => ?_]
    · exact e2
    · rw [z, hp] at e2
      unfold LamX.CodeO at e2
      cases e2
      cases hc
theorem Pen.upd {a l : Addr} {ns : List Int} {T : List (Addr × Str)} {n : Nat} {H : Hp} {p : Addr} {o u : HO} (h : Pen a l ns T n H) (ha : p ≠ a) (hl : p ≠ l) (hp : H p = some o) (ht : isT o = false) (hc : isC o = false) : Pen a l ns T n (upd H p u) := by
  obtain ⟨i, r, h1, h2, h3, h4, h5, h6, h7⟩ := h
  exact ⟨i, r, by rw [upd_ne ha.symm]; exact h1, by rw [upd_ne hl.symm]; exact h2, h3, h4, h5, h6, Tabs.upd h7 hp ht hc⟩
def Live (av : Addr → Prop) (H : Hp) : Prop := ∀ p, av p → ∃ o, H p = some o ∧ isT o = false
theorem Live.stp {a : Addr} {av : Addr → Prop} {H H' : Hp} (x : Stp a H H') (ha : ∃ o, H' a = some o ∧ isT o = false) (h : Live av H) : Live av H' := fun p hp => by
  by_cases e : p = a
  · rw [e]; exact ha
  · obtain ⟨o, q, t⟩ := h p hp
    exact ⟨o, x p o e q t, t⟩
theorem Live.same {av : Addr → Prop} {H H' : Hp} (x : Same H H') (h : Live av H) : Live av H' := fun p hp => by
  obtain ⟨o, q, t⟩ := h p hp
  exact ⟨o, x p o q, t⟩
theorem Live.new {av : Addr → Prop} {H : Hp} {p : Addr} (h : Live av H) (hp : H p = none) : ¬ av p := fun z => by
  obtain ⟨o, q, _⟩ := h p z
  rw [hp] at q
  cases q
theorem Pen.live {a l : Addr} {ns : List Int} {T : List (Addr × Str)} {n : Nat} {H : Hp} (h : Pen a l ns T n H) : ∃ o, H a = some o ∧ isT o = false := by
  obtain ⟨i, r, h1, _⟩ := h
  exact ⟨_, h1, rfl⟩
theorem Pen.ne {a l : Addr} {ns : List Int} {T : List (Addr × Str)} {n : Nat} {H : Hp} (h : Pen a l ns T n H) {p : Addr} (hp : H p = none) : p ≠ a ∧ p ≠ l := by
  obtain ⟨i, r, h1, h2, _⟩ := h
  refine ⟨fun z => ?_, fun z => ?_⟩
  · rw [← z, hp] at h1
    cases h1
  · rw [← z, hp] at h2
    cases h2
/-- nothing but a table, if anything, stands there -/
def Fr (H : Hp) (p : Addr) : Prop := ∀ o, H p = some o → isT o = true
theorem fr_none {H : Hp} {p : Addr} (h : H p = none) : Fr H p := fun o e => by rw [h] at e; cases e

/-- what a slot holds: unknown, data, a list of one's own (out: it was made ahead of the loop) -/
inductive Sl where
  | un
  | da (d : Dt)
  | ol (out : Bool) (ds : List Dt)
/-- fixed through a body: what it may raise -/
structure Fc extends Wc where
  E : XK
  xk : Str → List (Str × Dt) → Nat → Prop
/-- where a body, or a loop, began: the heap, what was kept apart then, what may change, the lists of one's own; rv: what the callers keep apart -/
structure Rt where
  H0 : Hp
  av0 : Addr → Prop
  mt : Addr → Prop
  oo : Nat → Addr
  rv : Addr → Prop
  ln : Nat
/-- how errors leave -/
def Exk (c : Fc) (ρ : Rt) : Prop := ∀ (cn : Str) (C x : Addr) (H' : Hp) (fs : List (Str × V)) (es : List (Str × Dt)) (n' : Nat), c.mg cn = some (.ref C) → Kp ρ.mt ρ.H0 H' → Pen c.a c.l c.ns c.T n' H' → ¬ ρ.rv x → H' x = some (.xd fs) →
  fs.map (·.1) = es.map (·.1) → DaAll c.toWc ρ.rv H' (fs.map (·.2)) (es.map (·.2)) → c.xk cn es n' → c.E (.ref C) (some x) H'
structure SS (c : Fc) (ρ : Rt) (av : Addr → Prop) (o : Nat → Addr) (Γ : List Sl) (n : Nat) (σ : L2.St) (H : Hp) : Prop where
  len : σ.length = Γ.length
  gl : Γ.length = ρ.ln
  pa : av c.a
  pl : ¬ av c.l
  pm : ρ.mt c.a
  sub : ∀ p, ρ.av0 p → av p
  rsub : ∀ p, ρ.rv p → av p
  msub : ∀ p, ρ.mt p → av p
  asub : ∀ p, av p → ρ.av0 p ∨ ρ.mt p ∨ Fr ρ.H0 p
  live : Live av H
  live0 : Live ρ.av0 ρ.H0
  pen : Pen c.a c.l c.ns c.T n H
  kp : Kp ρ.mt ρ.H0 H
  ex : Exk c ρ
  dat : ∀ (i : Nat) (d : Dt), Γ[i]? = some (Sl.da d) → ∃ v, σ[i]? = some (some v) ∧ Da c.toWc av H v d
  own : ∀ (i : Nat) (b : Bool) (ds : List Dt), Γ[i]? = some (Sl.ol b ds) → σ[i]? = some (some (.ref (o i))) ∧ av (o i) ∧ (if b = true then ρ.mt (o i) ∧ o i = ρ.oo i else Fr ρ.H0 (o i) ∧ ¬ ρ.mt (o i)) ∧ (o i ≠ c.a ∧ o i ≠ c.l) ∧ ¬ ρ.rv (o i) ∧ ∃ vs, H (o i) = some (.lst vs) ∧ DaAll c.toWc av H vs ds
  inj : ∀ (i j : Nat) (b b' : Bool) (ds es : List Dt), Γ[i]? = some (Sl.ol b ds) → Γ[j]? = some (Sl.ol b' es) → o i = o j → i = j
section
variable {c : Fc} {ρ : Rt} {av : Addr → Prop} {o : Nat → Addr} {Γ : List Sl} {n n' : Nat} {σ : L2.St} {H H' : Hp}
theorem SS.stp (S : SS c ρ av o Γ n σ H) (x : Stp c.a H H') (p : Pen c.a c.l c.ns c.T n' H') : SS c ρ av o Γ n' σ H' where
  len := S.len
  gl := S.gl
  pa := S.pa
  pl := S.pl
  pm := S.pm
  sub := S.sub
  rsub := S.rsub
  msub := S.msub
  asub := S.asub
  live := S.live.stp x p.live
  live0 := S.live0
  pen := p
  kp := S.kp.trans (x.kp S.pm)
  ex := S.ex
  dat := fun i d h => by
    obtain ⟨v, h1, h2⟩ := S.dat i d h
    exact ⟨v, h1, h2.keep (x.kp S.pa)⟩
  own := fun i b ds h => by
    obtain ⟨h1, h2, h3, h4, h0, vs, h5, h6⟩ := S.own i b ds h
    exact ⟨h1, h2, h3, h4, h0, vs, x _ _ h4.1 h5 rfl, h6.keep (x.kp S.pa)⟩
  inj := S.inj
theorem SS.same (S : SS c ρ av o Γ n σ H) (x : Same H H') : SS c ρ av o Γ n σ H' := S.stp (Stp.same x) (S.pen.same x)
theorem SS.less (S : SS c ρ av o Γ n σ H) (h : n' ≤ n) : SS c ρ av o Γ n' σ H := S.stp (Stp.refl _ _) (S.pen.less h)
/-- a slot is given data -/
theorem SS.set (S : SS c ρ av o Γ n σ H) (i : Nat) {v : V} {d : Dt} (h : Da c.toWc av H v d) : SS c ρ av o (Γ.set i (.da d)) n (σ.set i (some v)) H where
  len := by rw [List.length_set, List.length_set]; exact S.len
  gl := by rw [List.length_set]; exact S.gl
  pa := S.pa
  pl := S.pl
  pm := S.pm
  sub := S.sub
  rsub := S.rsub
  msub := S.msub
  asub := S.asub
  live := S.live
  live0 := S.live0
  pen := S.pen
  kp := S.kp
  ex := S.ex
  dat := fun j e q => by
    by_cases hj : i = j
    · subst hj
      have hl : i < Γ.length := by
        have := (List.getElem?_eq_some_iff.mp q).1
        rwa [List.length_set] at this
      rw [List.getElem?_set_self hl] at q
      cases q
      exact ⟨v, List.getElem?_set_self (by rw [S.len]; exact hl), h⟩
    · rw [List.getElem?_set_ne hj] at q
      rw [List.getElem?_set_ne hj]
      exact S.dat j e q
  own := fun j b ds q => by
    by_cases hj : i = j
    · subst hj
      have hl : i < Γ.length := by
        have := (List.getElem?_eq_some_iff.mp q).1
        rwa [List.length_set] at this
      rw [List.getElem?_set_self hl] at q
      cases q
    · rw [List.getElem?_set_ne hj] at q
      rw [List.getElem?_set_ne hj]
      exact S.own j b ds q
  inj := fun j k b b' ds es q r e => by
    have l : ∀ (m : Nat) (b : Bool) (zs : List Dt), (Γ.set i (Sl.da d))[m]? = some (Sl.ol b zs) → Γ[m]? = some (Sl.ol b zs) := fun m b zs z => by
      by_cases hm : i = m
      · subst hm
        have hl : i < Γ.length := by
          have := (List.getElem?_eq_some_iff.mp z).1
          rwa [List.length_set] at this
        rw [List.getElem?_set_self hl] at z
        cases z
      · rwa [List.getElem?_set_ne hm] at z
    exact S.inj j k b b' ds es (l _ _ _ q) (l _ _ _ r) e
/-- slots are forgotten -/
theorem SS.forget {Γ' : List Sl} {σ' : L2.St} (S : SS c ρ av o Γ n σ H) (hl : σ'.length = Γ'.length) (hg : Γ'.length = Γ.length) (h : ∀ (i : Nat) (s : Sl), Γ'[i]? = some s → s = Sl.un ∨ (Γ[i]? = some s ∧ σ'[i]? = σ[i]?)) : SS c ρ av o Γ' n σ' H where
  len := hl
  gl := hg.trans S.gl
  pa := S.pa
  pl := S.pl
  pm := S.pm
  sub := S.sub
  rsub := S.rsub
  msub := S.msub
  asub := S.asub
  live := S.live
  live0 := S.live0
  pen := S.pen
  kp := S.kp
  ex := S.ex
  dat := fun i d q => (h i _ q).elim (fun z => by cases z) fun z => by rw [z.2]; exact S.dat i d z.1
  own := fun i b d q => (h i _ q).elim (fun z => by cases z) fun z => by rw [z.2]; exact S.own i b d z.1
  inj := fun i j b b' ds es q r e => (h i _ q).elim (fun z => by cases z) fun z => (h j _ r).elim (fun z => by cases z) fun z' => S.inj i j b b' ds es z.1 z'.1 e
end

/-! ### readings over data -/
abbrev Kd := Dt → Nat → Prop
def We (c : Fc) (Γ : List Sl) (n : Nat) (te : TE) (k : Kd) : Prop := ∀ ρ av o σ H, SS c ρ av o Γ n σ H → ∀ Q : VK,
  (∀ v H' d n', SS c ρ av o Γ n' σ H' → Stp c.a H H' → Da c.toWc av H' v d → k d n' → Q v H') → te σ H Q
def Wt (c : Fc) (Γ : List Sl) (n : Nat) (tt : TT) (k : Bool → Nat → Prop) : Prop := ∀ ρ av o σ H, SS c ρ av o Γ n σ H → ∀ Q : Bool → Hp → Prop,
  (∀ b H' n', SS c ρ av o Γ n' σ H' → Stp c.a H H' → k b n' → Q b H') → tt σ H Q
def Wa (c : Fc) (Γ : List Sl) (n : Nat) (ta : TA) (k : List Dt → Nat → Prop) : Prop := ∀ ρ av o σ H, SS c ρ av o Γ n σ H → ∀ Q : List V → Hp → Prop,
  (∀ vs H' ds n', SS c ρ av o Γ n' σ H' → Stp c.a H H' → DaAll c.toWc av H' vs ds → k ds n' → Q vs H') → ta σ H Q
/-- what is wanted behind a statement -/
structure Nd where
  nx : List Sl → Nat → Prop
  rt : Kd
  bk : List Sl → Nat → Prop := fun _ _ => False
  ct : List Sl → Nat → Prop := fun _ _ => False
structure Lk (c : Fc) (ρ : Rt) (N : Nd) (D : Ends) : Prop where
  nx : ∀ av o Γ n σ H, SS c ρ av o Γ n σ H → N.nx Γ n → D.nx σ H
  rt : ∀ av v H d n, (∀ p, ρ.rv p → av p) → Kp ρ.mt ρ.H0 H → Pen c.a c.l c.ns c.T n H → Da c.toWc av H v d → N.rt d n → D.rt v H
  bk : ∀ av o Γ n σ H, SS c ρ av o Γ n σ H → N.bk Γ n → D.bk σ H
  ct : ∀ av o Γ n σ H, SS c ρ av o Γ n σ H → N.ct Γ n → D.ct σ H
def Ws (c : Fc) (Γ : List Sl) (n : Nat) (ts : TS) (N : Nd) : Prop := ∀ ρ av o σ H, SS c ρ av o Γ n σ H → ∀ D, Lk c ρ N D → ts D σ H
/-- operations on values -/
def R2D (c : Fc) (n : Nat) (r : R2) (d1 d2 : Dt) (k : Dt → Prop) : Prop := ∀ av H x y, Live av H → (av c.a ∧ ¬ av c.l ∧ Pen c.a c.l c.ns c.T n H) → Da c.toWc av H x d1 → Da c.toWc av H y d2 → ∀ Q : VK, (∀ z H' d, Same H H' → Da c.toWc av H' z d → k d → Q z H') → r x y H Q
def R1D (c : Fc) (r : V → Hp → VK → Prop) (d1 : Dt) (k : Dt → Prop) : Prop := ∀ av H x, Live av H → av c.a → Da c.toWc av H x d1 → ∀ Q : VK, (∀ z H' d, Same H H' → Da c.toWc av H' z d → k d → Q z H') → r x H Q
def RCD (c : Fc) (r : List V → Hp → VK → Prop) (ds : List Dt) (n : Nat) (k : Kd) : Prop := ∀ (ρ : Rt) av H vs, Live av H → (av c.a ∧ ¬ av c.l) → ρ.mt c.a → (∀ p, ρ.rv p → av p) → Kp ρ.mt ρ.H0 H → Pen c.a c.l c.ns c.T n H → Exk c ρ →
  DaAll c.toWc av H vs ds → ∀ Q : VK, (∀ z H' d n', Stp c.a H H' → Pen c.a c.l c.ns c.T n' H' → Da c.toWc av H' z d → k d n' → Q z H') → r vs H Q

section
variable {c : Fc} {Γ : List Sl} {n : Nat} {k : Kd} {kt : Bool → Nat → Prop} {ka : List Dt → Nat → Prop} {ta tb tc te : TE} {tt tu : TT} {ts tl : TA} {r r' : R2} {d d1 d2 : Dt} {b : Bool} {i : Nat}
theorem We.mono {k' : Kd} (h : We c Γ n te k) (hk : ∀ d m, k d m → k' d m) : We c Γ n te k' := fun ρ av o σ H S Q q => h ρ av o σ H S Q fun v H' d n' S' x h' kk => q v H' d n' S' x h' (hk _ _ kk)
theorem w_var (h : Γ[i]? = some (Sl.da d)) (q : k d n) : We c Γ n (tVar i) k := by
  intro ρ av o σ H S Q hQ
  obtain ⟨v, h1, h2⟩ := S.dat i d h
  exact ⟨v, h1, hQ v H d n S (Stp.refl _ _) h2 q⟩
theorem w_non (q : k .non n) : We c Γ n (tC .non) k := fun ρ av o σ H S Q hQ => hQ _ H _ n S (Stp.refl _ _) .non q
theorem w_bl (q : k (.bl b) n) : We c Γ n (tC (.bl b)) k := fun ρ av o σ H S Q hQ => hQ _ H _ n S (Stp.refl _ _) (.bl b) q
theorem w_int {j : Int} (q : k (.int j) n) : We c Γ n (tC (.int j)) k := fun ρ av o σ H S Q hQ => hQ _ H _ n S (Stp.refl _ _) (.int j) q
theorem w_str {x : Str} (q : k (.str x) n) : We c Γ n (tC (.str x)) k := fun ρ av o σ H S Q hQ => hQ _ H _ n S (Stp.refl _ _) (.str x) q
theorem w_op (h : We c Γ n ta fun d1 n1 => We c Γ n1 tb fun d2 n2 => R2D c n2 r d1 d2 fun d => k d n2) : We c Γ n (tOp r ta tb) k := by
  intro ρ av o σ H S Q hQ
  refine h ρ av o σ H S _ fun x H1 d1 n1 S1 x1 h1 k1 => ?_
  refine k1 ρ av o σ H1 S1 _ fun y H2 d2 n2 S2 x2 h2 k2 => ?_
  refine k2 av H2 x y S2.live ⟨S2.pa, S2.pl, S2.pen⟩ (h1.keep (x2.kp S.pa)) h2 Q fun z H3 d x3 h3 k3 => ?_
  exact hQ z H3 d n2 (S2.same x3) ((x1.trans x2).trans (Stp.same x3)) h3 k3
theorem w_un {r : V → Hp → VK → Prop} (h : We c Γ n ta fun d1 n1 => R1D c r d1 fun d => k d n1) : We c Γ n (tUn r ta) k := by
  intro ρ av o σ H S Q hQ
  refine h ρ av o σ H S _ fun x H1 d1 n1 S1 x1 h1 k1 => ?_
  refine k1 av H1 x S1.live S1.pa h1 Q fun z H3 d x3 h3 k3 => ?_
  exact hQ z H3 d n1 (S1.same x3) (x1.trans (Stp.same x3)) h3 k3
theorem wa_nil (q : ka [] n) : Wa c Γ n tNil ka := fun ρ av o σ H S Q hQ => hQ _ H _ n S (Stp.refl _ _) .nil q
theorem wa_cons (h : We c Γ n ta fun d1 n1 => Wa c Γ n1 tl fun ds n2 => ka (d1 :: ds) n2) : Wa c Γ n (tCons ta tl) ka := by
  intro ρ av o σ H S Q hQ
  refine h ρ av o σ H S _ fun x H1 d1 n1 S1 x1 h1 k1 => ?_
  refine k1 ρ av o σ H1 S1 _ fun vs H2 ds n2 S2 x2 h2 k2 => ?_
  exact hQ (x :: vs) H2 (d1 :: ds) n2 S2 (x1.trans x2) (.cons (h1.keep (x2.kp S.pa)) h2) k2
theorem w_cb {r : List V → Hp → VK → Prop} (h : Wa c Γ n tl fun ds n1 => RCD c r ds n1 k) : We c Γ n (tCB r tl) k := by
  intro ρ av o σ H S Q hQ
  refine h ρ av o σ H S _ fun vs H1 ds n1 S1 x1 h1 k1 => ?_
  refine k1 ρ av H1 vs S1.live ⟨S1.pa, S1.pl⟩ S1.pm S1.rsub S1.kp S1.pen S1.ex h1 Q fun z H2 d n2 x2 p2 h2 k2 => ?_
  exact hQ z H2 d n2 (S1.stp x2 p2) (x1.trans x2) h2 k2
/-- a new list, a new tuple -/
def szOk (n : Nat) : Bool := Nat.ble n 16777216
theorem szl {n : Nat} (h : szOk n = true) : n ≤ sizeLine := by
  rw [sizeLine_eq]
  exact Nat.le_of_ble_eq_true h
theorem DaAll.length {c : Wc} {av : Addr → Prop} {H : Hp} : ∀ {vs : List V} {ds : List Dt}, DaAll c av H vs ds → vs.length = ds.length
  | _, _, .nil => rfl
  | _, _, .cons _ t => by rw [List.length_cons, List.length_cons, DaAll.length t]
theorem w_lst (h : Wa c Γ n tl fun ds n1 => szOk ds.length = true ∧ k (.lst ds) n1) : We c Γ n (tLst tl) k := by
  intro ρ av o σ H S Q hQ
  refine h ρ av o σ H S _ fun vs H1 ds n1 S1 x1 h1 k1 => ?_
  refine ⟨by rw [h1.length]; exact szl k1.1, fun p hp => ?_⟩
  have sm := same_new (o := .lst vs) hp
  exact hQ _ _ (.lst ds) n1 (S1.same sm) (x1.trans (Stp.same sm)) (.lst (S1.live.new hp) upd_same (h1.keep (same_kp sm))) k1.2
theorem w_tup (h : Wa c Γ n tl fun ds n1 => szOk ds.length = true ∧ k (.tup ds) n1) : We c Γ n (tTup tl) k := by
  intro ρ av o σ H S Q hQ
  refine h ρ av o σ H S _ fun vs H1 ds n1 S1 x1 h1 k1 => ?_
  refine ⟨by rw [h1.length]; exact szl k1.1, fun p hp => ?_⟩
  have sm := same_new (o := .tup vs) hp
  exact hQ _ _ (.tup ds) n1 (S1.same sm) (x1.trans (Stp.same sm)) (.tup (.inl ⟨S1.live.new hp, .inl upd_same⟩) (h1.keep (same_kp sm))) k1.2
/-! tests -/
theorem wt_test (h : We c Γ n te fun d n1 => ∃ b, d = .bl b ∧ kt b n1) : Wt c Γ n (tTest te) kt := by
  intro ρ av o σ H S Q hQ
  refine h ρ av o σ H S _ fun x H1 d1 n1 S1 x1 h1 k1 => ?_
  obtain ⟨b, rfl, k1⟩ := k1
  cases h1
  exact ⟨b, rfl, hQ b H1 n1 S1 x1 k1⟩
theorem wt_B (h : We c Γ n te fun d n1 => ∃ b, d = .bl b ∧ kt b n1) : Wt c Γ n (tB te) kt := wt_test h
theorem wt_and (h : Wt c Γ n tt fun b n1 => if b = true then Wt c Γ n1 tu kt else kt false n1) : Wt c Γ n (tAnd tt tu) kt := by
  intro ρ av o σ H S Q hQ
  refine h ρ av o σ H S _ fun b H1 n1 S1 x1 k1 => ?_
  cases b with
  | true => exact k1 ρ av o σ H1 S1 Q fun b H2 n2 S2 x2 k2 => hQ b H2 n2 S2 (x1.trans x2) k2
  | false => exact hQ false H1 n1 S1 x1 k1
theorem wt_or (h : Wt c Γ n tt fun b n1 => if b = true then kt true n1 else Wt c Γ n1 tu kt) : Wt c Γ n (tOr tt tu) kt := by
  intro ρ av o σ H S Q hQ
  refine h ρ av o σ H S _ fun b H1 n1 S1 x1 k1 => ?_
  cases b with
  | false => exact k1 ρ av o σ H1 S1 Q fun b H2 n2 S2 x2 k2 => hQ b H2 n2 S2 (x1.trans x2) k2
  | true => exact hQ true H1 n1 S1 x1 k1
theorem wt_not (h : Wt c Γ n tt fun b n1 => kt (!b) n1) : Wt c Γ n (tNot tt) kt := by
  intro ρ av o σ H S Q hQ
  exact h ρ av o σ H S _ fun b H1 n1 S1 x1 k1 => hQ (!b) H1 n1 S1 x1 k1
theorem w_andV (h : We c Γ n ta fun d n1 => ∃ b, d = .bl b ∧ if b = true then We c Γ n1 tb k else k (.bl false) n1) : We c Γ n (tAndV ta tb) k := by
  intro ρ av o σ H S Q hQ
  refine h ρ av o σ H S _ fun x H1 d1 n1 S1 x1 h1 k1 => ?_
  obtain ⟨b, rfl, k1⟩ := k1
  cases h1
  refine ⟨b, rfl, ?_⟩
  cases b with
  | true => exact k1 ρ av o σ H1 S1 Q fun v H2 d n2 S2 x2 h2 k2 => hQ v H2 d n2 S2 (x1.trans x2) h2 k2
  | false => exact hQ _ H1 _ n1 S1 x1 (.bl false) k1
theorem w_orV (h : We c Γ n ta fun d n1 => ∃ b, d = .bl b ∧ if b = true then k (.bl true) n1 else We c Γ n1 tb k) : We c Γ n (tOrV ta tb) k := by
  intro ρ av o σ H S Q hQ
  refine h ρ av o σ H S _ fun x H1 d1 n1 S1 x1 h1 k1 => ?_
  obtain ⟨b, rfl, k1⟩ := k1
  cases h1
  refine ⟨b, rfl, ?_⟩
  cases b with
  | false => exact k1 ρ av o σ H1 S1 Q fun v H2 d n2 S2 x2 h2 k2 => hQ v H2 d n2 S2 (x1.trans x2) h2 k2
  | true => exact hQ _ H1 _ n1 S1 x1 (.bl true) k1
theorem w_notV (h : We c Γ n ta fun d n1 => ∃ b, d = .bl b ∧ k (.bl (!b)) n1) : We c Γ n (tNotV ta) k := by
  intro ρ av o σ H S Q hQ
  refine h ρ av o σ H S _ fun x H1 d1 n1 S1 x1 h1 k1 => ?_
  obtain ⟨b, rfl, k1⟩ := k1
  cases h1
  exact ⟨b, rfl, hQ _ H1 _ n1 S1 x1 (.bl (!b)) k1⟩
theorem w_if (h : Wt c Γ n tt fun b n1 => if b = true then We c Γ n1 ta k else We c Γ n1 tb k) : We c Γ n (tIf tt ta tb) k := by
  intro ρ av o σ H S Q hQ
  refine h ρ av o σ H S _ fun b H1 n1 S1 x1 k1 => ?_
  cases b with
  | true => exact k1 ρ av o σ H1 S1 Q fun v H2 d n2 S2 x2 h2 k2 => hQ v H2 d n2 S2 (x1.trans x2) h2 k2
  | false => exact k1 ρ av o σ H1 S1 Q fun v H2 d n2 S2 x2 h2 k2 => hQ v H2 d n2 S2 (x1.trans x2) h2 k2
theorem w_chain (h : We c Γ n ta fun d1 n1 => We c Γ n1 tb fun d2 n2 => R2D c n2 r d1 d2 fun d => ∃ b, d = .bl b ∧ if b = true then We c Γ n2 tc fun d3 n3 => R2D c n3 r' d2 d3 fun d => k d n3 else k (.bl false) n2) :
    We c Γ n (tChain r r' ta tb tc) k := by
  intro ρ av o σ H S Q hQ
  refine h ρ av o σ H S _ fun x H1 d1 n1 S1 x1 h1 k1 => ?_
  refine k1 ρ av o σ H1 S1 _ fun y H2 d2 n2 S2 x2 h2 k2 => ?_
  refine k2 av H2 x y S2.live ⟨S2.pa, S2.pl, S2.pen⟩ (h1.keep (x2.kp S.pa)) h2 _ fun z H3 d x3 h3 k3 => ?_
  obtain ⟨b, rfl, k3⟩ := k3
  cases h3
  refine ⟨b, rfl, ?_⟩
  have S3 := S2.same x3
  have x13 := (x1.trans x2).trans (Stp.same (a := c.a) x3)
  cases b with
  | false => exact hQ _ H3 _ n2 S3 x13 (.bl false) k3
  | true =>
    refine k3 ρ av o σ H3 S3 _ fun w H4 d4 n4 S4 x4 h4 k4 => ?_
    refine k4 av H4 y w S4.live ⟨S4.pa, S4.pl, S4.pen⟩ (h2.keep ((Stp.same x3).trans x4 |>.kp S.pa)) h4 Q fun z H5 d x5 h5 k5 => ?_
    exact hQ z H5 d n4 (S4.same x5) ((x13.trans x4).trans (Stp.same x5)) h5 k5
end

/-! ### statements -/
section
variable {c : Fc} {Γ : List Sl} {n : Nat} {N : Nd} {te : TE} {tt : TT} {t u : TS} {i : Nat} {kt : Bool → Nat → Prop}
theorem w_seq (h : Ws c Γ n t { N with nx := fun Γ' n' => Ws c Γ' n' u N }) : Ws c Γ n (tSeq t u) N := by
  intro ρ av o σ H S D L
  refine h ρ av o σ H S { D with nx := u D } ⟨fun av o Γ n σ H S' q => q ρ av o σ H S' D L, L.rt, L.bk, L.ct⟩
theorem w_next (h : N.nx Γ n) : Ws c Γ n tNext N := fun ρ av o σ H S D L => L.nx av o Γ n σ H S h
theorem w_break (h : N.bk Γ n) : Ws c Γ n tBreak N := fun ρ av o σ H S D L => L.bk av o Γ n σ H S h
theorem w_cont (h : N.ct Γ n) : Ws c Γ n tCont N := fun ρ av o σ H S D L => L.ct av o Γ n σ H S h
theorem w_asg (h : We c Γ n te fun d n' => N.nx (Γ.set i (.da d)) n') : Ws c Γ n (tAsg te (gName i)) N := by
  intro ρ av o σ H S D L
  refine h ρ av o σ H S _ fun v H' d n' S' x h' k' => ?_
  exact L.nx av o _ n' _ H' (S'.set i h') k'
theorem w_drop (h : We c Γ n te fun d n' => N.nx Γ n') : Ws c Γ n (tDrop te) N := by
  intro ρ av o σ H S D L
  refine h ρ av o σ H S _ fun v H' d n' S' x h' k' => ?_
  exact L.nx av o _ n' _ H' S' k'
theorem w_ret (h : We c Γ n te N.rt) : Ws c Γ n (tRet te) N := by
  intro ρ av o σ H S D L
  exact h ρ av o σ H S _ fun v H' d n' S' x h' k' => L.rt av v H' d n' S'.rsub S'.kp S'.pen h' k'
theorem w_retN (h : N.rt .non n) : Ws c Γ n tRetN N := fun ρ av o σ H S D L => L.rt av .non H .non n S.rsub S.kp S.pen .non h
theorem w_ifS (h : Wt c Γ n tt fun b n' => if b = true then Ws c Γ n' t N else Ws c Γ n' u N) : Ws c Γ n (tIfS tt t u) N := by
  intro ρ av o σ H S D L
  refine h ρ av o σ H S _ fun b H' n' S' x k' => ?_
  cases b with
  | true => exact k' ρ av o σ H' S' D L
  | false => exact k' ρ av o σ H' S' D L
end
end Pb
namespace Pb
open PySem PySem.Spec PyProof.Rows L2

/-! ### promises over data -/
structure Sp1 where
  cost : Nat
  pre : List Dt → Prop
  post : List Dt → Dt → Prop
  exc : List Dt → Str → List (Str × Dt) → Prop := fun _ _ _ => False
def spD (K : PySem.W.Frag) (mg : Str → Option Value) (T : List (Addr × Str)) (S : Sp1) : Sp := fun vs H Q E => ∃ (a l : Addr) (ns : List Int) (er : Option (Addr × Addr × Addr)) (av : Addr → Prop) (n : Nat) (ds : List Dt), Live av H ∧ (av a ∧ ¬ av l) ∧ DaAll ⟨K, mg, a, l, ns, T, er⟩ av H vs ds ∧ Pen a l ns T (n + S.cost) H ∧ S.pre ds ∧
  (∀ v H' d, Stp a H H' → Pen a l ns T n H' → Da ⟨K, mg, a, l, ns, T, er⟩ av H' v d → S.post ds d → Q v H') ∧
  (∀ (cn : Str) (C x : Addr) (H' : Hp) (fs : List (Str × V)) (es : List (Str × Dt)), Stp a H H' → Pen a l ns T n H' → mg cn = some (.ref C) → ¬ av x → H' x = some (.xd fs) → fs.map (·.1) = es.map (·.1) → DaAll ⟨K, mg, a, l, ns, T, er⟩ av H' (fs.map (·.2)) (es.map (·.2)) → S.exc ds cn es → E (.ref C) (some x) H')
/-- a call by such a promise -/
theorem w_call {c : Fc} {S : Sp1} {ds : List Dt} {n : Nat} {k : Kd} (hc : S.cost ≤ n) (hp : S.pre ds) (hk : ∀ d, S.post ds d → k d (n - S.cost)) (hx : ∀ cn es, S.exc ds cn es → c.xk cn es (n - S.cost)) :
    RCD c (fun vs H Q => spD c.K c.mg c.T S vs H Q c.E) ds n k := by
  intro ρ av H vs lv pa pm sub kp pn ex da Q q
  refine ⟨c.a, c.l, c.ns, c.er, av, n - S.cost, ds, lv, pa, da, by rw [Nat.sub_add_cancel hc]; exact pn, hp, ?_, ?_⟩
  · intro v H' d x p h1 h2
    exact q v H' d _ x p h1 (hk d h2)
  · intro cn C x H' fs es st p h1 nx h2 hn h3 h4
    exact ex cn C x H' fs es _ h1 (kp.trans (st.kp pm)) p (fun z => nx (sub x z)) h2 hn (h3.less sub) (hx cn es h4)
/-- .. where nothing is raised -/
theorem w_call0 {c : Fc} {K : PySem.W.Frag} {mg : Str → Option Value} {T : List (Addr × Str)} {E : XK} {S : Sp1} {ds : List Dt} {n : Nat} {k : Kd} (hK : c.K = K) (hm : c.mg = mg) (hT : c.T = T) (hc : S.cost ≤ n) (hp : S.pre ds) (hk : ∀ d, S.post ds d → k d (n - S.cost)) (hx : ∀ cn es, ¬ S.exc ds cn es) :
    RCD c (fun vs H Q => spD K mg T S vs H Q E) ds n k := by
  subst hK hm hT
  intro ρ av H vs lv pa pm sub kp pn ex da Q q
  refine ⟨c.a, c.l, c.ns, c.er, av, n - S.cost, ds, lv, pa, da, by rw [Nat.sub_add_cancel hc]; exact pn, hp, ?_, ?_⟩
  · intro v H' d x p h1 h2
    exact q v H' d _ x p h1 (hk d h2)
  · intro cn C x H' fs es st p h1 nx h2 hn h3 h4
    exact absurd h4 (hx cn es)

/-! ### a body's entry -/
def gam (N : List Str) (ds : List Dt) : List Sl := ds.map Sl.da ++ List.replicate (N.length - ds.length) Sl.un
theorem DaAll.get {c : Wc} {av : Addr → Prop} {H : Hp} : ∀ {vs : List V} {ds : List Dt} {i : Nat} {d : Dt}, DaAll c av H vs ds → ds[i]? = some d → ∃ v, vs[i]? = some v ∧ Da c av H v d
  | _, _, 0, _, .cons h _, e => by
    rw [List.getElem?_cons_zero] at e
    cases e
    exact ⟨_, List.getElem?_cons_zero, h⟩
  | _, _, i + 1, _, .cons _ t, e => by
    rw [List.getElem?_cons_succ] at e
    obtain ⟨v, h1, h2⟩ := DaAll.get t e
    exact ⟨v, by rw [List.getElem?_cons_succ]; exact h1, h2⟩
  | _, _, _, _, .nil, e => by simp at e
theorem gam_da {N : List Str} {ds : List Dt} {i : Nat} {d : Dt} (h : (gam N ds)[i]? = some (Sl.da d)) : ds[i]? = some d := by
  unfold gam at h
  by_cases hi : i < ds.length
  · rw [List.getElem?_append_left (by simpa using hi), List.getElem?_map] at h
    cases e : ds[i]? with
    | none => rw [e] at h; cases h
    | some z => rw [e] at h; cases h; rfl
  · rw [List.getElem?_append_right (by simpa using hi), List.getElem?_replicate] at h
    split at h <;> cases h
theorem gam_ol {N : List Str} {ds : List Dt} {i : Nat} {b : Bool} {es : List Dt} (h : (gam N ds)[i]? = some (Sl.ol b es)) : False := by
  unfold gam at h
  by_cases hi : i < ds.length
  · rw [List.getElem?_append_left (by simpa using hi), List.getElem?_map] at h
    cases e : ds[i]? with
    | none => rw [e] at h; cases h
    | some z => rw [e] at h; cases h
  · rw [List.getElem?_append_right (by simpa using hi), List.getElem?_replicate] at h
    split at h <;> cases h
/-- the root of a body: the pen may change, and nothing else that stands -/
def rootOf (a : Addr) (H : Hp) (av : Addr → Prop) (l : Nat) : Rt := ⟨H, av, fun p => p = a, fun _ => 0, av, l⟩
theorem kp_pen {a : Addr} {H H' : Hp} (h : Kp (fun p => p = a) H H') : Stp a H H' := fun b o hb q t => h b o hb q t
theorem ss_start {c : Fc} {H : Hp} {av : Addr → Prop} {N : List Str} {vs : List V} {ds : List Dt} {n : Nat} (lv : Live av H) (pa : av c.a ∧ ¬ av c.l) (da : DaAll c.toWc av H vs ds) (pn : Pen c.a c.l c.ns c.T n H) (ex : Exk c (rootOf c.a H av (gam N ds).length)) :
    SS c (rootOf c.a H av (gam N ds).length) av (fun _ => 0) (gam N ds) n (L2.start N vs) H where
  len := by
    unfold gam L2.start
    rw [List.length_append, List.length_append, List.length_map, List.length_map, List.length_replicate, List.length_replicate, da.length]
  gl := rfl
  pa := pa.1
  pl := pa.2
  pm := rfl
  sub := fun _ h => h
  rsub := fun _ h => h
  msub := fun p h => by
    have e : p = c.a := h
    rw [e]; exact pa.1
  asub := fun _ h => .inl h
  live := lv
  live0 := lv
  pen := pn
  kp := Kp.refl _ _
  ex := ex
  dat := fun i d h => by
    obtain ⟨v, h1, h2⟩ := da.get (gam_da h)
    refine ⟨v, ?_, h2⟩
    unfold L2.start
    have hi : i < vs.length := (List.getElem?_eq_some_iff.mp h1).1
    rw [List.getElem?_append_left (by simpa using hi), List.getElem?_map, h1]
    rfl
  own := fun i b ds h => (gam_ol h).elim
  inj := fun i j b b' ds es h => (gam_ol h).elim
/-- what a body with the promise S must reach from the data ds, n draws left at least -/
def ndOf (S : Sp1) (ds : List Dt) (n : Nat) : Nd := { nx := fun _ n' => S.post ds .non ∧ n ≤ n', rt := fun d n' => S.post ds d ∧ n ≤ n' }
section
variable {P : Program} {w : World} {K : PySem.W.Frag} {mg : Str → Option Value} {T : List (Addr × Str)} {base : Heap} {x qual : Str} {params : Arguments} {body : List Stmt} {scope : Scope} {dvs : List V} {kws : List (Str × V)} {f : Addr} {fd : FuncData}
/-- THE RULE for a def out of which nothing is raised: the body's reading t, run over data -/
theorem okD0 {b : Bool} {N ps : List Str} {k : Nat} {S : Sp1} (F : FunD K x qual params body scope dvs kws f fd) (sc : FnScope N ps scope) (len : ∀ ds, S.pre ds → ds.length = ps.length)
    (hbody : ∀ (cdv : Value) (A : Around) (outer : List Env) (s : Shared) (H : Hp) (E : XK), RoomG b k (A.deeper (envOfC qual scope s.heap.objs.size f cdv)) →
      ∃ t, PSs (cxOf CX0 P w K mg base N qual scope f cdv A outer s H E).nox body t ∧ ∀ (c : Fc), c.K = K → c.mg = mg → c.T = T → ∀ (ds : List Dt) (n : Nat), S.pre ds → Ws c (gam N ds) (n + S.cost) t (ndOf S ds n)) :
    FnG b P w K mg base CX0 (k + 1) f fd ps (spD K mg T S) := by
  refine okG0 F sc (fun vs H Q E h => ?_) fun cdv A outer s H vs Q E hr h => ?_
  · obtain ⟨a, l, ns, er, av, n, ds, _, _, da, _, hp, _⟩ := h
    rw [da.length]
    exact len ds hp
  · obtain ⟨a, l, ns, er, av, n, ds, lv, pa, da, pn, hp, hq, _⟩ := h
    obtain ⟨t, ht, hw⟩ := hbody cdv A outer s H E hr
    refine ⟨t, ht, ?_⟩
    refine hw ⟨⟨K, mg, a, l, ns, T, er⟩, E0, fun _ _ _ => False⟩ rfl rfl rfl ds n hp (rootOf a H av (gam N ds).length) av (fun _ => 0) (L2.start N vs) H ?_ _ ?_
    · exact ss_start (c := ⟨⟨K, mg, a, l, ns, T, er⟩, E0, fun _ _ _ => False⟩) lv pa da pn fun _ _ _ _ _ _ _ _ _ _ _ _ _ _ z => z
    · refine ⟨fun av' o Γ n' σ H' S' q => ?_, fun av' v H' d n' sub st p h1 q => ?_, fun _ _ _ _ _ _ _ z => z, fun _ _ _ _ _ _ _ z => z⟩
      · exact hq .non H' .non (kp_pen S'.kp) (S'.pen.less q.2) .non q.1
      · exact hq v H' d (kp_pen st) (p.less q.2) (h1.less sub) q.1
/-- .. for a def that may raise -/
theorem okDX {b : Bool} {N ps : List Str} {k : Nat} {S : Sp1} (F : FunD K x qual params body scope dvs kws f fd) (sc : FnScope N ps scope) (len : ∀ ds, S.pre ds → ds.length = ps.length)
    (hbody : ∀ (cdv : Value) (A : Around) (outer : List Env) (s : Shared) (H : Hp) (E : XK), RoomG b k (A.deeper (envOfC qual scope s.heap.objs.size f cdv)) →
      ∃ t, PSs (cxOf (L2.CX P w) P w K mg base N qual scope f cdv A outer s H E) body t ∧ ∀ (c : Fc) (ds : List Dt) (n : Nat), c.K = K → c.mg = mg → c.T = T → c.E = E → (∀ cn es n', S.exc ds cn es → n ≤ n' → c.xk cn es n') → S.pre ds →
        Ws c (gam N ds) (n + S.cost) t (ndOf S ds n)) :
    FnG b P w K mg base (L2.CX P w) (k + 1) f fd ps (spD K mg T S) := by
  refine okG F sc (fun vs H Q E h => ?_) fun cdv A outer s H vs Q E hr h => ?_
  · obtain ⟨a, l, ns, er, av, n, ds, _, _, da, _, hp, _⟩ := h
    rw [da.length]
    exact len ds hp
  · obtain ⟨a, l, ns, er, av, n, ds, lv, pa, da, pn, hp, hq, hx⟩ := h
    obtain ⟨t, ht, hw⟩ := hbody cdv A outer s H E hr
    refine ⟨t, ht, ?_⟩
    refine hw ⟨⟨K, mg, a, l, ns, T, er⟩, E, fun cn es n' => S.exc ds cn es ∧ n ≤ n'⟩ ds n rfl rfl rfl rfl (fun _ _ _ h1 h2 => ⟨h1, h2⟩) hp (rootOf a H av (gam N ds).length) av (fun _ => 0) (L2.start N vs) H ?_ _ ?_
    · exact ss_start (c := ⟨⟨K, mg, a, l, ns, T, er⟩, E, fun cn es n' => S.exc ds cn es ∧ n ≤ n'⟩) lv pa da pn fun cn C x H' fs es n' h1 h2 h3 nx h4 hn h5 h6 => hx cn C x H' fs es (kp_pen h2) (h3.less h6.2) h1 nx h4 hn h5 h6.1
    · refine ⟨fun av' o Γ n' σ H' S' q => ?_, fun av' v H' d n' sub st p h1 q => ?_, fun _ _ _ _ _ _ _ z => z, fun _ _ _ _ _ _ _ z => z⟩
      · exact hq .non H' .non (kp_pen S'.kp) (S'.pen.less q.2) .non q.1
      · exact hq v H' d (kp_pen st) (p.less q.2) (h1.less sub) q.1
end

/-! ### new objects -/
theorem Da.newL {c : Wc} {av : Addr → Prop} {H : Hp} {p : Addr} {vs : List V} {ds : List Dt} (lv : Live av H) (hp : H p = none) (h : DaAll c av H vs ds) : Da c av (upd H p (.lst vs)) (.ref p) (.lst ds) :=
  .lst (lv.new hp) upd_same (h.keep (same_kp (same_new hp)))
theorem Da.newT {c : Wc} {av : Addr → Prop} {H : Hp} {p : Addr} {vs : List V} {ds : List Dt} (lv : Live av H) (hp : H p = none) (h : DaAll c av H vs ds) : Da c av (upd H p (.tup vs)) (.ref p) (.tup ds) :=
  .tup (.inl ⟨lv.new hp, .inl upd_same⟩) (h.keep (same_kp (same_new hp)))
/-! ### operators -/
section
variable {X : Cx} {c : Fc} {n : Nat} {k : Dt → Prop}
def rAdd (K : PySem.W.Frag) : R2 := fun x y H Q => rI0 (fun i j => .int (i + j)) x y H Q ∨ (∃ i j, x = .str i ∧ y = .str j ∧ i.length + j.length ≤ sizeLine ∧ Q (.str (i ++ j)) H) ∨ rCat x y H Q ∨ rCatA K x y H Q
theorem o_add : OpR X (binaryOp .Add) (rAdd X.K) := OpR.or op_add (OpR.or op_add_str (OpR.or op_cat op_catA))
def rSub : R2 := rI0 fun i j => .int (i - j)
theorem o_sub : OpR X (binaryOp .Sub) rSub := op_sub
def rMul : R2 := fun x y H Q => rI CMul (fun i j => .int (i * j)) x y H Q ∨ rRep x y H Q
theorem o_mul : OpR X (binaryOp .Mult) rMul := OpR.or op_mul op_rep
def rMod : R2 := rI (fun _ j => 0 < j) fun i j => .int (i % j)
theorem o_mod : OpR X (binaryOp .Mod) rMod := op_mod
def rDiv : R2 := rI CDiv fun i j => .int (i / j)
theorem o_div : OpR X (binaryOp .FloorDiv) rDiv := op_fdiv
def rPow : R2 := rI CPow fun i j => .int (i ^ j.toNat)
theorem o_pow : OpR X (binaryOp .Pow) rPow := op_pow
def rLtS (f : List Nat → List Nat → Bool) : R2 := fun x y H Q => ∃ i j : Str, x = .str i ∧ y = .str j ∧ Q (.bl (f i.cps.toList j.cps.toList)) H
def rLt : R2 := fun x y H Q => rI0 (fun i j => .bl (decide (i < j))) x y H Q ∨ rLtS (fun a b => decide (a < b)) x y H Q
theorem o_lt : OpR X (compareOp .Lt) rLt := OpR.or op_lt op_lt_str
def rLe : R2 := rI0 fun i j => .bl (decide (i ≤ j))
theorem o_le : OpR X (compareOp .LtE) rLe := op_le
def rGt : R2 := rI0 fun i j => .bl (decide (j < i))
theorem o_gt : OpR X (compareOp .Gt) rGt := op_gt
def rGe : R2 := rI0 fun i j => .bl (decide (j ≤ i))
theorem o_ge : OpR X (compareOp .GtE) rGe := op_ge
/-- two lists of unlike lengths -/
def rLens (K : PySem.W.Frag) (b : Bool) : R2 := fun x y H Q => ∃ p q xs ys, x = .ref p ∧ y = .ref q ∧ SqL K H p xs ∧ SqL K H q ys ∧ xs.length ≠ ys.length ∧ Q (.bl b) H
theorem lens_ne {xs ys : List V} {us ws : List Value} (r1 : Vals xs us) (r2 : Vals ys ws) (h : xs.length ≠ ys.length) : (us.toArray.size != ws.toArray.size) = true := by
  rw [List.size_toArray, List.size_toArray, ← r1.length, ← r2.length]
  simpa using h
theorem o_eqLen (hu : X.A.units + 64 < cLine) : OpR X (compareOp .Eq) (rLens X.K false) := by
  intro pins s σ H x y v u Q I rx ry h
  obtain ⟨p, q, xs, ys, rfl, rfl, h1, h2, hne, hq⟩ := h
  cases rx
  cases ry
  obtain ⟨us, r1, p1, _⟩ := I.list h1
  obtain ⟨ws, r2, p2, _⟩ := I.list h2
  exact SeqAt.RcAt.lists_lengths p1.isList p2.isList (lens_ne r1 r2 hne) (by omega) _ _ _ _ ⟨.bl false, H, I, rfl, hq⟩
theorem o_neLen (hu : X.A.units + 64 < cLine) : OpR X (compareOp .NotEq) (rLens X.K true) := by
  intro pins s σ H x y v u Q I rx ry h
  obtain ⟨p, q, xs, ys, rfl, rfl, h1, h2, hne, hq⟩ := h
  cases rx
  cases ry
  obtain ⟨us, r1, p1, _⟩ := I.list h1
  obtain ⟨ws, r2, p2, _⟩ := I.list h2
  exact SeqAt.RcNeAt.lists_lengths p1.isList p2.isList (lens_ne r1 r2 hne) (by omega) _ _ _ _ ⟨.bl true, H, I, rfl, hq⟩
def rEqX (K : PySem.W.Frag) : R2 := fun x y H Q => rEq x y H Q ∨ rEqD K x y H Q ∨ rLens K false x y H Q
theorem o_eq (hu : X.A.units + 64 < cLine) : OpR X (compareOp .Eq) (rEqX X.K) := OpR.or op_eq (OpR.or (op_eqD hu) (o_eqLen hu))
def rNeX (K : PySem.W.Frag) : R2 := fun x y H Q => rNe x y H Q ∨ rNeD K x y H Q ∨ rLens K true x y H Q
theorem o_ne (hu : X.A.units + 64 < cLine) : OpR X (compareOp .NotEq) (rNeX X.K) := OpR.or op_ne (OpR.or (op_neD hu) (o_neLen hu))
def rSg (neg : Bool) : R2 := fun x y H Q => ∃ (s : Nat) (z : Str), x = .str ⟨#[s]⟩ ∧ y = .str z ∧ Q (.bl (if neg then !decide (s ∈ z.cps.toList) else decide (s ∈ z.cps.toList))) H
def rInX (K : PySem.W.Frag) (neg : Bool) : R2 := fun x y H Q => rSg neg x y H Q ∨ rIn K neg x y H Q
theorem o_in : OpR X (compareOp .In) (rInX X.K false) := OpR.or op_in_sign op_in_seq
theorem o_notIn : OpR X (compareOp .NotIn) (rInX X.K true) := OpR.or op_notIn_sign op_notIn_seq
def rIs : R2 := fun x y H Q => y = .non ∧ Q (.bl (decide (x = .non))) H
theorem o_is : OpR X (compareOp .Is) rIs := op_isN
def rIsNot : R2 := fun x y H Q => y = .non ∧ Q (.bl (!decide (x = .non))) H
theorem o_isNot : OpR X (compareOp .IsNot) rIsNot := op_notN

/-! their readings over data -/
theorem r_addI {i j : Int} (h : k (.int (i + j))) : R2D c n (rAdd c.K) (.int i) (.int j) k := by
  intro av H x y lv pa h1 h2 Q q
  cases h1; cases h2
  exact .inl ⟨i, j, rfl, rfl, q _ H _ (Same.refl H) (.int _) h⟩
theorem r_addS {i j : Str} (hz : szOk (i.length + j.length) = true) (h : k (.str (i ++ j))) : R2D c n (rAdd c.K) (.str i) (.str j) k := by
  intro av H x y lv pa h1 h2 Q q
  cases h1; cases h2
  exact .inr (.inl ⟨i, j, rfl, rfl, szl hz, q _ H _ (Same.refl H) (.str _) h⟩)
theorem DaAll.append {c : Wc} {av : Addr → Prop} {H : Hp} : ∀ {vs ws : List V} {ds es : List Dt}, DaAll c av H vs ds → DaAll c av H ws es → DaAll c av H (vs ++ ws) (ds ++ es)
  | _, _, _, _, .nil, h => h
  | _, _, _, _, .cons h1 h2, h => .cons h1 (DaAll.append h2 h)
theorem r_addL {ds es : List Dt} (hz : szOk (ds.length + es.length) = true) (h : k (.lst (ds ++ es))) : R2D c n (rAdd c.K) (.lst ds) (.lst es) k := by
  intro av H x y lv pa h1 h2 Q q
  cases h1 with
  | lst a1 a2 a3 =>
    cases h2 with
    | lst b1 b2 b3 =>
      refine .inr (.inr (.inl ⟨_, _, _, _, rfl, rfl, a2, b2, by rw [a3.length, b3.length]; exact szl hz, fun p hp => ?_⟩))
      exact q _ _ _ (same_new hp) (Da.newL lv hp (a3.append b3)) h
theorem r_addT {ds es : List Dt} (hz : szOk (ds.length + es.length) = true) (h : k (.tup (ds ++ es))) : R2D c n (rAdd c.K) (.tup ds) (.tup es) k := by
  intro av H x y lv pa h1 h2 Q q
  cases h1 with
  | tup a2 a3 =>
    cases h2 with
    | tup b2 b3 =>
      refine .inr (.inr (.inr ⟨_, _, _, _, rfl, rfl, a2.sq, b2.sq, by rw [a3.length, b3.length]; exact szl hz, fun z => ?_, fun z1 z2 => ?_, fun z1 z2 p hp => ?_⟩))
      · subst z
        cases a3
        exact q _ H _ (Same.refl H) (.tup b2 b3) h
      · subst z2
        cases b3
        rw [List.append_nil] at h
        exact q _ H _ (Same.refl H) (.tup a2 a3) h
      · exact q _ _ _ (same_new hp) (Da.newT lv hp (a3.append b3)) h
theorem r_subI {i j : Int} (h : k (.int (i - j))) : R2D c n rSub (.int i) (.int j) k := by
  intro av H x y lv pa h1 h2 Q q
  cases h1; cases h2
  exact ⟨i, j, rfl, rfl, q _ H _ (Same.refl H) (.int _) h⟩
theorem r_mulI {i j : Int} (hm : CMul i j) (h : k (.int (i * j))) : R2D c n rMul (.int i) (.int j) k := by
  intro av H x y lv pa h1 h2 Q q
  cases h1; cases h2
  exact .inl ⟨i, j, rfl, rfl, hm, q _ H _ (Same.refl H) (.int _) h⟩
theorem DaAll.rep {c : Wc} {av : Addr → Prop} {H : Hp} {vs : List V} {ds : List Dt} (h : DaAll c av H vs ds) : ∀ m : Nat, DaAll c av H (List.replicate m vs).flatten (List.replicate m ds).flatten
  | 0 => .nil
  | m + 1 => by
    rw [List.replicate_succ, List.replicate_succ, List.flatten_cons, List.flatten_cons]
    exact h.append (DaAll.rep h m)
theorem r_mulL {ds : List Dt} {m : Int} (h0 : -(2 ^ 63) ≤ m) (h1 : m < 2 ^ 63) (hz : szOk (ds.length * m.toNat) = true) (h : k (.lst (List.replicate m.toNat ds).flatten)) : R2D c n rMul (.lst ds) (.int m) k := by
  intro av H x y lv pa a b Q q
  cases b
  cases a with
  | lst a1 a2 a3 =>
    refine .inr ⟨_, m, _, rfl, rfl, a2, h0, h1, by rw [a3.length]; exact szl hz, fun p hp => ?_⟩
    exact q _ _ _ (same_new hp) (Da.newL lv hp (a3.rep _)) h
theorem r_modI {i j : Int} (hj : 0 < j) (h : k (.int (i % j))) : R2D c n rMod (.int i) (.int j) k := by
  intro av H x y lv pa h1 h2 Q q
  cases h1; cases h2
  exact ⟨i, j, rfl, rfl, hj, q _ H _ (Same.refl H) (.int _) h⟩
theorem r_divI {i j : Int} (hj : 0 < j ∧ j < 1073741824) (h : k (.int (i / j))) : R2D c n rDiv (.int i) (.int j) k := by
  intro av H x y lv pa h1 h2 Q q
  cases h1; cases h2
  exact ⟨i, j, rfl, rfl, hj, q _ H _ (Same.refl H) (.int _) h⟩
theorem r_powI {i j : Int} (hj : 0 ≤ j ∧ j ≤ 1000000 ∧ i.natAbs < 2 ^ 64) (h : k (.int (i ^ j.toNat))) : R2D c n rPow (.int i) (.int j) k := by
  intro av H x y lv pa h1 h2 Q q
  cases h1; cases h2
  exact ⟨i, j, rfl, rfl, hj, q _ H _ (Same.refl H) (.int _) h⟩
theorem r_ltI {i j : Int} (h : k (.bl (decide (i < j)))) : R2D c n rLt (.int i) (.int j) k := by
  intro av H x y lv pa h1 h2 Q q
  cases h1; cases h2
  exact .inl ⟨i, j, rfl, rfl, q _ H _ (Same.refl H) (.bl _) h⟩
theorem r_ltS {i j : Str} (h : k (.bl (decide (i.cps.toList < j.cps.toList)))) : R2D c n rLt (.str i) (.str j) k := by
  intro av H x y lv pa h1 h2 Q q
  cases h1; cases h2
  exact .inr ⟨i, j, rfl, rfl, q _ H _ (Same.refl H) (.bl _) h⟩
theorem r_leI {i j : Int} (h : k (.bl (decide (i ≤ j)))) : R2D c n rLe (.int i) (.int j) k := by
  intro av H x y lv pa h1 h2 Q q
  cases h1; cases h2
  exact ⟨i, j, rfl, rfl, q _ H _ (Same.refl H) (.bl _) h⟩
theorem r_gtI {i j : Int} (h : k (.bl (decide (j < i)))) : R2D c n rGt (.int i) (.int j) k := by
  intro av H x y lv pa h1 h2 Q q
  cases h1; cases h2
  exact ⟨i, j, rfl, rfl, q _ H _ (Same.refl H) (.bl _) h⟩
theorem r_geI {i j : Int} (h : k (.bl (decide (j ≤ i)))) : R2D c n rGe (.int i) (.int j) k := by
  intro av H x y lv pa h1 h2 Q q
  cases h1; cases h2
  exact ⟨i, j, rfl, rfl, q _ H _ (Same.refl H) (.bl _) h⟩
/-! plain data and the model's own -/
mutual
def Dt.py : Dt → Option PyData
  | .non => some .none
  | .bl b => some (.bool b)
  | .int i => some (.int i)
  | .str x => some (.str x)
  | .lst xs => (Dt.pyAll xs).map PyData.list
  | .tup xs => (Dt.pyAll xs).map PyData.tuple
  | _ => none
def Dt.pyAll : List Dt → Option (List PyData)
  | [] => some []
  | d :: ds => (Dt.py d).bind fun x => (Dt.pyAll ds).map fun xs => x :: xs
end
mutual
theorem Da.dp {c : Wc} {av : Addr → Prop} {H : Hp} : ∀ (d : Dt) (v : V) (e : PyData), Da c av H v d → d.py = some e → Dp c.K H v e
  | .non, _, _, h, q => by cases h; cases q; exact .non
  | .bl _, _, _, h, q => by cases h; cases q; exact .bl _
  | .int _, _, _, h, q => by cases h; cases q; exact .int _
  | .str _, _, _, h, q => by cases h; cases q; exact .str _
  | .lst ds, _, e, h, q => by
    cases h with
    | lst h1 h2 h3 =>
      have q' : (Dt.pyAll ds).map PyData.list = some e := q
      obtain ⟨es, q1, q2⟩ := Option.map_eq_some_iff.mp q'
      subst q2
      exact .lst (SqL.of h2) (DaAll.dp ds _ es h3 q1)
  | .tup ds, _, e, h, q => by
    cases h with
    | tup h2 h3 =>
      have q' : (Dt.pyAll ds).map PyData.tuple = some e := q
      obtain ⟨es, q1, q2⟩ := Option.map_eq_some_iff.mp q'
      subst q2
      exact .tup h2.sq (DaAll.dp ds _ es h3 q1)
  | .dic _ _, _, _, _, q => by cases q
  | .obj _ _ _, _, _, _, q => by cases q
  | .err _ _ _, _, _, _, q => by cases q
  | .pen, _, _, _, q => by cases q
theorem DaAll.dp {c : Wc} {av : Addr → Prop} {H : Hp} : ∀ (ds : List Dt) (vs : List V) (es : List PyData), DaAll c av H vs ds → Dt.pyAll ds = some es → DpAll c.K H vs es
  | [], _, _, h, q => by cases h; cases q; exact .nil
  | d :: ds, _, es, h, q => by
    cases h with
    | cons h1 h2 =>
      have q' : ((Dt.py d).bind fun x => (Dt.pyAll ds).map fun xs => x :: xs) = some es := q
      obtain ⟨x, q1, q2⟩ := Option.bind_eq_some_iff.mp q'
      obtain ⟨xs, q3, q4⟩ := Option.map_eq_some_iff.mp q2
      subst q4
      exact .cons (Da.dp d _ x h1 q1) (DaAll.dp ds _ xs h2 q3)
end
def scalD : Dt → Dt → Bool
  | .non, .non => true | .non, .int _ => true | .int _, .non => true | .non, .bl _ => true | .bl _, .non => true | .non, .str _ => true | .str _, .non => true
  | .int _, .int _ => true | .bl _, .bl _ => true | .str _, .str _ => true
  | .int _, .str _ => true | .str _, .int _ => true | .bl _, .str _ => true | .str _, .bl _ => true
  | _, _ => false
def sameD : Dt → Dt → Bool
  | .non, .non => true
  | .int i, .int j => decide (i = j)
  | .bl i, .bl j => decide (i = j)
  | .str i, .str j => decide (i = j)
  | _, _ => false
theorem scalD_ok {c : Wc} {av : Addr → Prop} {H : Hp} {d e : Dt} {x y : V} (hs : scalD d e = true) (h1 : Da c av H x d) (h2 : Da c av H y e) : scal x y = true ∧ decide (x = y) = sameD d e := by
  cases h1 <;> cases h2 <;> first
    | exact ⟨rfl, rfl⟩
    | (exfalso; exact absurd hs Bool.false_ne_true)
    | (refine ⟨rfl, ?_⟩; simp [sameD])
theorem r_eqC {d e : Dt} (hs : scalD d e = true) (h : k (.bl (sameD d e))) : R2D c n (rEqX c.K) d e k := by
  intro av H x y lv pa h1 h2 Q q
  obtain ⟨z1, z2⟩ := scalD_ok hs h1 h2
  exact .inl ⟨z1, by rw [z2]; exact q _ H _ (Same.refl H) (.bl _) h⟩
theorem r_neC {d e : Dt} (hs : scalD d e = true) (h : k (.bl (!sameD d e))) : R2D c n (rNeX c.K) d e k := by
  intro av H x y lv pa h1 h2 Q q
  obtain ⟨z1, z2⟩ := scalD_ok hs h1 h2
  exact .inl ⟨z1, by rw [z2]; exact q _ H _ (Same.refl H) (.bl _) h⟩
theorem r_eqD {d e : Dt} {d' e' : PyData} (h1 : d.py = some d') (h2 : e.py = some e') (s1 : SeqAt.shaped d' = true) (s2 : SeqAt.shaped e' = true) (h : k (.bl (PyData.eqv d' e'))) : R2D c n (rEqX c.K) d e k := by
  intro av H x y lv pa a b Q q
  exact .inr (.inl ⟨d', e', Da.dp d x d' a h1, Da.dp e y e' b h2, s1, s2, q _ H _ (Same.refl H) (.bl _) h⟩)
theorem r_neD {d e : Dt} {d' e' : PyData} (h1 : d.py = some d') (h2 : e.py = some e') (s1 : SeqAt.shaped d' = true) (s2 : SeqAt.shaped e' = true) (h : k (.bl (!PyData.eqv d' e'))) : R2D c n (rNeX c.K) d e k := by
  intro av H x y lv pa a b Q q
  exact .inr (.inl ⟨d', e', Da.dp d x d' a h1, Da.dp e y e' b h2, s1, s2, q _ H _ (Same.refl H) (.bl _) h⟩)
theorem r_eqNil {ds : List Dt} (h : k (.bl ds.isEmpty)) : R2D c n (rEqX c.K) (.lst ds) (.lst []) k := by
  cases ds with
  | nil => exact r_eqD (d' := .list []) (e' := .list []) rfl rfl rfl rfl h
  | cons e es =>
    intro av H x y lv pa h1 h2 Q q
    cases h1 with
    | lst a1 a2 a3 =>
      cases h2 with
      | lst b1 b2 b3 =>
        exact .inr (.inr ⟨_, _, _, _, rfl, rfl, SqL.of a2, SqL.of b2, by rw [a3.length, b3.length]; simp, q _ H _ (Same.refl H) (.bl _) h⟩)
theorem r_neNilD {ds : List Dt} (h : k (.bl (!ds.isEmpty))) : R2D c n (rNeX c.K) (.lst ds) (.lst []) k := by
  cases ds with
  | nil => exact r_neD (d' := .list []) (e' := .list []) rfl rfl rfl rfl h
  | cons e es =>
    intro av H x y lv pa h1 h2 Q q
    cases h1 with
    | lst a1 a2 a3 =>
      cases h2 with
      | lst b1 b2 b3 =>
        exact .inr (.inr ⟨_, _, _, _, rfl, rfl, SqL.of a2, SqL.of b2, by rw [a3.length, b3.length]; simp, q _ H _ (Same.refl H) (.bl _) h⟩)
theorem r_isN {d : Dt} {b : Bool} (hb : (match d with | .non => true | _ => false) = b) (h : k (.bl b)) : R2D c n rIs d .non k := by
  intro av H x y lv pa h1 h2 Q q
  cases h2
  refine ⟨rfl, ?_⟩
  have e : decide (x = .non) = b := by
    subst hb
    cases h1 <;> first | rfl | (simp)
  rw [e]
  exact q _ H _ (Same.refl H) (.bl _) h
theorem r_notN {d : Dt} {b : Bool} (hb : (match d with | .non => false | _ => true) = b) (h : k (.bl b)) : R2D c n rIsNot d .non k := by
  intro av H x y lv pa h1 h2 Q q
  cases h2
  refine ⟨rfl, ?_⟩
  have e : (!decide (x = .non)) = b := by
    subst hb
    cases h1 <;> first | rfl | (simp)
  rw [e]
  exact q _ H _ (Same.refl H) (.bl _) h
theorem r_inS {s : Nat} {z : Str} {neg : Bool} (h : k (.bl (if neg then !decide (s ∈ z.cps.toList) else decide (s ∈ z.cps.toList)))) : R2D c n (rInX c.K neg) (.str ⟨#[s]⟩) (.str z) k := by
  intro av H x y lv pa h1 h2 Q q
  cases h1; cases h2
  exact .inl ⟨s, z, rfl, rfl, q _ H _ (Same.refl H) (.bl _) h⟩
def flatD : Dt → Bool
  | .non => true | .bl _ => true | .int _ => true | .str _ => true | _ => false
def eqvD : Dt → Dt → Bool
  | .non, .non => true
  | .bl a, .bl b => a == b
  | .bl a, .int b => (if a then 1 else 0) == b
  | .int a, .bl b => a == (if b then 1 else 0)
  | .int a, .int b => a == b
  | .str a, .str b => a == b
  | _, _ => false
theorem flatD_ok {c : Wc} {av : Addr → Prop} {H : Hp} {d : Dt} {x : V} (hs : flatD d = true) (h : Da c av H x d) : flatV x = true := by
  cases h <;> first | rfl | (exact absurd hs Bool.false_ne_true)
theorem eqvD_ok {c : Wc} {av : Addr → Prop} {H : Hp} {d e : Dt} {x y : V} (hd : flatD d = true) (he : flatD e = true) (h1 : Da c av H x d) (h2 : Da c av H y e) : eqV x y = eqvD d e := by
  cases h1 <;> first
    | (exact absurd hd Bool.false_ne_true)
    | (cases h2 <;> first | rfl | (exact absurd he Bool.false_ne_true))
theorem inD_ok {c : Wc} {av : Addr → Prop} {H : Hp} {d : Dt} {x : V} (hd : flatD d = true) (h1 : Da c av H x d) : ∀ {vs : List V} {ds : List Dt}, DaAll c av H vs ds → ds.all flatD = true → vs.all flatV = true ∧ inV x vs = ds.any fun e => eqvD e d
  | _, _, .nil, _ => ⟨rfl, rfl⟩
  | _, _, .cons h t, ha => by
    rw [List.all_cons, Bool.and_eq_true] at ha
    obtain ⟨z1, z2⟩ := inD_ok hd h1 t ha.2
    refine ⟨by rw [List.all_cons, flatD_ok ha.1 h, z1]; rfl, ?_⟩
    unfold inV at z2 ⊢
    rw [List.any_cons, List.any_cons, eqvD_ok ha.1 hd h h1, z2]
theorem r_inT {d : Dt} {ds : List Dt} {neg : Bool} (hd : flatD d = true) (ha : ds.all flatD = true) (h : k (.bl (if neg then !(ds.any fun e => eqvD e d) else ds.any fun e => eqvD e d))) : R2D c n (rInX c.K neg) d (.tup ds) k := by
  intro av H x y lv pa h1 h2 Q q
  cases h2 with
  | tup b2 b3 =>
    obtain ⟨z1, z2⟩ := inD_ok hd h1 b3 ha
    refine .inr ⟨_, _, rfl, .inr b2.sq, flatD_ok hd h1, z1, ?_⟩
    rw [z2]
    exact q _ H _ (Same.refl H) (.bl _) h
theorem r_inL {d : Dt} {ds : List Dt} {neg : Bool} (hd : flatD d = true) (ha : ds.all flatD = true) (h : k (.bl (if neg then !(ds.any fun e => eqvD e d) else ds.any fun e => eqvD e d))) : R2D c n (rInX c.K neg) d (.lst ds) k := by
  intro av H x y lv pa h1 h2 Q q
  cases h2 with
  | lst b1 b2 b3 =>
    obtain ⟨z1, z2⟩ := inD_ok hd h1 b3 ha
    refine .inr ⟨_, _, rfl, .inl (SqL.of b2), flatD_ok hd h1, z1, ?_⟩
    rw [z2]
    exact q _ H _ (Same.refl H) (.bl _) h
end
end Pb
namespace Pb
open PySem PySem.Spec PyProof.Rows L2

/-! ### items and slices -/
section
variable {X : Cx} {c : Fc} {k : Dt → Prop} {Γ : List Sl} {n : Nat}
theorem DaAll.atI {c : Wc} {av : Addr → Prop} {H : Hp} {vs : List V} {ds : List Dt} {i : Int} {d : Dt} (h : DaAll c av H vs ds) (e : atI ds i = some d) : ∃ v, atI vs i = some v ∧ Da c av H v d := by
  unfold L2.atI at e ⊢
  rw [h.length]
  obtain ⟨j, e1, e2⟩ := Option.bind_eq_some_iff.mp e
  obtain ⟨v, h1, h2⟩ := h.get e2
  exact ⟨v, by rw [e1]; exact h1, h2⟩
theorem r_ixL {ds : List Dt} {i : Int} {d : Dt} (e : atI ds i = some d) (h : k d) : R2D c n (rIx c.K) (.lst ds) (.int i) k := by
  intro av H x y lv pa a b Q q
  cases b
  cases a with
  | lst a1 a2 a3 =>
    obtain ⟨v, h1, h2⟩ := a3.atI e
    exact .inl ⟨_, _, i, v, rfl, rfl, SqL.of a2, h1, q _ H _ (Same.refl H) h2 h⟩
theorem r_ixT {ds : List Dt} {i : Int} {d : Dt} (e : atI ds i = some d) (h : k d) : R2D c n (rIx c.K) (.tup ds) (.int i) k := by
  intro av H x y lv pa a b Q q
  cases b
  cases a with
  | tup a2 a3 =>
    obtain ⟨v, h1, h2⟩ := a3.atI e
    exact .inr (.inl ⟨_, _, i, v, rfl, rfl, a2.sq, h1, q _ H _ (Same.refl H) h2 h⟩)
theorem r_ixS {z : Str} {i : Int} {s : Nat} (hz : szOk z.length = true) (e : atI z.cps.toList i = some s) (h : k (.str ⟨#[s]⟩)) : R2D c n (rIx c.K) (.str z) (.int i) k := by
  intro av H x y lv pa a b Q q
  cases a; cases b
  exact .inr (.inr ⟨z, i, s, rfl, rfl, szl hz, e, q _ H _ (Same.refl H) (.str _) h⟩)
def Wo (c : Fc) (Γ : List Sl) (n : Nat) (to : TO) (k : Option Int → Nat → Prop) : Prop := ∀ ρ av o σ H, SS c ρ av o Γ n σ H → ∀ Q : Option Int → Hp → Prop, (∀ b H' n', SS c ρ av o Γ n' σ H' → Stp c.a H H' → k b n' → Q b H') → to σ H Q
theorem wo_none {k : Option Int → Nat → Prop} (h : k none n) : Wo c Γ n tNoPart k := fun ρ av o σ H S Q q => q _ H n S (Stp.refl _ _) h
theorem wo_some {k : Option Int → Nat → Prop} {te : TE} (h : We c Γ n te fun d m => ∃ i, d = .int i ∧ k (some i) m) : Wo c Γ n (tPart te) k := by
  intro ρ av o σ H S Q q
  refine h ρ av o σ H S _ fun v H' d m S' x h' kk => ?_
  obtain ⟨i, rfl, kk⟩ := kk
  cases h'
  exact ⟨i, rfl, q _ H' m S' x kk⟩
def cutG {α : Type} (xs : List α) (lo hi : Option Int) : List α := (xs.drop (HT.sIx xs.length 0 lo)).take (HT.sIx xs.length xs.length hi - HT.sIx xs.length 0 lo)
def rSl (K : PySem.W.Frag) : V → Option Int → Option Int → Hp → VK → Prop := fun x lo hi H Q => rSlL K x lo hi H Q ∨ rSlA K x lo hi H Q ∨ rSlS x lo hi H Q
theorem sl_any : SlR X (rSl X.K) := SlR.or sl_list (SlR.or sl_tupA sl_str)
def RSD (c : Fc) (r : V → Option Int → Option Int → Hp → VK → Prop) (d : Dt) (lo hi : Option Int) (k : Dt → Prop) : Prop := ∀ av H x, Live av H → av c.a → Da c.toWc av H x d → ∀ Q : VK, (∀ z H' d, Same H H' → Da c.toWc av H' z d → k d → Q z H') → r x lo hi H Q
theorem w_sl {r : V → Option Int → Option Int → Hp → VK → Prop} {te : TE} {tl th : TO} {k : Kd} (h : We c Γ n te fun d n1 => Wo c Γ n1 tl fun lo n2 => Wo c Γ n2 th fun hi n3 => RSD c r d lo hi fun e => k e n3) : We c Γ n (tSl r te tl th) k := by
  intro ρ av o σ H S Q hQ
  refine h ρ av o σ H S _ fun x H1 d1 n1 S1 x1 h1 k1 => ?_
  refine k1 ρ av o σ H1 S1 _ fun lo H2 n2 S2 x2 k2 => ?_
  refine k2 ρ av o σ H2 S2 _ fun hi H3 n3 S3 x3 k3 => ?_
  refine k3 av H3 x S3.live S3.pa (h1.keep ((x2.trans x3).kp S.pa)) Q fun z H4 d x4 h4 k4 => ?_
  exact hQ z H4 d n3 (S3.same x4) (((x1.trans x2).trans x3).trans (Stp.same x4)) h4 k4
theorem DaAll.drop {c : Wc} {av : Addr → Prop} {H : Hp} : ∀ (m : Nat) {vs : List V} {ds : List Dt}, DaAll c av H vs ds → DaAll c av H (vs.drop m) (ds.drop m)
  | 0, _, _, h => h
  | _ + 1, _, _, .nil => .nil
  | m + 1, _, _, .cons _ t => DaAll.drop m t
theorem DaAll.take {c : Wc} {av : Addr → Prop} {H : Hp} : ∀ (m : Nat) {vs : List V} {ds : List Dt}, DaAll c av H vs ds → DaAll c av H (vs.take m) (ds.take m)
  | 0, _, _, _ => .nil
  | _ + 1, _, _, .nil => .nil
  | m + 1, _, _, .cons h t => .cons h (DaAll.take m t)
theorem DaAll.cut {c : Wc} {av : Addr → Prop} {H : Hp} {vs : List V} {ds : List Dt} (h : DaAll c av H vs ds) (lo hi : Option Int) : DaAll c av H (cutV vs lo hi) (cutG ds lo hi) := by
  unfold cutV cutG
  rw [h.length]
  exact (h.drop _).take _
theorem cutG_whole {α : Type} (xs : List α) (lo hi : Option Int) (h : HT.sIx xs.length 0 lo = 0 ∧ HT.sIx xs.length xs.length hi = xs.length) : cutG xs lo hi = xs := by
  unfold cutG
  rw [h.1, h.2, List.drop_zero, Nat.sub_zero, List.take_length]
theorem s_lst {ds : List Dt} {lo hi : Option Int} (h : k (.lst (cutG ds lo hi))) : RSD c (rSl c.K) (.lst ds) lo hi k := by
  intro av H x lv pa a Q q
  cases a with
  | lst a1 a2 a3 => exact .inl ⟨_, _, rfl, SqL.of a2, fun p hp => q _ _ _ (same_new hp) (Da.newL lv hp (a3.cut lo hi)) h⟩
theorem s_tup {ds : List Dt} {lo hi : Option Int} (h : k (.tup (cutG ds lo hi))) : RSD c (rSl c.K) (.tup ds) lo hi k := by
  intro av H x lv pa a Q q
  cases a with
  | tup a2 a3 =>
    refine .inr (.inl ⟨_, _, rfl, a2.sq, fun z => ?_, fun z p hp => q _ _ _ (same_new hp) (Da.newT lv hp (a3.cut lo hi)) h⟩)
    rw [a3.length] at z
    rw [cutG_whole _ _ _ z] at h
    exact q _ H _ (Same.refl H) (.tup a2 a3) h
theorem s_str {z : Str} {lo hi : Option Int} (hz : szOk z.length = true) (h : k (.str (cutS z lo hi))) : RSD c (rSl c.K) (.str z) lo hi k := by
  intro av H x lv pa a Q q
  cases a
  exact .inr (.inr ⟨z, rfl, szl hz, q _ H _ (Same.refl H) (.str _) h⟩)
end

/-! ### built-ins -/
section
variable {X : Cx} {c : Fc} {k : Kd} {Γ : List Sl} {n : Nat}
/-- an answer that changes nothing -/
theorem rc_pure {r : List V → Hp → VK → Prop} {ds : List Dt} (h : ∀ av H vs, Live av H → av c.a → DaAll c.toWc av H vs ds → ∀ Q : VK, (∀ z H' d, Same H H' → Da c.toWc av H' z d → k d n → Q z H') → r vs H Q) : RCD c r ds n k := by
  intro ρ av H vs lv pa pm sub kp pn ex da Q q
  exact h av H vs lv pa.1 da Q fun z H' d sm h1 h2 => q z H' d n (Stp.same sm) (pn.same sm) h1 h2
def rLen (K : PySem.W.Frag) : List V → Hp → VK → Prop := fun xs H Q => (∃ x n, xs = [x] ∧ LenV K x H n ∧ Q (.int n) H) ∨ (∃ a kvs, xs = [V.ref a] ∧ H a = some (.dK kvs) ∧ Q (.int kvs.length) H)
theorem b_len : CallR X (.builtin "len") (rLen X.K) := CallR.or call_len call_lenD
theorem c_lenL {ds : List Dt} (h : k (.int ds.length) n) : RCD c (rLen c.K) [.lst ds] n k := rc_pure fun av H vs lv pa da Q q => by
  cases da with
  | cons h1 h2 =>
    cases h2
    cases h1 with
    | lst a1 a2 a3 => exact .inl ⟨_, _, rfl, .inl ⟨_, SqL.of a2, rfl⟩, q _ H (.int ds.length) (Same.refl H) (by rw [a3.length]; exact .int _) h⟩
theorem c_lenT {ds : List Dt} (h : k (.int ds.length) n) : RCD c (rLen c.K) [.tup ds] n k := rc_pure fun av H vs lv pa da Q q => by
  cases da with
  | cons h1 h2 =>
    cases h2
    cases h1 with
    | tup a2 a3 => exact .inl ⟨_, _, rfl, .inr ⟨_, a2.sq, rfl⟩, q _ H (.int ds.length) (Same.refl H) (by rw [a3.length]; exact .int _) h⟩
theorem c_lenS {z : Str} (hz : szOk z.length = true) (h : k (.int z.length) n) : RCD c (rLen c.K) [.str z] n k := rc_pure fun av H vs lv pa da Q q => by
  cases da with
  | cons h1 h2 =>
    cases h2; cases h1
    exact .inl ⟨_, _, rfl, ⟨szl hz, rfl⟩, q _ H (.int z.length) (Same.refl H) (.int _) h⟩
theorem c_lenD {ks : List Key} {ds : List Dt} (h : k (.int ks.length) n) : RCD c (rLen c.K) [.dic ks ds] n k := rc_pure fun av H vs lv pa da Q q => by
  cases da with
  | cons h1 h2 =>
    cases h2
    cases h1 with
    | dic a1 a2 a3 a4 =>
      refine .inr ⟨_, _, rfl, a2, q _ H (.int ks.length) (Same.refl H) ?_ h⟩
      rw [← a3, List.length_map]
      exact .int _
def rAbs : List V → Hp → VK → Prop := fun xs H Q => ∃ i, xs = [.int i] ∧ Q (.int (if i < 0 then -i else i)) H
theorem b_abs : CallR X (.builtin "abs") rAbs := call_abs
theorem c_abs {i : Int} (h : k (.int (if i < 0 then -i else i)) n) : RCD c rAbs [.int i] n k := rc_pure fun av H vs lv pa da Q q => by
  cases da with
  | cons h1 h2 => cases h2; cases h1; exact ⟨i, rfl, q _ H _ (Same.refl H) (.int _) h⟩
def rInt : List V → Hp → VK → Prop := fun xs H Q => ((∃ i, xs = [.int i] ∧ Q (.int i) H) ∨ ∃ k, xs = [.bl k] ∧ Q (.int (if k then 1 else 0)) H) ∨ ∃ a n, xs = [.str a] ∧ PySem.intText? a = some n ∧ a.length ≤ 640 ∧ Q (.int n) H
theorem b_int : CallR X (.type "int") rInt := CallR.or call_int1 call_int_str
theorem c_intI {i : Int} (h : k (.int i) n) : RCD c rInt [.int i] n k := rc_pure fun av H vs lv pa da Q q => by
  cases da with
  | cons h1 h2 => cases h2; cases h1; exact .inl (.inl ⟨i, rfl, q _ H _ (Same.refl H) (.int _) h⟩)
theorem c_intB {b : Bool} (h : k (.int (if b then 1 else 0)) n) : RCD c rInt [.bl b] n k := rc_pure fun av H vs lv pa da Q q => by
  cases da with
  | cons h1 h2 => cases h2; cases h1; exact .inl (.inr ⟨b, rfl, q _ H _ (Same.refl H) (.int _) h⟩)
theorem c_intS {z : Str} {i : Int} (e : PySem.intText? z = some i) (hz : z.length ≤ 640) (h : k (.int i) n) : RCD c rInt [.str z] n k := rc_pure fun av H vs lv pa da Q q => by
  cases da with
  | cons h1 h2 => cases h2; cases h1; exact .inr ⟨z, i, rfl, e, hz, q _ H _ (Same.refl H) (.int _) h⟩
def rList (K : PySem.W.Frag) : List V → Hp → VK → Prop := fun xs H Q => ∃ p ys, xs = [.ref p] ∧ (SqL K H p ys ∨ SqT K H p ys) ∧ ∀ l, H l = none → Q (.ref l) (upd H l (.lst ys))
theorem b_list : CallR X (.type "list") (rList X.K) := call_list_of
theorem c_listL {ds : List Dt} (h : k (.lst ds) n) : RCD c (rList c.K) [.lst ds] n k := rc_pure fun av H vs lv pa da Q q => by
  cases da with
  | cons h1 h2 =>
    cases h2
    cases h1 with
    | lst a1 a2 a3 => exact ⟨_, _, rfl, .inl (SqL.of a2), fun p hp => q _ _ _ (same_new hp) (Da.newL lv hp a3) h⟩
theorem c_listT {ds : List Dt} (h : k (.lst ds) n) : RCD c (rList c.K) [.tup ds] n k := rc_pure fun av H vs lv pa da Q q => by
  cases da with
  | cons h1 h2 =>
    cases h2
    cases h1 with
    | tup a2 a3 => exact ⟨_, _, rfl, .inr a2.sq, fun p hp => q _ _ _ (same_new hp) (Da.newL lv hp a3) h⟩
def rTuple (K : PySem.W.Frag) : List V → Hp → VK → Prop := fun xs H Q => ∃ p ys, xs = [.ref p] ∧ ((SqL K H p ys ∧ ∀ l, H l = none → Q (.ref l) (upd H l (.tup ys))) ∨ (SqT K H p ys ∧ Q (.ref p) H))
theorem b_tuple : CallR X (.type "tuple") (rTuple X.K) := call_tuple_of
theorem c_tupleL {ds : List Dt} (h : k (.tup ds) n) : RCD c (rTuple c.K) [.lst ds] n k := rc_pure fun av H vs lv pa da Q q => by
  cases da with
  | cons h1 h2 =>
    cases h2
    cases h1 with
    | lst a1 a2 a3 => exact ⟨_, _, rfl, .inl ⟨SqL.of a2, fun p hp => q _ _ _ (same_new hp) (Da.newT lv hp a3) h⟩⟩
theorem c_tupleT {ds : List Dt} (h : k (.tup ds) n) : RCD c (rTuple c.K) [.tup ds] n k := rc_pure fun av H vs lv pa da Q q => by
  cases da with
  | cons h1 h2 =>
    cases h2
    cases h1 with
    | tup a2 a3 => exact ⟨_, _, rfl, .inr ⟨a2.sq, q _ H _ (Same.refl H) (.tup a2 a3) h⟩⟩
def rStr : List V → Hp → VK → Prop := fun xs H Q => (∃ i, xs = [.int i] ∧ i.natAbs.log2 < 1920 ∧ Q (.str (toString i)) H) ∨ ∃ a, xs = [.str a] ∧ Q (.str a) H
theorem b_str : CallR X (.type "str") rStr := CallR.or call_str_int SkE.call_str_str
theorem c_strI {i : Int} (hz : i.natAbs.log2 < 1920) (h : k (.str (toString i)) n) : RCD c rStr [.int i] n k := rc_pure fun av H vs lv pa da Q q => by
  cases da with
  | cons h1 h2 => cases h2; cases h1; exact .inl ⟨i, rfl, hz, q _ H _ (Same.refl H) (.str _) h⟩
theorem c_strS {z : Str} (h : k (.str z) n) : RCD c rStr [.str z] n k := rc_pure fun av H vs lv pa da Q q => by
  cases da with
  | cons h1 h2 => cases h2; cases h1; exact .inr ⟨z, rfl, q _ H _ (Same.refl H) (.str _) h⟩
theorem DaAll.bls {c : Wc} {av : Addr → Prop} {H : Hp} : ∀ {bs : List Bool} {vs : List V}, DaAll c av H vs (bs.map Dt.bl) → vs = bs.map V.bl
  | [], _, h => by cases h; rfl
  | b :: bs, _, h => by
    cases h with
    | cons h1 h2 =>
      cases h1
      rw [DaAll.bls h2]
      rfl
theorem b_all (hc : X.calm = true) : CallR X (.builtin "all") (rAll X.K) := cr_all hc
theorem b_any (hc : X.calm = true) : CallR X (.builtin "any") (rAny X.K) := cr_any hc
theorem c_all {bs : List Bool} (h : k (.bl (bs.all id)) n) : RCD c (rAll c.K) [.lst (bs.map Dt.bl)] n k := rc_pure fun av H vs lv pa da Q q => by
  cases da with
  | cons h1 h2 =>
    cases h2
    cases h1 with
    | lst a1 a2 a3 =>
      have e := a3.bls
      subst e
      exact ⟨_, bs, rfl, SqL.of a2, q _ H _ (Same.refl H) (.bl _) h⟩
/-! isinstance -/
inductive Tn where
  | none | bool | int | str | list | tuple | dict
def Tn.s : Tn → String
  | .none => "NoneType" | .bool => "bool" | .int => "int" | .str => "str" | .list => "list" | .tuple => "tuple" | .dict => "dict"
def Tn.sub : Tn → Tn → Bool
  | .none, .none => true
  | .bool, .bool => true
  | .bool, .int => true
  | .int, .int => true
  | .str, .str => true
  | .list, .list => true
  | .tuple, .tuple => true
  | .dict, .dict => true
  | _, _ => false
def Dt.tn : Dt → Option Tn
  | .non => some .none
  | .bl _ => some .bool
  | .int _ => some .int
  | .str _ => some .str
  | .lst _ => some .list
  | .tup _ => some .tuple
  | .dic _ _ => some .dict
  | _ => none
theorem kit_tn (a b : Tn) : kitB a.s b.s = some (a.sub b) ∨ b = .none := by
  cases b <;> first | (exact .inr rfl) | (left; cases a <;> decide +kernel)
theorem Da.ty {c : Wc} {av : Addr → Prop} {H : Hp} {d : Dt} {x : V} {t : Tn} (h : Da c av H x d) (e : d.tn = some t) : TyX c.K H x (.type t.s) := by
  cases h with
  | non => cases e; exact .base .non
  | bl b => cases e; exact .base (.bl b)
  | int i => cases e; exact .base (.int i)
  | str z => cases e; exact .base (.str z)
  | lst h1 h2 h3 => cases e; exact .base (.lst h2)
  | tup h2 h3 =>
    cases e
    rcases h2 with ⟨_, h2 | ⟨o, h2⟩⟩ | ⟨o, its, m, h2, h4, _⟩
    · exact .base (.tup h2)
    · exact .fTuple h2
    · exact .kTuple h2 h4
  | dic h1 h2 h3 h4 => cases e; exact .base (.dK h2)
  | obj => cases e
  | err _ _ _ _ => cases e
  | pen => cases e
theorem w_isi {te : TE} (T : Tn) (hT : T ≠ .none) (h : We c Γ n te fun d n1 => ∃ t, d.tn = some t ∧ k (.bl (t.sub T)) n1) : We c Γ n (tCB (rIsi c.K) (tCons te (tCons (tC (.ty T.s)) tNil))) k := by
  intro ρ av o σ H S Q hQ
  refine h ρ av o σ H S _ fun x H1 d1 n1 S1 x1 h1 k1 => ?_
  obtain ⟨t, e, k1⟩ := k1
  refine ⟨x, .ty T.s, _, _, t.sub T, rfl, .ty _, h1.ty e, kit_ty ((kit_tn t T).resolve_right hT), ?_⟩
  exact hQ _ H1 _ n1 S1 x1 (.bl _) k1
theorem w_isiStr {te : TE} (h : We c Γ n te fun d n1 => ∃ t, d.tn = some t ∧ k (.bl (t.sub .str)) n1) : We c Γ n (tCB (rIsi c.K) (tCons te (tCons (tC (.ty "str")) tNil))) k := w_isi .str (fun z => by cases z) h
theorem w_isiInt {te : TE} (h : We c Γ n te fun d n1 => ∃ t, d.tn = some t ∧ k (.bl (t.sub .int)) n1) : We c Γ n (tCB (rIsi c.K) (tCons te (tCons (tC (.ty "int")) tNil))) k := w_isi .int (fun z => by cases z) h
theorem w_isiBool {te : TE} (h : We c Γ n te fun d n1 => ∃ t, d.tn = some t ∧ k (.bl (t.sub .bool)) n1) : We c Γ n (tCB (rIsi c.K) (tCons te (tCons (tC (.ty "bool")) tNil))) k := w_isi .bool (fun z => by cases z) h
theorem w_isiList {te : TE} (h : We c Γ n te fun d n1 => ∃ t, d.tn = some t ∧ k (.bl (t.sub .list)) n1) : We c Γ n (tCB (rIsi c.K) (tCons te (tCons (tC (.ty "list")) tNil))) k := w_isi .list (fun z => by cases z) h
theorem w_isiTuple {te : TE} (h : We c Γ n te fun d n1 => ∃ t, d.tn = some t ∧ k (.bl (t.sub .tuple)) n1) : We c Γ n (tCB (rIsi c.K) (tCons te (tCons (tC (.ty "tuple")) tNil))) k := w_isi .tuple (fun z => by cases z) h
theorem w_isiDict {te : TE} (h : We c Γ n te fun d n1 => ∃ t, d.tn = some t ∧ k (.bl (t.sub .dict)) n1) : We c Γ n (tCB (rIsi c.K) (tCons te (tCons (tC (.ty "dict")) tNil))) k := w_isi .dict (fun z => by cases z) h
/-- isinstance(x, (tuple, list)) -/
theorem w_isiTL {te : TE} (h : We c Γ n te fun d n1 => ∃ t, d.tn = some t ∧ k (.bl (t.sub .tuple || t.sub .list)) n1) : We c Γ n (tCB (rIsiT c.K) (tCons te (tCons (tTup (tCons (tC (.ty "tuple")) (tCons (tC (.ty "list")) tNil))) tNil))) k := by
  intro ρ av o σ H S Q hQ
  refine h ρ av o σ H S _ fun x H1 d1 n1 S1 x1 h1 k1 => ?_
  obtain ⟨t, e, k1⟩ := k1
  refine ⟨szl rfl, fun p hp => ?_⟩
  have sm := same_new (o := HO.tup [.ty "tuple", .ty "list"]) hp
  refine ⟨x, p, [.ty "tuple", .ty "list"], _, [.type "tuple", .type "list"], t.sub .tuple || t.sub .list, rfl, upd_same, .cons (.ty _) (.cons (.ty _) .nil), (h1.keep (same_kp sm)).ty e, ?_, ?_⟩
  · have e1 : PySem.W.kitOne c.K (.type t.s) (.type "tuple") = some (t.sub .tuple) := kit_ty ((kit_tn t .tuple).resolve_right fun z => by cases z)
    have e2 : PySem.W.kitOne c.K (.type t.s) (.type "list") = some (t.sub .list) := kit_ty ((kit_tn t .list).resolve_right fun z => by cases z)
    refine kitAny_cons e1 (fun z => kitAny_cons e2 (fun z2 => ?_) (fun z2 => ?_)) (fun z => ?_)
    · rw [z, z2]; exact kitAny_nil
    · rw [z2, Bool.or_true]
    · rw [z, Bool.true_or]
  · exact hQ _ _ _ n1 (S1.same sm) (x1.trans (Stp.same sm)) (.bl _) k1
end
end Pb
namespace Pb
open PySem PySem.Spec PyProof.Rows L2

/-! ### repr of data -/
def keyP : Key → PyData
  | .inl i => .int i
  | .inr x => .str x
mutual
def Dt.pyd : Dt → Option PyData
  | .non => some .none
  | .bl b => some (.bool b)
  | .int i => some (.int i)
  | .str x => some (.str x)
  | .lst xs => (Dt.pydAll xs).map PyData.list
  | .tup xs => (Dt.pydAll xs).map PyData.tuple
  | .dic ks ds => (Dt.pydAll ds).map fun es => .dict ((ks.map keyP).zip es)
  | _ => none
def Dt.pydAll : List Dt → Option (List PyData)
  | [] => some []
  | d :: ds => (Dt.pyd d).bind fun x => (Dt.pydAll ds).map fun xs => x :: xs
end
theorem pydAll_len : ∀ {ds : List Dt} {es : List PyData}, Dt.pydAll ds = some es → es.length = ds.length
  | [], _, h => by cases h; rfl
  | d :: ds, es, h => by
    have h' : ((Dt.pyd d).bind fun x => (Dt.pydAll ds).map fun xs => x :: xs) = some es := h
    obtain ⟨x, q1, q2⟩ := Option.bind_eq_some_iff.mp h'
    obtain ⟨xs, q3, q4⟩ := Option.map_eq_some_iff.mp q2
    subst q4
    rw [List.length_cons, List.length_cons, pydAll_len q3]
theorem reads_keys {P : Program} {w : World} {h : Heap} : ∀ {es : List DictEntry} {kvs : List (Key × Value)}, Pairs (mixKind P w) es kvs → ReadsAll h (es.map (·.key)) ((kvs.map (·.1)).map keyP) []
  | _, _, .nil => .nil
  | e :: es, kv :: kvs, .cons h1 _ h3 => by
    have r := reads_keys (h := h) h3
    obtain ⟨k, v⟩ := kv
    have h1' : keyIs k e.key = true := h1
    rcases keyIs_shape h1' with ⟨i, t, e1, e2⟩ | ⟨x, t, e1, e2⟩
    · subst e1
      show ReadsAll h (e.key :: es.map (·.key)) (PyData.int i :: (kvs.map (·.1)).map keyP) []
      rw [e2]
      exact ReadsAll.cons (as := []) (bs := []) (.int i t) r
    · subst e1
      show ReadsAll h (e.key :: es.map (·.key)) (PyData.str x :: (kvs.map (·.1)).map keyP) []
      rw [e2]
      exact ReadsAll.cons (as := []) (bs := []) (.str x t) r
theorem pairs_vals {P : Program} {w : World} : ∀ {es : List DictEntry} {kvs : List (Key × Value)}, Pairs (mixKind P w) es kvs → es.map (·.val) = kvs.map (·.2)
  | _, _, .nil => rfl
  | e :: es, kv :: kvs, .cons _ h2 h3 => by rw [List.map_cons, List.map_cons, h2, pairs_vals h3]
theorem kv_split : ∀ {kvs : List (Key × V)} {vs : List (Key × Value)}, KV kvs vs → vs.map (·.1) = kvs.map (·.1) ∧ Vals (kvs.map (·.2)) (vs.map (·.2))
  | _, _, .nil => ⟨rfl, .nil⟩
  | _, _, .cons h t => by
    obtain ⟨a, b⟩ := kv_split t
    refine ⟨?_, .cons h.2 b⟩
    rw [List.map_cons, List.map_cons, a, h.1]
section
variable {X : Cx} {pins : List (Addr × Obj)} {σ : L2.St} {H : Hp} {s : Shared} {c : Wc} {av : Addr → Prop}
mutual
theorem Da.reads (I : Inv X pins σ H s) (hK : c.K = X.K) : ∀ (d : Dt) (v : V) (u : Value) (e : PyData), Da c av H v d → d.pyd = some e → RelV v u → ∃ as, Reads s.heap u e as ∧ ∀ a ∈ as, H a ≠ none
  | .non, _, _, _, h, q, r => by
    cases h; cases q; cases r
    exact ⟨_, .none, fun a z => by simp at z⟩
  | .bl b, _, _, _, h, q, r => by
    cases h; cases q; cases r
    exact ⟨_, .bool b, fun a z => by simp at z⟩
  | .int i, _, _, _, h, q, r => by
    cases h; cases q
    obtain ⟨t, rfl⟩ := r
    exact ⟨_, .int i t, fun a z => by simp at z⟩
  | .str x, _, _, _, h, q, r => by
    cases h; cases q
    obtain ⟨t, rfl⟩ := r
    exact ⟨_, .str x t, fun a z => by simp at z⟩
  | .lst ds, _, _, e, h, q, r => by
    cases h with
    | lst h1 h2 h3 =>
      cases r
      have q' : (Dt.pydAll ds).map PyData.list = some e := q
      obtain ⟨es, q1, q2⟩ := Option.map_eq_some_iff.mp q'
      subst q2
      obtain ⟨its, rv, ⟨o, n, ho, hc, _, hd⟩, _⟩ := I.list (SqL.of h2)
      obtain ⟨as, hr, hz⟩ := DaAll.reads I hK ds _ its es h3 q1 rv
      refine ⟨_, .list ho hc hd hr, fun a z => ?_⟩
      rcases List.mem_cons.mp z with z | z
      · rw [z, h2]; intro w; cases w
      · exact hz a z
  | .tup ds, _, _, e, h, q, r => by
    cases h with
    | tup h2 h3 =>
      cases r
      have q' : (Dt.pydAll ds).map PyData.tuple = some e := q
      obtain ⟨es, q1, q2⟩ := Option.map_eq_some_iff.mp q'
      subst q2
      obtain ⟨its, rv, ⟨o, ho, hc, n, hd⟩, _⟩ := I.tuple (hK ▸ h2.sq)
      obtain ⟨as, hr, hz⟩ := DaAll.reads I hK ds _ its es h3 q1 rv
      exact ⟨_, .tuple ho hc hd hr, hz⟩
  | .dic ks ds, _, _, e, h, q, r => by
    cases h with
    | @dic p kvs _ _ h1 h2 h3 h4 =>
      cases r
      have q' : ((Dt.pydAll ds).map fun es => PyData.dict ((ks.map keyP).zip es)) = some e := q
      obtain ⟨es, q1, q2⟩ := Option.map_eq_some_iff.mp q'
      subst q2
      obtain ⟨_, _, vs, rk, o, en, ep, ho, hx, hd, _, hp, _⟩ := (show ObjOk X.prog X.w H s.heap p (.dK kvs) from I.hok p _ h2)
      obtain ⟨e1, rv⟩ := kv_split rk
      obtain ⟨as, hr, hz⟩ := DaAll.reads I hK ds _ _ es h4 q1 rv
      have ln : (ks.map keyP).length = es.length := by
        rw [pydAll_len q1, ← h4.length, ← h3, List.length_map, List.length_map, List.length_map]
      have k1 := reads_keys (h := s.heap) hp
      rw [e1, h3] at k1
      have v1 : ReadsAll s.heap (en.toList.map (·.val)) es as := by
        rw [pairs_vals hp]
        exact hr
      refine ⟨_, .dict (kvs := (ks.map keyP).zip es) ho hx.1 hd (by rw [List.map_fst_zip (by omega)]; exact k1) (by rw [List.map_snd_zip (by omega)]; exact v1), fun a z => ?_⟩
      rcases List.mem_append.mp z with z | z
      · rw [List.mem_singleton.mp z, h2]; intro w; cases w
      · exact hz a z
  | .obj _ _ _, _, _, _, _, q, _ => by cases q
  | .err _ _ _, _, _, _, _, q, _ => by cases q
  | .pen, _, _, _, _, q, _ => by cases q
theorem DaAll.reads (I : Inv X pins σ H s) (hK : c.K = X.K) : ∀ (ds : List Dt) (vs : List V) (us : List Value) (es : List PyData), DaAll c av H vs ds → Dt.pydAll ds = some es → Vals vs us → ∃ as, ReadsAll s.heap us es as ∧ ∀ a ∈ as, H a ≠ none
  | [], _, _, _, h, q, r => by
    cases h; cases q; cases r
    exact ⟨_, .nil, fun a z => by simp at z⟩
  | d :: ds, _, _, es, h, q, r => by
    cases h with
    | cons h1 h2 =>
      cases r with
      | cons r1 r2 =>
        have q' : ((Dt.pyd d).bind fun x => (Dt.pydAll ds).map fun xs => x :: xs) = some es := q
        obtain ⟨x, q1, q2⟩ := Option.bind_eq_some_iff.mp q'
        obtain ⟨xs, q3, q4⟩ := Option.map_eq_some_iff.mp q2
        subst q4
        obtain ⟨as, a1, a2⟩ := Da.reads I hK d _ _ x h1 q1 r1
        obtain ⟨bs, b1, b2⟩ := DaAll.reads I hK ds _ _ xs h2 q3 r2
        refine ⟨_, .cons a1 b1, fun a z => ?_⟩
        rcases List.mem_append.mp z with z | z
        · exact a2 a z
        · exact b2 a z
end
end
/-- what may be shown -/
def shows (e : PyData) : Bool := e.showable && decide (e.depth ≤ 100)
def rRepr (K : PySem.W.Frag) : List V → Hp → VK → Prop := fun xs H Q => ∃ (c : Wc) (av : Addr → Prop) (v : V) (d : Dt) (e : PyData), xs = [v] ∧ c.K = K ∧ Da c av H v d ∧ d.pyd = some e ∧ (e.hasDict = true → ∃ o, K.lookup sysModules = some o) ∧
  shows e = true ∧ e.shown.length ≤ sizeLine ∧ Q (.str e.shown) H
theorem b_repr {X : Cx} {k : Nat} (hr : RoomG true k X.A) : CallR X (.builtin "repr") (rRepr X.K) := by
  intro pins s σ H xs us Q I r h
  obtain ⟨c, av, v, d, e, rfl, hK, da, hp, hs, hw, hz, q⟩ := h
  obtain ⟨h1, h2⟩ := Bool.and_eq_true_iff.mp hw
  have h2 := of_decide_eq_true h2
  have hu := hr.rm.un
  cases r with
  | cons rv rn =>
    cases rn
    obtain ⟨as, rd, tr⟩ := Da.reads I hK d v _ e da hp rv
    have big : ∀ tk, EP X pins σ Q (.str e.shown tk) { s with toks := s.toks + 1 } := fun tk => ⟨.str e.shown, H, I.tok _, ⟨_, rfl⟩, q⟩
    cases da with
    | non =>
      cases rv; cases hp
      refine PySem.P.repr_of_none ?_
      have e1 : (PyData.none).shown = ("None" : Str) := PyData.shown_none
      rw [← e1]; exact big _
    | bl b =>
      cases rv; cases hp
      refine PySem.P.repr_of_bool ?_
      have e1 : (PyData.bool b).shown = (if b then "True" else "False" : Str) := PyData.shown_bool b
      rw [← e1]; exact big _
    | int i =>
      obtain ⟨t, rfl⟩ := rv
      cases hp
      have h3 : i.natAbs.log2 < 1920 := by
        have z : decide (i.natAbs.log2 < 1920) = true := by simpa [PyData.showable] using h1
        exact of_decide_eq_true z
      refine PySem.P.repr_of_int h3 ?_
      have e1 : (PyData.int i).shown = ((toString i : String) : Str) := PyData.shown_int i
      rw [← e1]; exact big _
    | str x =>
      obtain ⟨t, rfl⟩ := rv
      cases hp
      have e1 : (PyData.str x).shown = reprText x := PyData.shown_str x
      rw [e1] at hz
      refine PySem.P.repr_of_str ?_ hz
      rw [← e1]; exact big _
    | lst a1 a2 a3 =>
      cases rv
      refine repr_of_reads' rd h1 (fun hd hm => ?_) (hr.gd rfl) (by omega) (fun _ _ e => e) (fun h' u tk hk => ⟨.str e.shown, H, I.kept hk, ⟨_, rfl⟩, q⟩) hz
      obtain ⟨o, ho⟩ := hs hd
      exact tr _ hm (I.bs _ o (I.ok.mod.kin _ _ ho)).2
    | tup a2 a3 =>
      cases rv
      refine repr_of_reads' rd h1 (fun hd hm => ?_) (hr.gd rfl) (by omega) (fun _ _ e => e) (fun h' u tk hk => ⟨.str e.shown, H, I.kept hk, ⟨_, rfl⟩, q⟩) hz
      obtain ⟨o, ho⟩ := hs hd
      exact tr _ hm (I.bs _ o (I.ok.mod.kin _ _ ho)).2
    | dic a1 a2 a3 a4 =>
      cases rv
      refine repr_of_reads' rd h1 (fun hd hm => ?_) (hr.gd rfl) (by omega) (fun _ _ e => e) (fun h' u tk hk => ⟨.str e.shown, H, I.kept hk, ⟨_, rfl⟩, q⟩) hz
      obtain ⟨o, ho⟩ := hs hd
      exact tr _ hm (I.bs _ o (I.ok.mod.kin _ _ ho)).2
    | obj => cases hp
    | err => cases hp
    | pen => cases hp
section
variable {c : Fc} {k : Kd} {n : Nat}
theorem c_repr {d : Dt} {e : PyData} (hp : d.pyd = some e) (hs : e.hasDict = true → ∃ o, c.K.lookup sysModules = some o) (hw : shows e = true) (hz : szOk e.shown.length = true) (h : k (.str e.shown) n) : RCD c (rRepr c.K) [d] n k := rc_pure fun av H vs lv pa da Q q => by
  cases da with
  | cons h1 h2 =>
    cases h2
    exact ⟨c.toWc, av, _, d, e, rfl, rfl, h1, hp, hs, hw, szl hz, q _ H _ (Same.refl H) (.str _) h⟩
end

/-! ### methods of texts -/
section
variable {X : Cx} {c : Fc} {k : Kd} {Γ : List Sl} {n : Nat} {to te : TE}
/-- a method of a text with one argument -/
theorem w_m1 {r : V → List V → Hp → VK → Prop} (h : We c Γ n to fun d n1 => ∃ z, d = .str z ∧ We c Γ n1 te fun e n2 => ∀ av H y, Live av H → av c.a → Da c.toWc av H y e → ∀ Q : VK, (∀ z H' d, Same H H' → Da c.toWc av H' z d → k d n2 → Q z H') → r (.str z) [y] H Q) :
    We c Γ n (tM1 r to te) k := by
  intro ρ av o σ H S Q hQ
  refine h ρ av o σ H S _ fun x H1 d1 n1 S1 x1 h1 k1 => ?_
  obtain ⟨z, rfl, k1⟩ := k1
  cases h1
  refine ⟨⟨z, rfl⟩, ?_⟩
  refine k1 ρ av o σ H1 S1 _ fun y H2 d2 n2 S2 x2 h2 k2 => ?_
  refine k2 av H2 y S2.live S2.pa h2 Q fun z H3 d x3 h3 k3 => ?_
  exact hQ z H3 d n2 (S2.same x3) ((x1.trans x2).trans (Stp.same x3)) h3 k3
theorem DaAll.strs {c : Wc} {av : Addr → Prop} {H : Hp} : ∀ {ys : List Str} {vs : List V}, DaAll c av H vs (ys.map Dt.str) → vs = ys.map V.str
  | [], _, h => by cases h; rfl
  | b :: bs, _, h => by
    cases h with
    | cons h1 h2 =>
      cases h1
      rw [DaAll.strs h2]
      rfl
theorem DaAll.ofStrs {c : Wc} {av : Addr → Prop} {H : Hp} : ∀ (ys : List Str), DaAll c av H (ys.map V.str) (ys.map Dt.str)
  | [] => .nil
  | y :: ys => .cons (.str y) (DaAll.ofStrs ys)
/-- sep.join(list of texts) -/
theorem w_join {r : V → List V → Hp → VK → Prop} (hr : r = fun x xs H Q => ∃ a p, ∃ ys : List Str, x = .str a ∧ xs = [.ref p] ∧ (SqL c.K H p (ys.map V.str) ∨ SqT c.K H p (ys.map V.str)) ∧ (ys.map (·.length)).sum + ys.length * a.length ≤ 16777216 ∧ Q (.str (Txt.join a ys)) H)
    (h : We c Γ n to fun d n1 => ∃ z, d = .str z ∧ We c Γ n1 te fun e n2 => ∃ ys : List Str, e = .lst (ys.map Dt.str) ∧ (ys.map (·.length)).sum + ys.length * z.length ≤ 16777216 ∧ k (.str (Txt.join z ys)) n2) : We c Γ n (tM1 r to te) k := by
  refine w_m1 (h.mono fun d m q => ?_)
  obtain ⟨z, e1, q⟩ := q
  refine ⟨z, e1, q.mono fun d2 m2 q2 => ?_⟩
  obtain ⟨ys, e2, hz, q2⟩ := q2
  subst e2
  intro av H y lv pa da Q hq
  cases da with
  | lst a1 a2 a3 =>
    have e := a3.strs
    subst e
    rw [hr]
    exact ⟨z, _, ys, rfl, rfl, .inl (SqL.of a2), hz, hq _ H _ (Same.refl H) (.str _) q2⟩
/-- s.split(sep) -/
theorem w_split {r : V → List V → Hp → VK → Prop} (hr : r = fun x xs H Q => ∃ a b, x = .str a ∧ xs = [.str b] ∧ (b.length == 0) = false ∧ a.length + 2 ≤ sizeLine ∧ rNewStrs (Txt.split a b) H Q)
    (h : We c Γ n to fun d n1 => ∃ z, d = .str z ∧ We c Γ n1 te fun e n2 => ∃ b, e = .str b ∧ (b.length == 0) = false ∧ szOk (z.length + 2) = true ∧ k (.lst ((Txt.split z b).map Dt.str)) n2) : We c Γ n (tM1 r to te) k := by
  refine w_m1 (h.mono fun d m q => ?_)
  obtain ⟨z, e1, q⟩ := q
  refine ⟨z, e1, q.mono fun d2 m2 q2 => ?_⟩
  obtain ⟨b, e2, hb, hz, q2⟩ := q2
  subst e2
  intro av H y lv pa da Q hq
  cases da
  rw [hr]
  exact ⟨z, b, rfl, rfl, hb, szl hz, fun p hp => hq _ _ _ (same_new hp) (Da.newL lv hp (DaAll.ofStrs _)) q2⟩
end
end Pb
namespace Pb
open PySem PySem.Spec PyProof.Rows L2

/-! ### what is walked -/
/-- a list, a tuple or a text, by its value -/
def iSq (K : PySem.W.Frag) (te : TE) : TI := fun σ H R => te σ H fun v H1 =>
  (∃ a, v = .ref a ∧ (∃ xs, SqL K H1 a xs) ∧ R (Itl K a) H1) ∨ (∃ a, v = .ref a ∧ (∃ xs, SqT K H1 a xs) ∧ R (Itt K a) H1) ∨ ∃ x, v = .str x ∧ R (Its x) H1
theorem pi_sq {X : Cx} {tg l : Expr} {te : TE} (hl : PE X l te) : PI X tg l (iSq X.K te) := by
  constructor
  intro pins s σ H R I h
  refine thn (hl.run pins s σ H _ I h) ?_
  rintro v s1 ⟨y, H1, I1, r1, q⟩
  rcases q with ⟨a, rfl, ⟨xs, hq⟩, q⟩ | ⟨a, rfl, ⟨xs, hq⟩, q⟩ | ⟨x, rfl, q⟩
  · cases r1
    obtain ⟨its, rv, p, hz⟩ := I1.list hq
    refine wpAny_pyIter_list p.isList ?_
    exact pi_one (tk := s1.toks) I1 _ (turn_list a _) ⟨_, Heap.get?_push_size _ rfl, rfl, rfl⟩ q
  · cases r1
    obtain ⟨its, rv, p, hz⟩ := I1.tuple hq
    refine wpAny_pyIter_tuple (show s1.heap.IsTuple a its.toArray from p) ?_
    exact pi_one (tk := s1.toks) I1 _ (turn_tuple a _) ⟨_, Heap.get?_push_size _ rfl, rfl, rfl⟩ q
  · obtain ⟨t, rfl⟩ := r1
    cases ha : x.cps.all (· < 128)
    · exact wpAny_pyIter_wide ha (pi_one (tk := s1.toks) I1 _ (turn_str _ x t "str_iterator" (.inr rfl)) ⟨_, Heap.get?_push_size _ rfl, rfl, rfl⟩ q)
    · exact wpAny_pyIter_ascii ha (pi_one (tk := s1.toks) I1 _ (turn_str _ x t "str_ascii_iterator" (.inl rfl)) ⟨_, Heap.get?_push_size _ rfl, rfl, rfl⟩ q)
/-- an iterator, begun at H1, that gives the data ds one by one while what is not of av stays -/
structure ItD (c : Wc) (av : Addr → Prop) (H1 : Hp) (J : It) (ds : List Dt) : Prop where
  goes : ∀ i H, i < ds.length → Kp av H1 H → J.go i H
  stops : ∀ H, Kp av H1 H → J.stop ds.length H
  yields : ∀ i H x H' (av' : Addr → Prop), i < ds.length → Kp av H1 H → Kp av' H1 H → Live av' H → (∀ p, av' p → av p ∨ Fr H1 p) → J.yld i H x H' → Same H H' ∧ ∃ d, ds[i]? = some d ∧ Da c av' H' x d
section
variable {c : Wc} {av av' : Addr → Prop} {H : Hp}
theorem TupAt.widen {K : PySem.W.Frag} {p : Addr} {vs : List V} (k : ∀ p, av' p → av p ∨ Fr H p) (h : TupAt K av H p vs) : TupAt K av' H p vs := by
  rcases h with ⟨h1, h2⟩ | h
  · refine .inl ⟨fun z => (k p z).elim h1 fun e => ?_, h2⟩
    rcases h2 with h2 | ⟨o, h2⟩
    · exact absurd (e _ h2) Bool.false_ne_true
    · exact absurd (e _ h2) Bool.false_ne_true
  · exact .inr h
theorem ErAt.widen {p C : Addr} {fs : List (Str × V)} (k : ∀ p, av' p → av p ∨ Fr H p) (h : ErAt c av H p C fs) : ErAt c av' H p C fs := by
  rcases h with ⟨dd, h1, h2, h3⟩ | ⟨dd, h1, h2, h3, h4⟩
  · exact .inl ⟨dd, h1, fun z => (k _ z).elim h2 fun e => absurd (e _ h3) Bool.false_ne_true, h3⟩
  · exact .inr ⟨dd, fun z => (k _ z).elim h1 fun e => absurd (e _ h3) Bool.false_ne_true, fun z => (k _ z).elim h2 fun e => absurd (e _ h4) Bool.false_ne_true, h3, h4⟩
mutual
theorem Da.widen (k : ∀ p, av' p → av p ∨ Fr H p) : ∀ (d : Dt) (v : V), Da c av H v d → Da c av' H v d
  | .non, _, h => by cases h; exact .non
  | .bl _, _, h => by cases h; exact .bl _
  | .int _, _, h => by cases h; exact .int _
  | .str _, _, h => by cases h; exact .str _
  | .lst ds, _, h => by
    cases h with
    | lst h1 h2 h3 => exact .lst (fun z => (k _ z).elim h1 fun e => absurd (e _ h2) Bool.false_ne_true) h2 (DaAll.widen k ds _ h3)
  | .tup ds, _, h => by
    cases h with
    | tup h2 h3 => exact .tup (h2.widen k) (DaAll.widen k ds _ h3)
  | .dic ks ds, _, h => by
    cases h with
    | dic h1 h2 h3 h4 => exact .dic (fun z => (k _ z).elim h1 fun e => absurd (e _ h2) Bool.false_ne_true) h2 h3 (DaAll.widen k ds _ h4)
  | .obj cn ns ds, _, h => by
    cases h with
    | obj h1 h2 h3 h4 h5 => exact .obj (fun z => (k _ z).elim h1 fun e => absurd (e _ h3) Bool.false_ne_true) h2 h3 h4 (DaAll.widen k ds _ h5)
  | .err cn ns ds, _, h => by
    cases h with
    | err h1 h2 h3 h4 => exact .err (h1.widen k) h2 h3 (DaAll.widen k ds _ h4)
  | .pen, _, h => by cases h; exact .pen
theorem DaAll.widen (k : ∀ p, av' p → av p ∨ Fr H p) : ∀ (ds : List Dt) (vs : List V), DaAll c av H vs ds → DaAll c av' H vs ds
  | [], _, h => by cases h; exact .nil
  | d :: ds, _, h => by
    cases h with
    | cons h1 h2 => exact .cons (Da.widen k d _ h1) (DaAll.widen k ds _ h2)
end
theorem DaAll.get2 : ∀ {vs : List V} {ds : List Dt} {i : Nat} {v : V}, DaAll c av H vs ds → vs[i]? = some v → ∃ d, ds[i]? = some d ∧ Da c av H v d
  | _, _, 0, _, .cons h _, e => by
    rw [List.getElem?_cons_zero] at e
    cases e
    exact ⟨_, List.getElem?_cons_zero, h⟩
  | _, _, i + 1, _, .cons _ t, e => by
    rw [List.getElem?_cons_succ] at e
    obtain ⟨v, h1, h2⟩ := DaAll.get2 t e
    exact ⟨v, by rw [List.getElem?_cons_succ]; exact h1, h2⟩
  | _, _, _, _, .nil, e => by simp at e
theorem itd_list {p : Addr} {vs : List V} {ds : List Dt} (h1 : ¬ av p) (h2 : H p = some (.lst vs)) (h3 : DaAll c av H vs ds) : ItD c av H (Itl c.K p) ds where
  goes := fun i H' hi k => by
    rw [← h3.length] at hi
    exact ⟨vs, vs[i], SqL.of (k _ _ h1 h2 rfl), by simp [hi]⟩
  stops := fun H' k => ⟨vs, SqL.of (k _ _ h1 h2 rfl), by rw [h3.length]; exact Nat.le_refl _⟩
  yields := fun i H' x H'' av' hi k k' lv sub y => by
    obtain ⟨e, y⟩ := y
    subst e
    obtain ⟨d, q1, q2⟩ := h3.get2 (y vs (SqL.of (k _ _ h1 h2 rfl)))
    exact ⟨Same.refl _, d, q1, (q2.widen sub).keep k'⟩
theorem itd_tup {p : Addr} {vs : List V} {ds : List Dt} (h2 : TupAt c.K av H p vs) (h3 : DaAll c av H vs ds) : ItD c av H (Itt c.K p) ds where
  goes := fun i H' hi k => by
    rw [← h3.length] at hi
    exact ⟨vs, vs[i], (h2.keep k).sq, by simp [hi]⟩
  stops := fun H' k => ⟨vs, (h2.keep k).sq, by rw [h3.length]; exact Nat.le_refl _⟩
  yields := fun i H' x H'' av' hi k k' lv sub y => by
    obtain ⟨e, y⟩ := y
    subst e
    obtain ⟨d, q1, q2⟩ := h3.get2 (y vs (h2.keep k).sq)
    exact ⟨Same.refl _, d, q1, (q2.widen sub).keep k'⟩
/-- the signs of a text -/
def signs (z : Str) : List Dt := z.cps.toList.map fun s => .str ⟨#[s]⟩
theorem itd_str {z : Str} : ItD c av H (Its z) (signs z) where
  goes := fun i H' hi k => by
    unfold signs at hi
    rw [List.length_map, Array.length_toList] at hi
    exact hi
  stops := fun H' k => by
    show z.cps.size ≤ (signs z).length
    unfold signs
    rw [List.length_map, Array.length_toList]
    exact Nat.le_refl _
  yields := fun i H' x H'' av' hi k k' lv sub y => by
    obtain ⟨e, s, hs, ex⟩ := y
    subst e ex
    refine ⟨Same.refl _, .str ⟨#[s]⟩, ?_, .str _⟩
    unfold signs
    rw [List.getElem?_map, Array.getElem?_toList, hs]
    rfl
/-- lo, lo + 1, .. (m of them) -/
def upTo (lo : Int) (m : Nat) : List Dt := (List.range m).map fun i => .int (lo + (i : Nat))
theorem upTo_length (lo : Int) (m : Nat) : (upTo lo m).length = m := by
  unfold upTo
  rw [List.length_map, List.length_range]
theorem upTo_get {lo : Int} {m i : Nat} (h : i < m) : (upTo lo m)[i]? = some (.int (lo + (i : Nat))) := by
  unfold upTo
  rw [List.getElem?_map, List.getElem?_range h]
  rfl
theorem itd_rng {lo : Int} {m : Nat} : ItD c av H (Itr lo m) (upTo lo m) where
  goes := fun i H' hi k => by
    rw [upTo_length] at hi
    exact hi
  stops := fun H' k => by
    show m ≤ (upTo lo m).length
    rw [upTo_length]
    exact Nat.le_refl _
  yields := fun i H' x H'' av' hi k k' lv sub y => by
    obtain ⟨e, ex⟩ := y
    subst e ex
    rw [upTo_length] at hi
    exact ⟨Same.refl _, _, upTo_get hi, .int _⟩
end
def Wi (c : Fc) (Γ : List Sl) (n : Nat) (wi : TI) (k : List Dt → Nat → Prop) : Prop := ∀ ρ av o σ H, SS c ρ av o Γ n σ H → ∀ R : It → Hp → Prop,
  (∀ J H' ds n', SS c ρ av o Γ n' σ H' → Stp c.a H H' → ItD c.toWc av H' J ds → k ds n' → R J H') → wi σ H R
def seqD : Dt → Option (List Dt)
  | .lst ds => some ds
  | .tup ds => some ds
  | .str z => some (signs z)
  | _ => none
section
variable {c : Fc} {Γ : List Sl} {n : Nat} {k : List Dt → Nat → Prop} {te : TE} {ta : TA}
theorem wi_sq (h : We c Γ n te fun d m => ∃ ds, seqD d = some ds ∧ k ds m) : Wi c Γ n (iSq c.K te) k := by
  intro ρ av o σ H S R q
  refine h ρ av o σ H S _ fun v H' d m S' x h' kk => ?_
  obtain ⟨ds, e, kk⟩ := kk
  cases h' with
  | lst h1 h2 h3 =>
    cases e
    exact .inl ⟨_, rfl, ⟨_, SqL.of h2⟩, q _ H' _ m S' x (itd_list h1 h2 h3) kk⟩
  | tup h2 h3 =>
    cases e
    exact .inr (.inl ⟨_, rfl, ⟨_, h2.sq⟩, q _ H' _ m S' x (itd_tup h2 h3) kk⟩)
  | str z =>
    cases e
    exact .inr (.inr ⟨_, rfl, q _ H' _ m S' x itd_str kk⟩)
  | _ => cases e
theorem wi_rng1 (h : Wa c Γ n ta fun ds m => ∃ j : Int, ds = [.int j] ∧ (-(2 ^ 62) ≤ j ∧ j < 2 ^ 62) ∧ k (upTo 0 j.toNat) m) : Wi c Γ n (iRng1 ta) k := by
  intro ρ av o σ H S R q
  refine h ρ av o σ H S _ fun vs H' ds m S' x h' kk => ?_
  obtain ⟨j, rfl, hj, kk⟩ := kk
  cases h' with
  | cons a b =>
    cases a; cases b
    exact ⟨j, rfl, hj.1, hj.2, q _ H' _ m S' x itd_rng kk⟩
theorem wi_rng2 (h : Wa c Γ n ta fun ds m => ∃ i j : Int, ds = [.int i, .int j] ∧ (-(2 ^ 62) ≤ i ∧ i < 2 ^ 62 ∧ -(2 ^ 62) ≤ j ∧ j < 2 ^ 62) ∧ k (upTo i (j - i).toNat) m) : Wi c Γ n (iRng2 ta) k := by
  intro ρ av o σ H S R q
  refine h ρ av o σ H S _ fun vs H' ds m S' x h' kk => ?_
  obtain ⟨i, j, rfl, hj, kk⟩ := kk
  cases h' with
  | cons a b =>
    cases b with
    | cons b' bb =>
      cases a; cases b'; cases bb
      exact ⟨i, j, rfl, hj, q _ H' _ m S' x itd_rng kk⟩
end

/-! ### targets -/
/-- σ' is σ but at the places js -/
def But (js : List Nat) (σ σ' : L2.St) : Prop := σ'.length = σ.length ∧ ∀ i : Nat, i ∉ js → σ'[i]? = σ[i]?
def Wg (c : Fc) (Γ : List Sl) (n : Nat) (js : List Nat) (g : TG) (d : Dt) (k : List Sl → Nat → Prop) : Prop := ∀ ρ av o σ H v, SS c ρ av o Γ n σ H → Da c.toWc av H v d → ∀ Q : L2.St → Hp → Prop,
  (∀ Γ' σ', SS c ρ av o Γ' n σ' H → But js σ σ' → k Γ' n → Q σ' H) → g v σ H Q
def Wgs (c : Fc) (Γ : List Sl) (n : Nat) (js : List Nat) (g : TGs) (ds : List Dt) (k : List Sl → Nat → Prop) : Prop := ∀ ρ av o σ H vs, SS c ρ av o Γ n σ H → DaAll c.toWc av H vs ds → ∀ Q : L2.St → Hp → Prop,
  (∀ Γ' σ', SS c ρ av o Γ' n σ' H → But js σ σ' → k Γ' n → Q σ' H) → g vs σ H Q
section
variable {c : Fc} {Γ : List Sl} {n i : Nat} {js ks : List Nat} {d : Dt} {ds : List Dt} {k : List Sl → Nat → Prop} {g : TG} {gs : TGs} {te : TE} {N : Nd}
theorem But.set {σ : L2.St} {v : Option V} : But [i] σ (σ.set i v) := ⟨List.length_set, fun j hj => List.getElem?_set_ne (fun e => hj (by simp [e]))⟩
theorem But.refl {σ : L2.St} : But js σ σ := ⟨rfl, fun _ _ => rfl⟩
theorem But.trans {σ σ1 σ2 : L2.St} (a : But js σ σ1) (b : But ks σ1 σ2) : But (js ++ ks) σ σ2 := ⟨b.1.trans a.1, fun i hi => (b.2 i fun z => hi (List.mem_append_right _ z)).trans (a.2 i fun z => hi (List.mem_append_left _ z))⟩
theorem wg_name (h : k (Γ.set i (.da d)) n) : Wg c Γ n [i] (gName i) d k := fun ρ av o σ H v S da Q q => q _ _ (S.set i da) But.set h
theorem wgs_nil (h : k Γ n) : Wgs c Γ n [] gNil [] k := fun ρ av o σ H vs S da Q q => by
  cases da
  exact ⟨rfl, q Γ σ S But.refl h⟩
theorem wgs_cons (h : Wg c Γ n js g d fun Γ' n' => Wgs c Γ' n' ks gs ds k) : Wgs c Γ n (js ++ ks) (gCons g gs) (d :: ds) k := fun ρ av o σ H vs S da Q q => by
  cases da with
  | cons h1 h2 =>
    refine ⟨_, _, rfl, h ρ av o σ H _ S h1 _ fun Γ' σ' S' b k' => ?_⟩
    exact k' ρ av o σ' H _ S' h2 _ fun Γ2 σ2 S2 b2 k2 => q Γ2 σ2 S2 (b.trans b2) k2
theorem wg_tup {m : Nat} (hm : ds.length = m) (h : Wgs c Γ n js gs ds k) : Wg c Γ n js (gTup c.K m gs) (.tup ds) k := fun ρ av o σ H v S da Q q => by
  cases da with
  | tup h2 h3 => exact ⟨_, _, rfl, h2.sq, by rw [h3.length]; exact hm, h ρ av o σ H _ S h3 Q q⟩
/-- a, b = .. -/
theorem w_asgG (h : We c Γ n te fun d n' => Wg c Γ n' js g d N.nx) : Ws c Γ n (tAsg te g) N := by
  intro ρ av o σ H S D L
  refine h ρ av o σ H S _ fun v H' d n' S' x h' k' => ?_
  exact k' ρ av o σ H' v S' h' _ fun Γ' σ' S2 _ q => L.nx av o _ n' _ H' S2 q
theorem w_par {i j : Nat} {ta : TA} (h : Wa c Γ n ta fun ds n' => ∃ d e, ds = [d, e] ∧ N.nx ((Γ.set i (.da d)).set j (.da e)) n') : Ws c Γ n (tPar i j ta) N := by
  intro ρ av o σ H S D L
  refine h ρ av o σ H S _ fun vs H' ds n' S' x h' k' => ?_
  obtain ⟨d, e, rfl, k'⟩ := k'
  cases h' with
  | cons a b =>
    cases b with
    | cons b bb =>
      cases bb
      exact ⟨_, _, rfl, L.nx av o _ n' _ H' ((S'.set i a).set j b) k'⟩
end

/-! ### loops -/
def outS : Sl → Sl
  | .ol _ ds => .ol true ds
  | s => s
def inS : Sl → Sl → Sl
  | .ol b _, .ol true ds => .ol b ds
  | .un, .ol true _ => .un
  | .da _, .ol true _ => .un
  | _, s => s
/-- behind a loop: the lists that were one's own ahead of it -/
def back (Γ Γ' : List Sl) : List Sl := List.zipWith inS Γ Γ'
section
variable {c : Fc} {ρ : Rt} {av : Addr → Prop} {o : Nat → Addr} {Γ : List Sl} {n : Nat} {σ : L2.St} {H : Hp}
/-- the root of a loop -/
def SS.root (_ : SS c ρ av o Γ n σ H) : Rt := ⟨H, av, fun p => p = c.a ∨ ∃ (i : Nat) (b : Bool) (ds : List Dt), Γ[i]? = some (Sl.ol b ds) ∧ o i = p, o, ρ.rv, ρ.ln⟩
theorem SS.root_kp (S : SS c ρ av o Γ n σ H) {H' : Hp} (k : Kp S.root.mt H H') : Kp ρ.mt ρ.H0 H' := by
  intro b u hb e t
  refine k b u ?_ (S.kp b u hb e t) t
  rintro (z | ⟨i, out, ds, h1, h2⟩)
  · exact hb (z ▸ S.pm)
  · obtain ⟨_, _, h3, _⟩ := S.own i out ds h1
    rw [h2] at h3
    cases out with
    | true => exact hb h3.1
    | false =>
      have h3' : Fr ρ.H0 b := h3.1
      rw [h3' u e] at t
      cases t
theorem SS.root_mt (S : SS c ρ av o Γ n σ H) : ∀ p, S.root.mt p → av p := by
  rintro p (z | ⟨i, out, ds, h1, h2⟩)
  · exact z ▸ S.pa
  · rw [← h2]
    exact (S.own i out ds h1).2.1
theorem SS.enter (S : SS c ρ av o Γ n σ H) : SS c S.root av o (Γ.map outS) n σ H := by
  have back : ∀ (i : Nat) (s : Sl), (Γ.map outS)[i]? = some s → ∃ s', Γ[i]? = some s' ∧ outS s' = s := fun i s h => by
    rw [List.getElem?_map] at h
    cases e : Γ[i]? with
    | none => rw [e] at h; cases h
    | some s' => rw [e] at h; exact ⟨s', rfl, Option.some.inj h⟩
  have bol : ∀ (i : Nat) (b : Bool) (ds : List Dt), (Γ.map outS)[i]? = some (Sl.ol b ds) → b = true ∧ ∃ b', Γ[i]? = some (Sl.ol b' ds) := fun i b ds h => by
    obtain ⟨s', h1, h2⟩ := back i _ h
    cases s' with
    | ol b' es => cases h2; exact ⟨rfl, b', h1⟩
    | un => cases h2
    | da => cases h2
  exact {
    len := by rw [List.length_map]; exact S.len
    gl := by rw [List.length_map]; exact S.gl
    pa := S.pa
    pl := S.pl
    pm := .inl rfl
    sub := fun p h => h
    rsub := S.rsub
    msub := S.root_mt
    asub := fun p h => .inl h
    live := S.live
    live0 := S.live
    pen := S.pen
    kp := Kp.refl _ _
    ex := fun cn C x H' fs es n' h1 h2 h3 h4 h5 h6 => S.ex cn C x H' fs es n' h1 (S.root_kp h2) h3 h4 h5 h6
    dat := fun i d h => by
      obtain ⟨s', h1, h2⟩ := back i _ h
      cases s' with
      | da e =>
        cases h2
        exact S.dat i _ h1
      | un => cases h2
      | ol => cases h2
    own := fun i b ds h => by
      obtain ⟨e, b', h1⟩ := bol i b ds h
      subst e
      obtain ⟨q1, q2, q3, q4, q0, vs, q5, q6⟩ := S.own i b' ds h1
      have m : S.root.mt (o i) := .inr ⟨i, b', ds, h1, rfl⟩
      exact ⟨q1, q2, ⟨m, rfl⟩, q4, q0, vs, q5, q6⟩
    inj := fun i j b b' ds es h1 h2 e => by
      obtain ⟨_, b1, k1⟩ := bol i b ds h1
      obtain ⟨_, b2, k2⟩ := bol j b' es h2
      exact S.inj i j b1 b2 ds es k1 k2 e }
theorem zip_get {Γ Γ' : List Sl} {i : Nat} {s : Sl} (h : (back Γ Γ')[i]? = some s) : ∃ s1 s2, Γ[i]? = some s1 ∧ Γ'[i]? = some s2 ∧ inS s1 s2 = s := by
  unfold back at h
  rw [List.getElem?_zipWith] at h
  cases e1 : Γ[i]? with
  | none => rw [e1] at h; cases h
  | some s1 =>
    cases e2 : Γ'[i]? with
    | none => rw [e1, e2] at h; cases h
    | some s2 => rw [e1, e2] at h; exact ⟨s1, s2, rfl, rfl, Option.some.inj h⟩
/-- out of a loop -/
theorem SS.leave (S : SS c ρ av o Γ n σ H) {av' : Addr → Prop} {o' : Nat → Addr} {Γ' : List Sl} {n' : Nat} {σ' : L2.St} {H' : Hp} (S' : SS c S.root av' o' Γ' n' σ' H') : SS c ρ av' o' (back Γ Γ') n' σ' H' := by
  have hl : Γ'.length = Γ.length := S'.gl.trans S.gl.symm
  have bol : ∀ (i : Nat) (b : Bool) (ds : List Dt), (back Γ Γ')[i]? = some (Sl.ol b ds) → (Γ'[i]? = some (Sl.ol true ds) ∧ ∃ es, Γ[i]? = some (Sl.ol b es)) ∨ (b = false ∧ Γ'[i]? = some (Sl.ol false ds)) := fun i b ds h => by
    obtain ⟨s1, s2, e1, e2, e3⟩ := zip_get h
    cases s2 with
    | un => cases s1 <;> cases e3
    | da _ => cases s1 <;> cases e3
    | ol b2 d2 =>
      cases b2 with
      | true =>
        cases s1 with
        | un => cases e3
        | da _ => cases e3
        | ol b1 d1 => cases e3; exact .inl ⟨e2, _, e1⟩
      | false =>
        cases s1 with
        | un => cases e3; exact .inr ⟨rfl, e2⟩
        | da _ => cases e3; exact .inr ⟨rfl, e2⟩
        | ol b1 d1 => cases e3; exact .inr ⟨rfl, e2⟩
  have bol2 : ∀ (i : Nat) (b : Bool) (ds : List Dt), (back Γ Γ')[i]? = some (Sl.ol b ds) → ∃ b', Γ'[i]? = some (Sl.ol b' ds) := fun i b ds h => (bol i b ds h).elim (fun z => ⟨_, z.1⟩) fun z => ⟨_, z.2⟩
  have bda : ∀ (i : Nat) (d : Dt), (back Γ Γ')[i]? = some (Sl.da d) → Γ'[i]? = some (Sl.da d) := fun i d h => by
    obtain ⟨s1, s2, e1, e2, e3⟩ := zip_get h
    cases s2 with
    | un => cases s1 <;> cases e3
    | da _ => cases s1 <;> (cases e3; exact e2)
    | ol b2 d2 => cases b2 <;> cases s1 <;> cases e3
  have nm : ∀ p, Fr H p → ¬ ρ.mt p := fun p hp q => by
    obtain ⟨o, e, t⟩ := S.live p (S.msub p q)
    rw [hp o e] at t
    cases t
  have h0 : ∀ p, Fr H p → Fr ρ.H0 p := fun p hp u e => by
    cases t : isT u with
    | true => rfl
    | false => exact t.symm.trans (hp u (S.kp p u (nm p hp) e t))
  exact {
    len := by
      unfold back
      rw [List.length_zipWith, hl, Nat.min_self, ← hl]
      exact S'.len
    gl := by
      unfold back
      rw [List.length_zipWith, hl, Nat.min_self]
      exact S.gl
    pa := S'.pa
    pl := S'.pl
    pm := S.pm
    sub := fun p h => S'.sub p (S.sub p h)
    rsub := S'.rsub
    msub := fun p h => S'.sub p (S.msub p h)
    asub := fun p h => (S'.asub p h).elim (S.asub p) fun z => z.elim (fun z => S.asub p (S.root_mt p z)) fun z => .inr (.inr (h0 p z))
    live := S'.live
    live0 := S.live0
    pen := S'.pen
    kp := S.root_kp S'.kp
    ex := S.ex
    dat := fun i d h => S'.dat i d (bda i d h)
    own := fun i b ds h => by
      rcases bol i b ds h with ⟨h2, es, h1⟩ | ⟨hb, h2⟩
      · obtain ⟨q1, q2, q3, q4, q5⟩ := S'.own i true ds h2
        obtain ⟨r1, r2, r3, r4, r5⟩ := S.own i b es h1
        have e : o' i = o i := q3.2
        rw [← e] at r3
        exact ⟨q1, q2, r3, q4, q5⟩
      · subst hb
        obtain ⟨q1, q2, q3, q4, q5⟩ := S'.own i false ds h2
        have q3' : Fr H (o' i) := q3.1
        exact ⟨q1, q2, ⟨h0 _ q3', nm _ q3'⟩, q4, q5⟩
    inj := fun i j b b' ds es h1 h2 e => by
      obtain ⟨b1, k1⟩ := bol2 i b ds h1
      obtain ⟨b2, k2⟩ := bol2 j b' es h2
      exact S'.inj i j b1 b2 ds es k1 k2 e }
theorem back_length {Γ Γ' : List Sl} (hl : Γ'.length = Γ.length) : (back Γ Γ').length = Γ.length := by
  unfold back
  rw [List.length_zipWith, hl, Nat.min_self]
end
/-- THE RULE for a for: I by the turn -/
theorem w_for {c : Fc} {Γ : List Sl} {n : Nat} {wi : TI} {js : List Nat} {g : TG} {tb : TS} {N : Nd}
    (h : Wi c Γ n wi fun ds n1 => ∃ I : Nat → List Sl → Nat → Prop, I 0 (Γ.map outS) n1 ∧
      (∀ i Γ' m d, ds[i]? = some d → Γ'.length = Γ.length → I i Γ' m → Wg c Γ' m js g d fun Γ2 m2 => Ws c Γ2 m2 tb { nx := I (i + 1), ct := I (i + 1), rt := N.rt, bk := fun Γ3 m3 => N.nx (back Γ Γ3) m3 }) ∧
      (∀ Γ' m, Γ'.length = Γ.length → I ds.length Γ' m → N.nx (back Γ Γ') m)) : Ws c Γ n (tFor wi g tb) N := by
  intro ρ av o σ H S D L
  refine h ρ av o σ H S _ fun J H1 ds n1 S1 x1 it hk => ?_
  obtain ⟨I, i0, turn, done⟩ := hk
  have ln : ∀ {av' o' Γ' n' σ' H'}, SS c S1.root av' o' Γ' n' σ' H' → Γ'.length = Γ.length := fun S' => S'.gl.trans S.gl.symm
  refine ⟨fun i m σ' H' => m = ds.length - i ∧ i ≤ ds.length ∧ ∃ av' o' Γ' n', SS c S1.root av' o' Γ' n' σ' H' ∧ I i Γ' n', ⟨ds.length, by simp, Nat.zero_le _, av, o, _, n1, S1.enter, i0⟩, ?_⟩
  rintro i m σ' H' ⟨rfl, hi, av', o', Γ', n', S', ii⟩
  have kpr : Kp S1.root.mt H1 H' := S'.kp
  have kpa : Kp av H1 H' := kpr.more S1.root_mt
  have kpv : Kp av' H1 H' := kpr.more S'.msub
  by_cases hlt : i < ds.length
  · refine .inr ⟨it.goes i H' hlt kpa, fun σ2 H2 => ∃ av2 o2 Γ2 n2, SS c S1.root av2 o2 Γ2 n2 σ2 H2 ∧ I (i + 1) Γ2 n2, fun σ2 H2 q => ⟨ds.length - (i + 1), by omega, rfl, hlt, q⟩, ?_⟩
    intro x H2 y
    obtain ⟨sm, d, hd, da⟩ := it.yields i H' x H2 av' hlt kpa kpv S'.live (fun p hp => (S'.asub p hp).elim .inl fun z => z.elim (fun z => .inl (S1.root_mt p z)) .inr) y
    have S2 := S'.same sm
    refine turn i Γ' n' d hd (ln S') ii S1.root av' o' σ' H2 x S2 da _ fun Γ2 σ2 S3 bt ws => ?_
    refine ws S1.root av' o' σ2 H2 S3 _ ⟨fun av3 o3 Γ3 n3 σ3 H3 S4 q => ?_, fun av3 v H3 d3 n3 sub kp pn da3 q => ?_, fun av3 o3 Γ3 n3 σ3 H3 S4 q => ?_, fun av3 o3 Γ3 n3 σ3 H3 S4 q => ?_⟩
    · exact ⟨av3, o3, Γ3, n3, S4, q⟩
    · exact L.rt av3 v H3 d3 n3 sub (S1.root_kp kp) pn da3 q
    · exact L.nx av3 o3 _ n3 σ3 H3 (S1.leave S4) q
    · exact ⟨av3, o3, Γ3, n3, S4, q⟩
  · have e : i = ds.length := by omega
    subst e
    exact .inl ⟨it.stops H' kpa, L.nx av' o' _ n' σ' H' (S1.leave S') (done Γ' n' (ln S') ii)⟩
/-- THE RULE for a while: I by a number that falls -/
theorem w_while {c : Fc} {Γ : List Sl} {n : Nat} {tc : TT} {tb : TS} {N : Nd} (I : Nat → List Sl → Nat → Prop) (h0 : ∃ m, I m Γ n)
    (hs : ∀ m Γ' n', Γ'.length = Γ.length → I m Γ' n' → Wt c Γ' n' tc fun b n2 => if b = true then Ws c Γ' n2 tb { nx := fun Γ2 n3 => ∃ m', m' < m ∧ I m' Γ2 n3, ct := fun Γ2 n3 => ∃ m', m' < m ∧ I m' Γ2 n3, rt := N.rt, bk := N.nx } else N.nx Γ' n2) :
    Ws c Γ n (tWhile tc tb) N := by
  intro ρ av o σ H S D L
  obtain ⟨m0, i0⟩ := h0
  refine ⟨fun m σ' H' => ∃ av' o' Γ' n', SS c ρ av' o' Γ' n' σ' H' ∧ I m Γ' n', ⟨m0, av, o, Γ, n, S, i0⟩, ?_⟩
  rintro m σ' H' ⟨av', o', Γ', n', S', ii⟩
  refine hs m Γ' n' (S'.gl.trans S.gl.symm) ii ρ av' o' σ' H' S' _ fun b H2 n2 S2 x2 q => ?_
  cases b with
  | false => exact L.nx av' o' Γ' n2 σ' H2 S2 q
  | true =>
    refine ⟨fun σ3 H3 => ∃ m', m' < m ∧ ∃ av3 o3 Γ3 n3, SS c ρ av3 o3 Γ3 n3 σ3 H3 ∧ I m' Γ3 n3, fun σ3 H3 z => z, ?_⟩
    refine q ρ av' o' σ' H2 S2 _ ⟨fun av3 o3 Γ3 n3 σ3 H3 S4 z => ?_, L.rt, L.nx, fun av3 o3 Γ3 n3 σ3 H3 S4 z => ?_⟩
    · obtain ⟨m', hm, z⟩ := z
      exact ⟨m', hm, av3, o3, Γ3, n3, S4, z⟩
    · obtain ⟨m', hm, z⟩ := z
      exact ⟨m', hm, av3, o3, Γ3, n3, S4, z⟩
end Pb
namespace Pb
open PySem PySem.Spec PyProof.Rows L2

/-! ### comprehensions -/
theorem wipe_in {σ : L2.St} {i : Nat} : ∀ {vs : List Nat}, i ∈ vs → i < σ.length → (wipe σ vs)[i]? = some none
  | v :: vs, h, hl => by
    unfold wipe
    by_cases e : v = i
    · subst e
      exact List.getElem?_set_self (by rw [wipe_length]; exact hl)
    · rw [List.getElem?_set_ne e]
      rcases List.mem_cons.mp h with z | z
      · exact absurd z.symm e
      · exact wipe_in z hl
theorem wipe_eq {σ τ : L2.St} {vs : List Nat} (hl : σ.length = τ.length) (h : ∀ i : Nat, i ∉ vs → σ[i]? = τ[i]?) : wipe σ vs = wipe τ vs := by
  apply List.ext_getElem?
  intro i
  by_cases hi : i ∈ vs
  · by_cases hz : i < σ.length
    · rw [wipe_in hi hz, wipe_in hi (hl ▸ hz)]
    · rw [List.getElem?_eq_none (by rw [wipe_length]; omega), List.getElem?_eq_none (by rw [wipe_length]; omega)]
  · rw [wipe_out hi, wipe_out hi]
    exact h i hi
theorem wipe_but {σ σ2 : L2.St} {vs js : List Nat} (b : But js (wipe σ vs) σ2) (hj : ∀ j ∈ js, j ∈ vs) : wipe σ2 vs = wipe σ vs := by
  refine wipe_eq (b.1.trans (wipe_length σ vs)) fun i hi => ?_
  rw [b.2 i fun z => hi (hj i z), wipe_out hi]
def wipeG (Γ : List Sl) : List Nat → List Sl
  | [] => Γ
  | v :: vs => (wipeG Γ vs).set v .un
theorem wipeG_length (Γ : List Sl) : ∀ vs : List Nat, (wipeG Γ vs).length = Γ.length
  | [] => rfl
  | v :: vs => by unfold wipeG; rw [List.length_set, wipeG_length Γ vs]
theorem wipeG_some {Γ : List Sl} {i : Nat} {s : Sl} : ∀ {vs : List Nat}, (wipeG Γ vs)[i]? = some s → s = .un ∨ (Γ[i]? = some s ∧ i ∉ vs)
  | [], h => .inr ⟨h, by simp⟩
  | v :: vs, h => by
    unfold wipeG at h
    by_cases e : v = i
    · subst e
      have hl : v < (wipeG Γ vs).length := by
        have := (List.getElem?_eq_some_iff.mp h).1
        rwa [List.length_set] at this
      rw [List.getElem?_set_self hl] at h
      cases h
      exact .inl rfl
    · rw [List.getElem?_set_ne e] at h
      rcases wipeG_some h with z | ⟨z1, z2⟩
      · exact .inl z
      · exact .inr ⟨z1, fun z => (List.mem_cons.mp z).elim (fun q => e q.symm) z2⟩
section
variable {c : Fc} {ρ : Rt} {av : Addr → Prop} {o : Nat → Addr} {Γ : List Sl} {n : Nat} {σ : L2.St} {H : Hp}
theorem SS.wipe (S : SS c ρ av o Γ n σ H) (vs : List Nat) : SS c ρ av o (wipeG Γ vs) n (L2.wipe σ vs) H :=
  S.forget (by rw [wipe_length, wipeG_length]; exact S.len) (wipeG_length Γ vs) fun i s h => (wipeG_some h).elim .inl fun z => .inr ⟨z.1, wipe_out z.2⟩
theorem SS.fresh0 (S : SS c ρ av o Γ n σ H) {p : Addr} (hp : H p = none) : Fr ρ.H0 p := fun u e => by
  have nm : ¬ ρ.mt p := fun q => S.live.new hp (S.msub p q)
  cases t : isT u with
  | true => rfl
  | false =>
    have z := S.kp p u nm e t
    rw [hp] at z
    cases z
/-- a new list, kept apart -/
theorem SS.apart (S : SS c ρ av o Γ n σ H) {p : Addr} (hp : H p = none) (u : HO) (hu : isT u = false := by rfl) : SS c ρ (fun q => av q ∨ q = p) o Γ n σ (upd H p u) where
  len := S.len
  gl := S.gl
  pa := .inl S.pa
  pl := fun z => z.elim S.pl fun e => by
    obtain ⟨_, _, _, q, _⟩ := S.pen
    rw [e, hp] at q
    cases q
  pm := S.pm
  sub := fun q h => .inl (S.sub q h)
  rsub := fun q h => .inl (S.rsub q h)
  msub := fun q h => .inl (S.msub q h)
  asub := fun q h => h.elim (S.asub q) fun e => .inr (.inr (e ▸ S.fresh0 hp))
  live := fun q h => h.elim (S.live.same (same_new hp) q) fun e => ⟨u, by rw [e, upd_same], hu⟩
  live0 := S.live0
  pen := S.pen.same (same_new hp)
  kp := S.kp.trans (same_kp (same_new hp))
  ex := S.ex
  dat := fun i d h => by
    obtain ⟨v, h1, h2⟩ := S.dat i d h
    exact ⟨v, h1, (h2.more hp).keep (same_kp (same_new hp))⟩
  own := fun i b ds h => by
    obtain ⟨h1, h2, h3, h4, h0, vs, h5, h6⟩ := S.own i b ds h
    exact ⟨h1, .inl h2, h3, h4, h0, vs, same_new hp _ _ h5, (h6.more hp).keep (same_kp (same_new hp))⟩
  inj := S.inj
/-- a list that is kept apart, and is in no slot, changes -/
theorem SS.turn (S : SS c ρ av o Γ n σ H) {p : Addr} (ha : av p) (h0 : Fr ρ.H0 p) (hpa : p ≠ c.a ∧ p ≠ c.l) (ho : ∀ (i : Nat) (b : Bool) (ds : List Dt), Γ[i]? = some (Sl.ol b ds) → o i ≠ p) {w0 : HO} (hw : H p = some w0) (ht : isT w0 = false) (hc : isC w0 = false) (u : HO) (hu : isT u = false) : SS c ρ av o Γ n σ (upd H p u) := by
  have kp : Kp av H (upd H p u) := fun b w hb e _ => by
    have hne : b ≠ p := fun z => hb (by rw [z]; exact ha)
    rw [upd_ne hne]
    exact e
  exact {
    len := S.len
    gl := S.gl
    pa := S.pa
    pl := S.pl
    pm := S.pm
    sub := S.sub
    rsub := S.rsub
    msub := S.msub
    asub := S.asub
    live := fun q h => by
      by_cases e : q = p
      · exact ⟨u, by rw [e, upd_same], hu⟩
      · rw [upd_ne e]; exact S.live q h
    live0 := S.live0
    pen := S.pen.upd hpa.1 hpa.2 hw ht hc
    kp := fun b w hb e t => by
      have hne : b ≠ p := fun z => by
        rw [z] at e
        rw [h0 w e] at t
        cases t
      rw [upd_ne hne]
      exact S.kp b w hb e t
    ex := S.ex
    dat := fun i d h => by
      obtain ⟨v, h1, h2⟩ := S.dat i d h
      exact ⟨v, h1, h2.keep kp⟩
    own := fun i b ds h => by
      obtain ⟨h1, h2, h3, h4, h0, vs, h5, h6⟩ := S.own i b ds h
      exact ⟨h1, h2, h3, h4, h0, vs, by rw [upd_ne (ho i b ds h)]; exact h5, h6.keep kp⟩
    inj := S.inj }
end
/-- a new list, told to the taker -/
def Wn (c : Fc) (Γ : List Sl) (n : Nat) (te : TE) (k : List Dt → Nat → Prop) : Prop := ∀ ρ av o σ H, SS c ρ av o Γ n σ H → ∀ Q : VK,
  (∀ p vs H' ds n', SS c ρ (fun q => av q ∨ q = p) o Γ n' σ H' → ¬ av p → Stp c.a H H' → Fr ρ.H0 p → H' p = some (.lst vs) → DaAll c.toWc (fun q => av q ∨ q = p) H' vs ds → k ds n' → Q (.ref p) H') → te σ H Q
/-- szOk of one more -/
def szLt (n : Nat) : Bool := Nat.blt n 16777216
theorem szlt {n : Nat} (h : szLt n = true) : n < sizeLine := by
  rw [sizeLine_eq]
  exact Nat.le_of_ble_eq_true h
section
variable {c : Fc} {Γ : List Sl} {n : Nat} {k : Kd} {wi : TI} {g : TG} {tt : TT} {te : TE} {vs js : List Nat} {ta : TA}
/-- what is asked of a comprehension: I by the turn, the list so far, the draws left -/
def LcAsk (c : Fc) (Γ : List Sl) (js vs : List Nat) (g : TG) (tt : TT) (te : TE) (ds : List Dt) (n : Nat) (k : List Dt → Nat → Prop) : Prop := ∃ I : Nat → List Dt → Nat → Prop, I 0 [] n ∧
  (∀ i es m d, ds[i]? = some d → I i es m → Wg c (wipeG Γ vs) m js g d fun Γ2 m2 => Wt c Γ2 m2 tt fun b m3 => if b = true then We c Γ2 m3 te fun e m4 => szLt es.length = true ∧ I (i + 1) (es ++ [e]) m4 else I (i + 1) es m3) ∧
  ∀ es m, I ds.length es m → k es m
theorem wn_lc {k : List Dt → Nat → Prop} (hj : ∀ j ∈ js, j ∈ vs) (h : Wi c Γ n wi fun ds n1 => LcAsk c Γ js vs g tt te ds n1 k) : Wn c Γ n (tLc wi g tt te vs) k := by
  intro ρ av o σ H S Q hQ
  refine h ρ av o σ H S _ fun J H1 ds n1 S1 x1 it hk => ?_
  obtain ⟨I, i0, turn, done⟩ := hk
  intro D hD
  have nD : ¬ av D := S1.live.new hD
  have h0 := S1.fresh0 hD
  have nDa : D ≠ c.a ∧ D ≠ c.l := ⟨fun z => nD (z ▸ S1.pa), fun z => by
    obtain ⟨_, _, _, q, _⟩ := S1.pen
    rw [← z, hD] at q
    cases q⟩
  have SD := S1.apart hD (.lst [])
  have nDo : ∀ (i : Nat) (b : Bool) (zs : List Dt), Γ[i]? = some (Sl.ol b zs) → o i ≠ D := fun i b zs q z => nD (z ▸ (S1.own i b zs q).2.1)
  refine ⟨fun i m H' => m = ds.length - i ∧ i ≤ ds.length ∧ ∃ acc es n', SS c ρ (fun q => av q ∨ q = D) o Γ n' σ H' ∧ Kp (fun q => q = c.a ∨ q = D) H1 H' ∧ H' D = some (.lst acc) ∧ DaAll c.toWc (fun q => av q ∨ q = D) H' acc es ∧ I i es n',
    ⟨ds.length, by simp, Nat.zero_le _, [], [], n1, SD, same_kp (same_new hD), upd_same, .nil, i0⟩, ?_⟩
  rintro i m H' ⟨rfl, hi, acc, es, n', S', kp', hacc, da', ii⟩
  have kpa : Kp av H1 H' := fun b u hb e t => kp' b u (fun z => z.elim (fun z => hb (z ▸ S1.pa)) fun z => by rw [z, hD] at e; cases e) e t
  have kpv : Kp (fun q => av q ∨ q = D) H1 H' := kpa.more fun p z => .inl z
  by_cases hlt : i < ds.length
  · refine .inr ⟨it.goes i H' hlt kpa, fun H2 => ∃ acc es n', SS c ρ (fun q => av q ∨ q = D) o Γ n' σ H2 ∧ Kp (fun q => q = c.a ∨ q = D) H1 H2 ∧ H2 D = some (.lst acc) ∧ DaAll c.toWc (fun q => av q ∨ q = D) H2 acc es ∧ I (i + 1) es n',
      fun H2 q => ⟨ds.length - (i + 1), by omega, rfl, hlt, q⟩, ?_⟩
    intro x H2 y
    obtain ⟨sm, d, hd, da⟩ := it.yields i H' x H2 _ hlt kpa kpv S'.live (fun p hp => hp.elim .inl fun z => .inr (z ▸ fr_none hD)) y
    have S2 := S'.same sm
    have sub : ∀ {H3 n3}, Stp c.a H2 H3 → Pen c.a c.l c.ns c.T n3 H3 → SS c ρ (fun q => av q ∨ q = D) o Γ n3 σ H3 := fun x p => S2.stp x p
    have kp2 : Kp (fun q => q = c.a ∨ q = D) H1 H2 := kp'.trans (same_kp sm)
    have hacc2 := sm _ _ hacc
    have da2 := da'.keep (av := fun q => av q ∨ q = D) (same_kp sm)
    refine turn i es n' d hd ii ρ _ o (wipe σ vs) H2 x (S2.wipe vs) da _ fun Γ2 σ2 S3 bt wt => ⟨wipe_but bt hj, ?_⟩
    refine wt ρ _ o σ2 H2 S3 _ fun b H3 n3 S4 x4 q4 => ?_
    have hacc3 := x4 _ _ nDa.1 hacc2 rfl
    have da3 := da2.keep (x4.kp (av := fun q => av q ∨ q = D) (.inl S1.pa))
    have kp3 : Kp (fun q => q = c.a ∨ q = D) H1 H3 := kp2.trans (x4.kp (.inl rfl))
    cases b with
    | false => exact ⟨acc, es, n3, sub x4 S4.pen, kp3, hacc3, da3, q4⟩
    | true =>
      refine q4 ρ _ o σ2 H3 S4 _ fun y H4 e n4 S5 x5 h5 q5 => ?_
      have hacc4 := x5 _ _ nDa.1 hacc3 rfl
      have da4 := da3.keep (x5.kp (av := fun q => av q ∨ q = D) (.inl S1.pa))
      have S6 := sub (x4.trans x5) S5.pen
      have kpD : Kp (fun q => av q ∨ q = D) H4 (upd H4 D (.lst (acc ++ [y]))) := fun b u hb e _ => by
        have hne : b ≠ D := fun z => hb (.inr z)
        rw [upd_ne hne]
        exact e
      refine ⟨acc, hacc4, by rw [da4.length]; exact szlt q5.1, acc ++ [y], es ++ [e], n4, ?_, ?_, upd_same, ?_, q5.2⟩
      · exact S6.turn (.inr rfl) h0 nDa nDo hacc4 rfl rfl _ rfl
      · refine (kp3.trans (x5.kp (.inl rfl))).trans fun b u hb e _ => ?_
        have hne : b ≠ D := fun z => hb (.inr z)
        rw [upd_ne hne]
        exact e
      · exact (da4.append (.cons h5 .nil)).keep kpD
  · have e : i = ds.length := by omega
    subst e
    refine .inl ⟨it.stops H' kpa, hQ D acc H' es n' S' nD ?_ h0 hacc da' (done es n' ii)⟩
    refine x1.trans fun b u hb e t => kp' b u (fun z => z.elim hb fun z => ?_) e t
    rw [z, hD] at e
    cases e
/-- a new list is data -/
theorem w_new {te : TE} (h : Wn c Γ n te fun ds m => k (.lst ds) m) : We c Γ n te k := by
  intro ρ av o σ H S Q hQ
  refine h ρ av o σ H S Q fun p vs H' ds m S' np x h0 hp da kk => ?_
  refine hQ (.ref p) H' (.lst ds) m ?_ x (.lst np hp (da.less fun q z => .inl z)) kk
  exact S.stp x S'.pen
theorem w_lc (hj : ∀ j ∈ js, j ∈ vs) (h : Wi c Γ n wi fun ds n1 => LcAsk c Γ js vs g tt te ds n1 fun es m => k (.lst es) m) : We c Γ n (tLc wi g tt te vs) k := w_new (wn_lc hj h)
theorem wn_lst {k : List Dt → Nat → Prop} (h : Wa c Γ n ta fun ds n1 => szOk ds.length = true ∧ k ds n1) : Wn c Γ n (tLst ta) k := by
  intro ρ av o σ H S Q hQ
  refine h ρ av o σ H S _ fun vs H1 ds n1 S1 x1 h1 k1 => ?_
  refine ⟨by rw [h1.length]; exact szl k1.1, fun p hp => ?_⟩
  exact hQ p vs _ ds n1 (S1.apart hp _) (S1.live.new hp) (x1.trans (Stp.same (same_new hp))) (S1.fresh0 hp) upd_same ((h1.more hp).keep (same_kp (same_new hp))) k1.2
theorem wt_yes {kt : Bool → Nat → Prop} (h : kt true n) : Wt c Γ n tYes kt := fun ρ av o σ H S Q q => q true H n S (Stp.refl _ _) h
end

/-! ### lists of one's own -/
section
variable {c : Fc} {Γ : List Sl} {n i : Nat} {N : Nd} {te : TE} {k : Kd} {b : Bool} {ds : List Dt}
theorem w_own (h : Wn c Γ n te fun ds m => N.nx (Γ.set i (.ol false ds)) m) : Ws c Γ n (tAsg te (gName i)) N := by
  intro ρ av o σ H S D L
  refine h ρ av o σ H S _ fun p vs H' ds m S' np x h0 hp da kk => ?_
  refine L.nx (fun q => av q ∨ q = p) (fun j => if j = i then p else o j) _ m (σ.set i (some (.ref p))) H' ?_ kk
  have old : ∀ (j : Nat) (s : Sl), (Γ.set i (.ol false ds))[j]? = some s → j ≠ i → Γ[j]? = some s := fun j s q hj => by
    rwa [List.getElem?_set_ne (Ne.symm hj)] at q
  have new : ∀ (s : Sl), (Γ.set i (.ol false ds))[i]? = some s → s = .ol false ds ∧ i < Γ.length := fun s q => by
    have hl : i < Γ.length := by
      have := (List.getElem?_eq_some_iff.mp q).1
      rwa [List.length_set] at this
    rw [List.getElem?_set_self hl] at q
    cases q
    exact ⟨rfl, hl⟩
  have npa : p ≠ c.a ∧ p ≠ c.l := ⟨fun z => np (z ▸ S.pa), fun z => S'.pl (.inr z.symm)⟩
  have nrv : ¬ ρ.rv p := fun z => np (S.rsub p z)
  exact {
    len := by rw [List.length_set, List.length_set]; exact S.len
    gl := by rw [List.length_set]; exact S.gl
    pa := S'.pa
    pl := S'.pl
    pm := S'.pm
    sub := S'.sub
    rsub := S'.rsub
    msub := S'.msub
    asub := S'.asub
    live := S'.live
    live0 := S'.live0
    pen := S'.pen
    kp := S'.kp
    ex := S'.ex
    dat := fun j d q => by
      by_cases hj : j = i
      · subst hj
        obtain ⟨z, _⟩ := new _ q
        cases z
      · obtain ⟨v, h1, h2⟩ := S'.dat j d (old j _ q hj)
        exact ⟨v, by rw [List.getElem?_set_ne (Ne.symm hj)]; exact h1, h2⟩
    own := fun j b es q => by
      by_cases hj : j = i
      · subst hj
        obtain ⟨z, hl⟩ := new _ q
        cases z
        rw [if_pos rfl]
        exact ⟨List.getElem?_set_self (by rw [S.len]; exact hl), .inr rfl, ⟨h0, fun z => np (S.msub p z)⟩, npa, nrv, vs, hp, da⟩
      · obtain ⟨h1, h2, h3, h4, h00, ws, h5, h6⟩ := S'.own j b es (old j _ q hj)
        rw [if_neg hj]
        exact ⟨by rw [List.getElem?_set_ne (Ne.symm hj)]; exact h1, h2, h3, h4, h00, ws, h5, h6⟩
    inj := fun j l b b' es fs q r e => by
      by_cases hj : j = i
      · by_cases hl : l = i
        · rw [hj, hl]
        · rw [if_pos hj, if_neg hl] at e
          exact absurd (e ▸ (S.own l b' fs (old l _ r hl)).2.1) np
      · by_cases hl : l = i
        · rw [if_neg hj, if_pos hl] at e
          exact absurd (e ▸ (S.own j b es (old j _ q hj)).2.1) np
        · rw [if_neg hj, if_neg hl] at e
          exact S'.inj j l b b' es fs (old j _ q hj) (old l _ r hl) e }
/-- found.append(e) -/
theorem w_append (hi : Γ[i]? = some (Sl.ol b ds)) (hz : szLt ds.length = true) (h : We c Γ n te fun d m => N.nx (Γ.set i (.ol b (ds ++ [d]))) m) : Ws c Γ n (tDrop (tBM c.K "list" rAppend (tVar i) (tCons te tNil))) N := by
  intro ρ av o σ H S D L
  obtain ⟨h1, h2, h3, h4, h0, vs, h5, h6⟩ := S.own i b ds hi
  refine ⟨.ref (o i), h1, .inl ⟨rfl, vs, SqL.of h5⟩, ?_⟩
  refine h ρ av o σ H S _ fun y H' d m S' x h' kk => ?_
  have h5' := x _ _ h4.1 h5 rfl
  have h6' := h6.keep (x.kp S.pa)
  refine ⟨o i, vs, y, rfl, rfl, h5', by rw [h6.length]; exact szlt hz, ?_⟩
  refine L.nx av o _ m σ _ ?_ kk
  have kp : Kp av H' (upd H' (o i) (.lst (vs ++ [y]))) := fun b w hb e _ => by
    have hne : b ≠ o i := fun z => hb (by rw [z]; exact h2)
    rw [upd_ne hne]
    exact e
  have old : ∀ (j : Nat) (s : Sl), (Γ.set i (.ol b (ds ++ [d])))[j]? = some s → j ≠ i → Γ[j]? = some s := fun j s q hj => by
    rwa [List.getElem?_set_ne (Ne.symm hj)] at q
  have hl : i < Γ.length := (List.getElem?_eq_some_iff.mp hi).1
  have new : ∀ (s : Sl), (Γ.set i (.ol b (ds ++ [d])))[i]? = some s → s = .ol b (ds ++ [d]) := fun s q => by
    rw [List.getElem?_set_self hl] at q
    cases q
    rfl
  exact {
    len := by rw [List.length_set]; exact S'.len
    gl := by rw [List.length_set]; exact S'.gl
    pa := S'.pa
    pl := S'.pl
    pm := S'.pm
    sub := S'.sub
    rsub := S'.rsub
    msub := S'.msub
    asub := S'.asub
    live := fun q h => by
      by_cases e : q = o i
      · exact ⟨_, by rw [e, upd_same], rfl⟩
      · rw [upd_ne e]; exact S'.live q h
    live0 := S'.live0
    pen := S'.pen.upd h4.1 h4.2 h5' rfl rfl
    kp := fun q w hq e t => by
      have hne : q ≠ o i := fun z => by
        rw [z] at hq e
        cases b with
        | true => exact hq h3.1
        | false =>
          have h3' : Fr ρ.H0 (o i) := h3.1
          rw [h3' w e] at t
          cases t
      rw [upd_ne hne]
      exact S'.kp q w hq e t
    ex := S'.ex
    dat := fun j e q => by
      by_cases hj : j = i
      · subst hj
        cases new _ q
      · obtain ⟨v, q1, q2⟩ := S'.dat j e (old j _ q hj)
        exact ⟨v, q1, q2.keep kp⟩
    own := fun j b' es q => by
      by_cases hj : j = i
      · subst hj
        cases new _ q
        exact ⟨h1, h2, h3, h4, h0, _, upd_same, (h6'.append (.cons h' .nil)).keep kp⟩
      · obtain ⟨q1, q2, q3, q4, q0, ws, q5, q6⟩ := S'.own j b' es (old j _ q hj)
        refine ⟨q1, q2, q3, q4, q0, ws, ?_, q6.keep kp⟩
        have hne : o j ≠ o i := fun z => hj (S'.inj j i b' b es ds (old j _ q hj) hi z)
        rw [upd_ne hne]
        exact q5
    inj := fun j l b1 b2 es fs q r e => by
      have w : ∀ (j : Nat) (b' : Bool) (es : List Dt), (Γ.set i (.ol b (ds ++ [d])))[j]? = some (Sl.ol b' es) → ∃ es', Γ[j]? = some (Sl.ol b' es') := fun j b' es q => by
        by_cases hj : j = i
        · subst hj
          cases new _ q
          exact ⟨ds, hi⟩
        · exact ⟨es, old j _ q hj⟩
      obtain ⟨e1, w1⟩ := w j b1 es q
      obtain ⟨e2, w2⟩ := w l b2 fs r
      exact S'.inj j l b1 b2 e1 e2 w1 w2 e }
/-- a list of one's own is given free: it is data from here on -/
theorem w_rel {ts : TS} (hi : Γ[i]? = some (Sl.ol false ds)) (h : Ws c (Γ.set i (.da (.lst ds))) n ts N) : Ws c Γ n ts N := by
  intro ρ av o σ H S D L
  obtain ⟨h1, h2, h3, h4, h0, vs, h5, h6⟩ := S.own i false ds hi
  have h3' : Fr ρ.H0 (o i) := h3.1
  have hm : ¬ ρ.mt (o i) := h3.2
  have hl : i < Γ.length := (List.getElem?_eq_some_iff.mp hi).1
  have less : ∀ p, (av p ∧ p ≠ o i) → av p := fun p z => z.1
  have old : ∀ (j : Nat) (s : Sl), (Γ.set i (.da (.lst ds)))[j]? = some s → j ≠ i → Γ[j]? = some s := fun j s q hj => by
    rwa [List.getElem?_set_ne (Ne.symm hj)] at q
  have new : ∀ (s : Sl), (Γ.set i (.da (.lst ds)))[i]? = some s → s = .da (.lst ds) := fun s q => by
    rw [List.getElem?_set_self hl] at q
    cases q
    rfl
  refine h ρ (fun p => av p ∧ p ≠ o i) o σ H ?_ D L
  exact {
    len := by rw [List.length_set]; exact S.len
    gl := by rw [List.length_set]; exact S.gl
    pa := ⟨S.pa, h4.1.symm⟩
    pl := fun z => S.pl z.1
    pm := S.pm
    sub := fun p z => ⟨S.sub p z, fun e => by
      obtain ⟨w, q, t⟩ := S.live0 p z
      rw [e] at q
      rw [h3' w q] at t
      cases t⟩
    rsub := fun p z => ⟨S.rsub p z, fun e => h0 (e ▸ z)⟩
    msub := fun p z => ⟨S.msub p z, fun e => hm (e ▸ z)⟩
    asub := fun p z => S.asub p z.1
    live := fun p z => S.live p z.1
    live0 := S.live0
    pen := S.pen
    kp := S.kp
    ex := S.ex
    dat := fun j e q => by
      by_cases hj : j = i
      · subst hj
        cases new _ q
        exact ⟨_, h1, .lst (fun z => z.2 rfl) h5 (h6.less less)⟩
      · obtain ⟨v, q1, q2⟩ := S.dat j e (old j _ q hj)
        exact ⟨v, q1, q2.less less⟩
    own := fun j b' es q => by
      by_cases hj : j = i
      · subst hj
        cases new _ q
      · obtain ⟨q1, q2, q3, q4, q0, ws, q5, q6⟩ := S.own j b' es (old j _ q hj)
        exact ⟨q1, ⟨q2, fun z => hj (S.inj j i b' false es ds (old j _ q hj) hi z)⟩, q3, q4, q0, ws, q5, q6.less less⟩
    inj := fun j l b1 b2 es fs q r e => by
      by_cases hj : j = i
      · subst hj
        cases new _ q
      · by_cases hl2 : l = i
        · subst hl2
          cases new _ r
        · exact S.inj j l b1 b2 es fs (old j _ q hj) (old l _ r hl2) e }
/-- return found -/
theorem w_retOwn (hi : Γ[i]? = some (Sl.ol b ds)) (h : N.rt (.lst ds) n) : Ws c Γ n (tRet (tVar i)) N := by
  intro ρ av o σ H S D L
  obtain ⟨h1, h2, h3, h4, h0, vs, h5, h6⟩ := S.own i b ds hi
  refine ⟨.ref (o i), h1, ?_⟩
  refine L.rt (fun p => av p ∧ p ≠ o i) (.ref (o i)) H (.lst ds) n (fun p z => ⟨S.rsub p z, fun e => h0 (e ▸ z)⟩) S.kp S.pen ?_ h
  exact .lst (fun z => z.2 rfl) h5 (h6.less fun p z => z.1)
end
end Pb
namespace Pb
open PySem PySem.Spec PyProof.Rows L2

/-! ### truth -/
def tTr (K : PySem.W.Frag) (ta : TE) : TT := fun σ H Q => ta σ H fun x H' => ∃ k, TruV K x H' k ∧ Q k H'
theorem pt_tr {X : Cx} {a : Expr} {ta : TE} (ha : PE X a ta) (he : ∀ whole, isTrue a X.env whole = (do let v ← whole; standAt a.pos; holding [v] (truthy v)) := by intro _; rfl) : PT X a (tTr X.K ta) := pt_truth ha he
def truD : Dt → Option Bool
  | .non => some false
  | .bl b => some b
  | .int i => some (i != 0)
  | .lst ds => some (!ds.isEmpty)
  | .tup ds => some (!ds.isEmpty)
  | .dic ks _ => some (!ks.isEmpty)
  | .str z => if z.length ≤ 16777216 then some ((z.length : Int) != 0) else none
  | _ => none
theorem DaAll.isEmpty {c : Wc} {av : Addr → Prop} {H : Hp} {vs : List V} {ds : List Dt} (h : DaAll c av H vs ds) : vs.isEmpty = ds.isEmpty := by cases h <;> rfl
theorem truD_ok {c : Wc} {av : Addr → Prop} {H : Hp} {v : V} {d : Dt} {b : Bool} (h : Da c av H v d) (e : truD d = some b) : TruV c.K v H b := by
  cases h with
  | non => cases e; rfl
  | bl b => cases e; rfl
  | int i => cases e; rfl
  | str z =>
    have e' : (if z.length ≤ 16777216 then some ((z.length : Int) != 0) else none) = some b := e
    by_cases hz : z.length ≤ 16777216
    · rw [if_pos hz] at e'
      exact ⟨by rw [sizeLine_eq]; exact hz, (Option.some.inj e').symm⟩
    · rw [if_neg hz] at e'; cases e'
  | lst h1 h2 h3 => cases e; exact .inl ⟨_, SqL.of h2, by rw [h3.isEmpty]⟩
  | tup h2 h3 => cases e; exact .inr (.inl ⟨_, h2.sq, by rw [h3.isEmpty]⟩)
  | @dic p kvs ks ds h1 h2 h3 h4 =>
    have e' : some (!ks.isEmpty) = some b := e
    cases e'
    refine .inr (.inr ⟨_, h2, ?_⟩)
    rw [← h3]
    cases kvs <;> rfl
  | obj => cases e
  | err _ _ _ _ => cases e
  | pen => cases e
section
variable {c : Fc} {Γ : List Sl} {n : Nat} {k : Kd} {kt : Bool → Nat → Prop} {ta tb te : TE}
theorem wt_tr (h : We c Γ n te fun d m => ∃ b, truD d = some b ∧ kt b m) : Wt c Γ n (tTr c.K te) kt := by
  intro ρ av o σ H S Q hQ
  refine h ρ av o σ H S _ fun x H1 d1 n1 S1 x1 h1 k1 => ?_
  obtain ⟨b, e, k1⟩ := k1
  exact ⟨b, truD_ok h1 e, hQ b H1 n1 S1 x1 k1⟩
theorem w_andT (h : We c Γ n ta fun d m => ∃ b, truD d = some b ∧ if b = true then We c Γ m tb k else k d m) : We c Γ n (tAndT c.K ta tb) k := by
  intro ρ av o σ H S Q hQ
  refine h ρ av o σ H S _ fun x H1 d1 n1 S1 x1 h1 k1 => ?_
  obtain ⟨b, e, k1⟩ := k1
  refine ⟨b, truD_ok h1 e, ?_⟩
  cases b with
  | true => exact k1 ρ av o σ H1 S1 Q fun v H2 d n2 S2 x2 h2 k2 => hQ v H2 d n2 S2 (x1.trans x2) h2 k2
  | false => exact hQ _ H1 _ n1 S1 x1 h1 k1
theorem w_orT (h : We c Γ n ta fun d m => ∃ b, truD d = some b ∧ if b = true then k d m else We c Γ m tb k) : We c Γ n (tOrT c.K ta tb) k := by
  intro ρ av o σ H S Q hQ
  refine h ρ av o σ H S _ fun x H1 d1 n1 S1 x1 h1 k1 => ?_
  obtain ⟨b, e, k1⟩ := k1
  refine ⟨b, truD_ok h1 e, ?_⟩
  cases b with
  | false => exact k1 ρ av o σ H1 S1 Q fun v H2 d n2 S2 x2 h2 k2 => hQ v H2 d n2 S2 (x1.trans x2) h2 k2
  | true => exact hQ _ H1 _ n1 S1 x1 h1 k1
theorem w_notT (h : We c Γ n ta fun d m => ∃ b, truD d = some b ∧ k (.bl (!b)) m) : We c Γ n (tNotT c.K ta) k := by
  intro ρ av o σ H S Q hQ
  refine h ρ av o σ H S _ fun x H1 d1 n1 S1 x1 h1 k1 => ?_
  obtain ⟨b, e, k1⟩ := k1
  exact ⟨b, truD_ok h1 e, hQ _ H1 _ n1 S1 x1 (.bl _) k1⟩
/-- a call with keywords, all behind the written ones -/
theorem w_ck {g : {α : Type} → List α → List α → List α} {a b : Nat} {r : List V → Hp → VK → Prop} {t tk : TA} (hg : ∀ {av H vs ws ds es}, DaAll c.toWc av H vs ds → DaAll c.toWc av H ws es → DaAll c.toWc av H (g vs ws) (g ds es))
    (h : Wa c Γ n t fun ds n1 => Wa c Γ n1 tk fun es n2 => (ds.length = a ∧ es.length = b) ∧ RCD c r (g ds es) n2 k) : We c Γ n (tCK g a b r t tk) k := by
  intro ρ av o σ H S Q hQ
  refine h ρ av o σ H S _ fun vs H1 ds n1 S1 x1 h1 k1 => ?_
  refine k1 ρ av o σ H1 S1 _ fun ws H2 es n2 S2 x2 h2 k2 => ?_
  refine ⟨⟨h1.length.trans k2.1.1, h2.length.trans k2.1.2⟩, ?_⟩
  refine k2.2 ρ av H2 _ S2.live ⟨S2.pa, S2.pl⟩ S2.pm S2.rsub S2.kp S2.pen S2.ex (hg (h1.keep (x2.kp S.pa)) h2) Q fun z H3 d n3 x3 p3 h3 k3 => ?_
  exact hQ z H3 d n3 (S2.stp x3 p3) ((x1.trans x2).trans x3) h3 k3
theorem w_ckA {a b : Nat} {r : List V → Hp → VK → Prop} {t tk : TA} (h : Wa c Γ n t fun ds n1 => Wa c Γ n1 tk fun es n2 => (ds.length = a ∧ es.length = b) ∧ RCD c r (ds ++ es) n2 k) : We c Γ n (tCK gApp a b r t tk) k :=
  w_ck (fun h1 h2 => h1.append h2) h
theorem r_neg {i : Int} {k : Dt → Prop} (h : k (.int (-i))) : R1D c (rU fun i => .int (-i)) (.int i) k := by
  intro av H x lv pa a Q q
  cases a
  exact ⟨i, rfl, q _ H _ (Same.refl H) (.int _) h⟩
/-- {} -/
theorem w_dnew (h : k (.dic [] []) n) : We c Γ n tDNewK k := by
  intro ρ av o σ H S Q hQ p hp
  exact hQ _ _ _ n (S.same (same_new hp)) (Stp.same (same_new hp)) (.dic (S.live.new hp) upd_same rfl .nil) h
end
end Pb
namespace Pb
open PySem PySem.Spec PyProof.Rows L2

/-! ### the law's def and the end of a row -/
section
variable {P : Program} {w : World} {K : PySem.W.Frag} {mg mb : Str → Option Value} {CX : CXT} {k : Nat} {fa a : Addr} {fd : FuncData} {x : Str} {sp : Sp} {s1 : Shared} {vs : List Value} {ns : List Int}
/-- what the row wants of the law's call -/
def Good (s1 : Shared) (r : Result) (s' : Shared) : Prop := r = .ok (.ret (.bool true)) ∧ OldK s1.heap s'.heap ∧ s'.os = s1.os ∧ AllBare s'.gens
theorem law_from {H : Hp} (F : ∀ base : Heap, K.In base → base.Ns mainGlobals mg → FnG true P w K mg base CX k fa fd [x] sp) (hbind : ∀ (s : Shared) (u : Value), BindsTo s fd ⟨[u], []⟩ [(x, u)])
    (inK : K.In s1.heap) (nsG : s1.heap.Ns mainGlobals mg) (nsB : s1.heap.Ns builtinsNs mb) (bb : ∀ x : Str, x ≠ "__name__" → mb x = bootBuiltins x) (lim : s1.heap.NoLimit) (g0 : s1.gens = #[])
    (hr : RoomG true k callerA) (only : Only H) (ok : HOk P w H s1.heap) (scr : ∀ b, H b ≠ none → b = a) (scrK : H a ≠ none → K.lookup a = none)
    (lst : s1.heap.get? a = some { cls := .type "list", data := .seq vs.toArray }) (pr : sp [.ref a] H (fun v _ => v = .bl true) fun _ _ _ => False) (noX : ∀ H e s', CX [] H s1 (fun _ _ _ => False) e s' → False) :
    codeAny (model P w) callerA (.call (.ref fa) ⟨[.ref a], []⟩) (Good s1) s1 := by
  have dictFree : ∀ (b : Addr) (ob : Obj) (es : Array DictEntry) (ep : Nat), s1.heap.get? b = some ob → ob.data = .dict es ep → H b = none := by
    intro b ob es ep e d
    by_cases q : H b = none
    · exact q
    · have eb := scr b q
      subst eb
      rw [lst] at e
      cases e
      have d' : Data.seq vs.toArray _ = Data.dict es ep := d
      cases d'
  have ns2 : ∀ (b : Addr) (m : Str → Option Value), s1.heap.Ns b m → (hidT s1.heap H).Ns b m := by
    rintro b m ⟨ob, es, ep, e, d, r⟩
    exact ⟨ob, es, ep, hidT_get e (dictFree b ob es ep e d), d, r⟩
  have inB : K.In (hidT s1.heap H) := by
    intro b ob e
    refine hidT_get (inK b ob e) ?_
    by_cases q : H b = none
    · exact q
    · have eb := scr b q
      subst eb
      rw [scrK q] at e
      cases e
  obtain ⟨mc, l1, l2⟩ := lim
  have md : Mod K mg (hidT s1.heap H) := ⟨inB, ns2 _ _ nsG, ⟨mb, ns2 _ _ nsB, bb⟩, mc, ns2 _ _ l1, l2⟩
  have ev : Env0 P w K mg (hidT s1.heap H) callerA [] s1 H := {
    frames := rfl
    mod := md
    bs := fun b ob e => of_hidT e
    bsz := Nat.le_of_eq (hidT_size _ _)
    funs := trivial
    frf := fun b hb => by
      have z : b ∈ ([] : List Addr) := hb
      simp at z
    hok := ok
    bare := .of_eq g0 }
  have run := (F _ inB (ns2 _ _ nsG)).run callerA [] s1 H ⟨[.ref a], []⟩ [.ref a] [.ref a] _ _ hr ev (hbind s1 (.ref a)) (.cons rfl .nil) pr
  refine codeAny_mono run ?_
  intro r s' h
  cases r with
  | error e => exact (noX H e s' h).elim
  | ok fl =>
    cases fl with
    | ret u =>
      obtain ⟨v, H', eo, br, un, ok', rel, q⟩ := h
      have q1 : v = .bl true := q
      subst q1
      have q2 : u = Value.bool true := rel
      subst q2
      refine ⟨rfl, OldK.of_keep ?_, eo, br⟩
      intro b ob e
      rcases only b with z | ⟨o2, xs, z⟩
      · refine un.keep b ob e z (fun y => ?_) (by simp)
        have y' : b ∈ ([] : List Addr) := y
        simp at y'
      · obtain ⟨e1, _⟩ := ok b _ z
        obtain ⟨e2, _⟩ := ok' b _ (un.frzs b o2 _ z)
        rw [e] at e1
        cases e1
        exact e2
    | next => exact h.elim
    | brk => exact h.elim
    | cont => exact h.elim
theorem law_go (F : ∀ base : Heap, K.In base → base.Ns mainGlobals mg → FnG true P w K mg base CX k fa fd [x] sp) (hbind : ∀ (s : Shared) (u : Value), BindsTo s fd ⟨[u], []⟩ [(x, u)])
    (inK : K.In s1.heap) (nsG : s1.heap.Ns mainGlobals mg) (nsB : s1.heap.Ns builtinsNs mb) (bb : ∀ x : Str, x ≠ "__name__" → mb x = bootBuiltins x) (lim : s1.heap.NoLimit) (g0 : s1.gens = #[])
    (hr : RoomG true k callerA) (lst : s1.heap.get? a = some { cls := .type "list", data := .seq vs.toArray }) (its : IntsAre vs ns) (len : ns.length ≤ sizeLine)
    (pr : ∀ H : Hp, Only H → SqL K H a (ns.map V.int) → sp [.ref a] H (fun v _ => v = .bl true) fun _ _ _ => False) (noX : ∀ H e s', CX [] H s1 (fun _ _ _ => False) e s' → False) :
    codeAny (model P w) callerA (.call (.ref fa) ⟨[.ref a], []⟩) (Good s1) s1 := by
  have rv := vals_ints its
  cases hk : K.lookup a with
  | some ob =>
    have e := inK a ob hk
    rw [lst] at e
    cases e
    have on : Only fun _ => none := fun _ => .inl rfl
    refine law_from (H := fun _ => none) F hbind inK nsG nsB bb lim g0 hr on ?_ (fun b z => absurd rfl z) (fun z => absurd rfl z) lst (pr _ on ?_) noX
    · intro b u z
      have z' : (none : Option HO) = some u := z
      cases z'
    · right
      refine ⟨_, vs.toArray, _, hk, rfl, rfl, rfl, ?_, ?_⟩
      · rw [List.size_toArray, its.length]
        exact len
      · simpa using rv
  | none =>
    let O : HO := .frz { cls := .type "list", data := .seq vs.toArray } (.lst (ns.map V.int))
    have at_ : (fun b => if b = a then some O else none : Hp) a = some O := if_pos rfl
    have off : ∀ b, b ≠ a → (fun b => if b = a then some O else none : Hp) b = none := fun b hb => if_neg hb
    have on : Only (fun b => if b = a then some O else none) := fun b => by
      by_cases hb : b = a
      · subst hb
        exact .inr ⟨_, _, at_⟩
      · exact .inl (off b hb)
    refine law_from (H := fun b => if b = a then some O else none) F hbind inK nsG nsB bb lim g0 hr on ?_ ?_ (fun _ => hk) lst (pr _ on (.inl (.inr ⟨_, at_⟩))) noX
    · intro b u z
      by_cases hb : b = a
      · subst hb
        have z' := at_.symm.trans z
        cases z'
        exact ⟨lst, by rw [List.length_map]; exact len, vs, _, rv, lst⟩
      · have z' := (off b hb).symm.trans z
        cases z'
    · intro b z
      by_cases hb : b = a
      · exact hb
      · exact absurd (off b hb) z
end
theorem walkG {l : PySem.W.OpenLaw} {n k : Nat} {q : Program} {loose : List Str} {XP : (Str → Option Value) → Heap → Prop} {YP : World → Heap → Prop} {d : DefRec} {CX : CXT} {x : Str}
    (hn : l.most = some n) (hn2 : n ≤ sizeLine) (hdf : d.params.defaults = []) (hr : RoomG true k callerA)
    (F : ∀ (w : World) (mg : Str → Option Value) (fa : Addr) (h : Heap), YP w h → h.Ns mainGlobals mg → mg d.name = some (.ref fa) →
      ∃ (K : PySem.W.Frag) (fd : FuncData) (sp : Sp), K.In h ∧ (∀ (s : Shared) (u : Value), BindsTo s fd ⟨[u], []⟩ [(x, u)]) ∧
        (∀ (H : Hp) (a : Addr) (ns : List Int), ns.length ≤ n → SqL K H a (ns.map V.int) → sp [.ref a] H (fun v _ => v = .bl true) fun _ _ _ => False) ∧
        ∀ base : Heap, K.In base → base.Ns mainGlobals mg → FnG true l.prog w K mg base CX k fa fd [x] sp)
    (noX : ∀ (H : Hp) (s : Shared) (e : Value) (s' : Shared), CX [] H s (fun _ _ _ => False) e s' → False) :
    PySem.W.WalkO q loose XP YP l.row.toRowW d [] (fun f vs => PySem.call f vs) := by
  refine Att.attach_call hn hdf ?_
  intro w s0 s1 mg mb fa o pm cd doc a vs ns G Y ho hd hcd hmg hobj hints hlen hg
  obtain ⟨K, fd, sp, KX, hb, hsp, hF⟩ := F w mg fa _ Y G.T.g hmg
  exact law_go hF hb KX G.T.g G.T.b G.T.builtins G.T.nolimit hg hr hobj hints (Nat.le_trans hlen hn2) (fun H _ hS => hsp H a ns hlen hS) fun H e s' => noX H s1 e s'

/-! ### the law's body: the pen first -/
def spPen (K : PySem.W.Frag) (T : List (Addr × Str)) : Sp := fun vs H Q _ => ∃ (s : Addr) (ns : List Int), vs = [.ref s] ∧ SqL K H s (ns.map V.int) ∧ ns.length ≤ 63 ∧ LamX.Tabs T H ∧
  ∀ a l ms H', Same H H' → H a = none → H l = none → a ≠ l → Pen a l ms T penLine H' → Q (.ref a) H'
def spLaw (K : PySem.W.Frag) (T : List (Addr × Str)) : Sp := fun vs H Q _ => ∃ (s : Addr) (ns : List Int), vs = [.ref s] ∧ SqL K H s (ns.map V.int) ∧ ns.length ≤ 63 ∧ LamX.Tabs T H ∧ ∀ H', Q (.bl true) H'
theorem tabs_nil {H : Hp} : LamX.Tabs [] H := fun p hp => by cases hp
/-- the slots behind the first statement: the pen in slot 1 -/
def gam1 (m : Nat) : List Sl := .un :: .da .pen :: List.replicate m .un
theorem law_body {K : PySem.W.Frag} {mg : Str → Option Value} {T : List (Addr × Str)} {N : List Str} {m : Nat} (hN : N.length = m + 2) {tr : TS} {n : Nat} (hn : n ≤ penLine)
    (hw : ∀ c : Fc, c.K = K → c.mg = mg → c.T = T → c.er = none → Ws c (gam1 m) n tr { nx := fun _ _ => False, rt := fun d _ => d = .bl true }) {vs : List V} {H : Hp} {Q : VK} {E : XK} (h : spLaw K T vs H Q E) :
    tSeq (tAsg (tCB (fun vs H Q => spPen K T vs H Q E0) (tCons (tVar 0) tNil)) (gName 1)) tr { nx := fun _ H' => Q .non H', rt := Q } (L2.start N vs) H := by
  obtain ⟨s, ns, rfl, hs, hl, hT, hQ⟩ := h
  have e0 : (L2.start N [.ref s]) = some (.ref s) :: none :: List.replicate m none := by
    unfold L2.start
    rw [hN]
    show some (V.ref s) :: List.replicate (m + 2 - 1) none = _
    rw [show m + 2 - 1 = m + 1 by omega, List.replicate_succ]
  rw [e0]
  refine ⟨.ref s, rfl, s, ns, rfl, hs, hl, hT, fun a l ms H' sm ha hl' nal pn => ?_⟩
  refine hw ⟨⟨K, mg, a, l, ms, T, none⟩, E0, fun _ _ _ => False⟩ rfl rfl rfl rfl ⟨H', fun p => p = a, fun p => p = a, fun _ => 0, fun p => p = a, m + 2⟩ (fun p => p = a) (fun _ => 0) _ H' ?_ _ ?_
  · have pl := (pn.less hn)
    have lv : Live (fun p => p = a) H' := by
      obtain ⟨i, r, h1, h2, _⟩ := pn
      intro p z
      rw [z]
      exact ⟨_, h1, rfl⟩
    exact {
      len := by simp [gam1]
      gl := by simp [gam1]
      pa := rfl
      pl := fun z => nal z.symm
      pm := rfl
      sub := fun p z => z
      rsub := fun p z => z
      msub := fun p z => z
      asub := fun p z => .inl z
      live := lv
      live0 := lv
      pen := pl
      kp := Kp.refl _ _
      ex := fun _ _ _ _ _ _ _ _ _ _ _ _ _ _ z => z
      dat := fun i d q => by
        match i, q with
        | 0, q => cases q
        | 1, q =>
          cases q
          exact ⟨_, rfl, .pen⟩
        | i + 2, q =>
          exfalso
          have q' : (List.replicate m Sl.un)[i]? = some (Sl.da d) := q
          rw [List.getElem?_replicate] at q'
          split at q' <;> cases q'
      own := fun i b d q => by
        exfalso
        match i, q with
        | 0, q => cases q
        | 1, q => cases q
        | i + 2, q =>
          have q' : (List.replicate m Sl.un)[i]? = some (Sl.ol b d) := q
          rw [List.getElem?_replicate] at q'
          split at q' <;> cases q'
      inj := fun i j b b' d d' q => by
        exfalso
        match i, q with
        | 0, q => cases q
        | 1, q => cases q
        | i + 2, q =>
          have q' : (List.replicate m Sl.un)[i]? = some (Sl.ol b d) := q
          rw [List.getElem?_replicate] at q'
          split at q' <;> cases q' }
  · refine ⟨fun _ _ _ _ _ _ _ z => z.elim, fun av' v H2 d n' _ _ _ da q => ?_, fun _ _ _ _ _ _ _ z => z.elim, fun _ _ _ _ _ _ _ z => z.elim⟩
    have q' : d = .bl true := q
    subst q'
    cases da
    exact hQ H2
end Pb
namespace Pb
open PySem PySem.Spec PyProof.Rows L2

/-! ### the pen's places -/
section
variable {c : Fc} {n : Nat} {k : Dt → Prop} {Γ : List Sl} {N : Nd} {te : TE}
theorem r_ixP2 (h : ∀ r : Int, k (.int r)) : R2D c n (rIx c.K) .pen (.int 2) k := by
  intro av H x y lv pa a b Q q
  cases a; cases b
  obtain ⟨_, _, i, r, h1, h2, _⟩ := pa
  exact .inl ⟨_, _, 2, .int r, rfl, rfl, SqL.of h1, rfl, q _ H _ (Same.refl H) (.int r) (h r)⟩
theorem r_ixP1 (h : ∀ i : Int, 0 ≤ i → i + n ≤ 4194304 → k (.int i)) : R2D c n (rIx c.K) .pen (.int 1) k := by
  intro av H x y lv pa a b Q q
  cases a; cases b
  obtain ⟨_, _, i, r, h1, h2, _, _, h3, h4⟩ := pa
  exact .inl ⟨_, _, 1, .int i, rfl, rfl, SqL.of h1, rfl, q _ H _ (Same.refl H) (.int i) (h i h3 h4.1)⟩
theorem DaAll.ofInts {c : Wc} {av : Addr → Prop} {H : Hp} : ∀ (ys : List Int), DaAll c av H (ys.map V.int) (ys.map Dt.int)
  | [] => .nil
  | y :: ys => .cons (.int y) (DaAll.ofInts ys)
theorem r_ixP0 (h : c.ns.length ≤ 63 → k (.lst (c.ns.map Dt.int))) : R2D c n (rIx c.K) .pen (.int 0) k := by
  intro av H x y lv pa a b Q q
  cases a; cases b
  obtain ⟨_, nl, i, r, h1, h2, h5, h6, h3, h4⟩ := pa
  exact .inl ⟨_, _, 0, .ref c.l, rfl, rfl, SqL.of h1, rfl, q _ H _ (Same.refl H) (.lst nl h2 (DaAll.ofInts c.ns)) (h h6)⟩
/-- the pen's own list is turned -/
theorem SS.penned {ρ : Rt} {av : Addr → Prop} {o : Nat → Addr} {σ : L2.St} {H : Hp} {n' : Nat} (S : SS c ρ av o Γ n σ H) {u : HO} (p : Pen c.a c.l c.ns c.T n' (upd H c.a u)) : SS c ρ av o Γ n' σ (upd H c.a u) :=
  S.stp (fun b w hb e _ => by rw [upd_ne hb]; exact e) p
theorem w_setP2 {j : Nat} (hj : Γ[j]? = some (Sl.da .pen)) (h : We c Γ n te fun d m => ∃ r : Int, d = .int r ∧ N.nx Γ m) : Ws c Γ n (tAsg te (gSub (tVar j) (tC (.int 2)) rSetL)) N := by
  intro ρ av o σ H S D L
  refine h ρ av o σ H S _ fun v H' d m S' x h' kk => ?_
  obtain ⟨r, rfl, kk⟩ := kk
  cases h'
  obtain ⟨v, e1, e2⟩ := S'.dat j _ hj
  cases e2
  obtain ⟨i, r0, h1, h2, h3, h4, h5, h6⟩ := S'.pen
  refine ⟨_, e1, c.a, _, 2, 2, rfl, rfl, h1, rfl, ?_⟩
  refine L.nx av o Γ m σ _ (S'.penned (n' := m) ⟨i, r, ?_, ?_, h3, h4, h5, h6.1, Tabs.upd h6.2 h1 rfl rfl⟩) kk
  · exact upd_same
  · rw [upd_ne h3]; exact h2
theorem w_setP1 {j : Nat} (hj : Γ[j]? = some (Sl.da .pen)) (h : We c Γ n te fun d m => ∃ (i : Int) (m' : Nat), d = .int i ∧ 0 ≤ i ∧ i + m' ≤ 4194304 ∧ N.nx Γ m') : Ws c Γ n (tAsg te (gSub (tVar j) (tC (.int 1)) rSetL)) N := by
  intro ρ av o σ H S D L
  refine h ρ av o σ H S _ fun v H' d m S' x h' kk => ?_
  obtain ⟨i, m', rfl, hi, hm, kk⟩ := kk
  cases h'
  obtain ⟨v, e1, e2⟩ := S'.dat j _ hj
  cases e2
  obtain ⟨i0, r0, h1, h2, h3, h4, h5, h6⟩ := S'.pen
  refine ⟨_, e1, c.a, _, 1, 1, rfl, rfl, h1, rfl, ?_⟩
  refine L.nx av o Γ m' σ _ (S'.penned (n' := m') ⟨i, r0, ?_, ?_, h3, h4, hi, hm, Tabs.upd h6.2 h1 rfl rfl⟩) kk
  · exact upd_same
  · rw [upd_ne h3]; exact h2
end
/-! ### the pen is made -/
def t_pen (K : PySem.W.Frag) : TS := tRet (tLst (tCons (tCB (rList K) (tCons (tSl (rSl K) (tVar 0) tNoPart (tPart (tC (.int 63)))) tNil)) (tCons (tC (.int 0)) (tCons (tC (.int 0)) tNil))))
theorem cut_ints (ns : List Int) (lo hi : Option Int) : cutV (ns.map V.int) lo hi = (cutG ns lo hi).map V.int := by
  unfold cutV cutG
  rw [List.length_map, List.map_take, List.map_drop]
theorem pen_made {K : PySem.W.Frag} {T : List (Addr × Str)} {vs : List V} {H : Hp} {Q : VK} {E : XK} (h : spPen K T vs H Q E) : t_pen K { nx := fun _ H' => Q .non H', rt := Q } (L2.start ["_law_script"] vs) H := by
  obtain ⟨s, ns, rfl, hs, hl, hT, hQ⟩ := h
  refine ⟨.ref s, rfl, 63, rfl, .inl ⟨s, _, rfl, hs, fun p hp => ?_⟩⟩
  refine ⟨p, _, rfl, .inl (SqL.of upd_same), fun l hl2 => ?_⟩
  refine ⟨szl rfl, fun a ha => ?_⟩
  have hlp : l ≠ p := fun z => by rw [z, upd_same] at hl2; cases hl2
  have hal : a ≠ l := fun z => by rw [z, upd_same] at ha; cases ha
  have e1 : H l = none := by rwa [upd_ne hlp] at hl2
  have e2 : H a = none := by
    rw [upd_ne hal] at ha
    have hap : a ≠ p := fun z => by rw [z, upd_same] at ha; cases ha
    rwa [upd_ne hap] at ha
  have sm : ∀ (u1 u2 u3 : HO), Same H (upd (upd (upd H p u1) l u2) a u3) := fun u1 u2 u3 b o e => by
    rw [upd_ne (ne_of_none e e2), upd_ne (ne_of_none e e1), upd_ne (ne_of_none e hp)]
    exact e
  refine hQ a l (cutG ns none (some 63)) _ (sm _ _ _) e2 e1 hal ?_
  refine ⟨0, 0, upd_same, ?_, hal.symm, ?_, Int.le_refl _, by decide, hT.ext (sm _ _ _)⟩
  · rw [upd_ne hal.symm, upd_same, cut_ints]
  · unfold cutG
    rw [List.length_take, List.length_drop]
    omega
/-- what a draw promises -/
def S_draw : Sp1 where
  cost := 1
  pre := fun ds => ∃ m : Int, ds = [.pen, .int m] ∧ 0 < m ∧ m < 1073741824
  post := fun ds d => ∃ m i : Int, ds = [.pen, .int m] ∧ d = .int i ∧ 0 ≤ i ∧ i < m
theorem draw_pre {m : Int} (h1 : 0 < m) (h2 : m < 1073741824) : S_draw.pre [.pen, .int m] := ⟨m, rfl, h1, h2⟩
theorem draw_post {m : Int} {d : Dt} (h : S_draw.post [.pen, .int m] d) : ∃ i : Int, d = .int i ∧ 0 ≤ i ∧ i < m := by
  obtain ⟨m', i, e, ed, h1, h2⟩ := h
  cases e
  exact ⟨i, ed, h1, h2⟩
end Pb
namespace Pb
open PySem PySem.Spec PyProof.Rows L2

/-! ### texts -/
def rJoin (K : PySem.W.Frag) : V → List V → Hp → VK → Prop := fun x xs H Q => ∃ a p, ∃ ys : List Str, x = .str a ∧ xs = [.ref p] ∧ (SqL K H p (ys.map V.str) ∨ SqT K H p (ys.map V.str)) ∧ (ys.map (·.length)).sum + ys.length * a.length ≤ 16777216 ∧ Q (.str (Txt.join a ys)) H
def rSplit : V → List V → Hp → VK → Prop := fun x xs H Q => ∃ a b, x = .str a ∧ xs = [.str b] ∧ (b.length == 0) = false ∧ a.length + 2 ≤ sizeLine ∧ rNewStrs (Txt.split a b) H Q
section
variable {X : Cx} {c : Fc} {k : Kd} {Γ : List Sl} {n : Nat} {to te : TE}
theorem w_joinL (h : We c Γ n to fun d n1 => ∃ z, d = .str z ∧ We c Γ n1 te fun e n2 => ∃ ys : List Str, e = .lst (ys.map Dt.str) ∧ (ys.map (·.length)).sum + ys.length * z.length ≤ 16777216 ∧ k (.str (Txt.join z ys)) n2) : We c Γ n (tM1 (rJoin c.K) to te) k := w_join rfl h
theorem w_splitL (h : We c Γ n to fun d n1 => ∃ z, d = .str z ∧ We c Γ n1 te fun e n2 => ∃ b, e = .str b ∧ (b.length == 0) = false ∧ szOk (z.length + 2) = true ∧ k (.lst ((Txt.split z b).map Dt.str)) n2) : We c Γ n (tM1 rSplit to te) k := w_split rfl h
end
/-! ### a dict written out -/
theorem merge_app : ∀ (kvs acc : List (Key × V)), ((acc ++ kvs).map (·.1)).Nodup → mergeK acc kvs = acc ++ kvs
  | [], acc, _ => by rw [List.append_nil]; rfl
  | kv :: kvs, acc, h => by
    have e : putK acc kv.1 kv.2 = acc ++ [kv] := by
      unfold putK
      rw [if_neg]
      intro z
      rw [List.any_eq_true] at z
      obtain ⟨p, hp, z⟩ := z
      have z := of_decide_eq_true z
      rw [List.map_append, List.nodup_append] at h
      exact h.2.2 p.1 (List.mem_map_of_mem hp) kv.1 (by simp) z
    show mergeK (putK acc kv.1 kv.2) kvs = _
    rw [e, merge_app kvs (acc ++ [kv]) (by rw [List.append_assoc]; exact h), List.append_assoc]
    rfl
def Wp (c : Fc) (Γ : List Sl) (n : Nat) (trs : List (TE × TE)) (k : List Key → List Dt → Nat → Prop) : Prop := ∀ ρ av o σ H, SS c ρ av o Γ n σ H → ∀ Q : List (V × V) → Hp → Prop,
  (∀ (kvs : List (Key × V)) H' ks ds n', SS c ρ av o Γ n' σ H' → Stp c.a H H' → kvs.map (·.1) = ks → DaAll c.toWc av H' (kvs.map (·.2)) ds → k ks ds n' → Q (kvs.map fun kv => (kV kv.1, kv.2)) H') → tPairs trs σ H Q
def keyD : Dt → Option Key
  | .int i => some (.inl i)
  | .str x => some (.inr x)
  | _ => none
section
variable {c : Fc} {Γ : List Sl} {n : Nat} {k : Kd} {kp : List Key → List Dt → Nat → Prop} {tk tv : TE} {trs : List (TE × TE)}
theorem wp_nil (h : kp [] [] n) : Wp c Γ n [] kp := fun ρ av o σ H S Q q => q [] H [] [] n S (Stp.refl _ _) rfl .nil h
theorem wp_cons (h : We c Γ n tk fun d n1 => ∃ key, keyD d = some key ∧ We c Γ n1 tv fun e n2 => Wp c Γ n2 trs fun ks ds m => kp (key :: ks) (e :: ds) m) : Wp c Γ n ((tk, tv) :: trs) kp := by
  intro ρ av o σ H S Q q
  refine h ρ av o σ H S _ fun x H1 d n1 S1 x1 h1 k1 => ?_
  obtain ⟨key, hk, k1⟩ := k1
  refine k1 ρ av o σ H1 S1 _ fun y H2 e n2 S2 x2 h2 k2 => ?_
  refine k2 ρ av o σ H2 S2 _ fun kvs H3 ks ds m S3 x3 e3 h3 k3 => ?_
  have ex : x = kV key := by
    cases h1 <;> cases hk <;> rfl
  rw [ex]
  exact q ((key, y) :: kvs) H3 (key :: ks) (e :: ds) m S3 ((x1.trans x2).trans x3) (by rw [List.map_cons, e3]) (.cons (h2.keep (x3.kp S.pa)) h3) k3
theorem w_disp (h : Wp c Γ n trs fun ks ds m => ks.Nodup ∧ ks.length ≤ 15 ∧ k (.dic ks ds) m) : We c Γ n (tDisp trs) k := by
  intro ρ av o σ H S Q q p hp
  have np : ¬ av p := S.live.new hp
  obtain ⟨npa, npl⟩ := S.pen.ne hp
  refine h ρ _ o σ _ (S.apart hp (.dK [])) _ fun kvs H2 ks ds m S2 x2 ek hd kk => ?_
  have h2p : H2 p = some (.dK []) := x2 p _ npa upd_same rfl
  refine ⟨h2p, kvs, rfl, by rw [← ek, List.length_map] at kk; exact kk.2.1, ?_⟩
  rw [merge_app kvs [] (by rw [List.nil_append, ek]; exact kk.1), List.nil_append]
  have st : Stp c.a H (upd H2 p (.dK kvs)) := fun b u hb e t => by
    rw [upd_ne (ne_of_none e hp)]
    exact x2 b u hb (by rw [upd_ne (ne_of_none e hp)]; exact e) t
  have pn : Pen c.a c.l c.ns c.T m (upd H2 p (.dK kvs)) := S2.pen.upd npa npl h2p rfl rfl
  have kpp : Kp (fun q => av q ∨ q = p) H2 (upd H2 p (.dK kvs)) := fun b u hb e _ => by
    rw [upd_ne fun z => hb (.inr z)]
    exact e
  exact q _ _ (.dic ks ds) m (S.stp st pn) st (.dic np upd_same ek ((hd.keep kpp).less fun q z => .inl z)) kk.2.2
end
/-! ### branches, ends -/
theorem ite_t {b : Bool} {A B : Prop} (h : b = true) (a : A) : if b = true then A else B := by rw [if_pos h]; exact a
theorem ite_f {b : Bool} {A B : Prop} (h : b = false) (a : B) : if b = true then A else B := by rw [if_neg (by rw [h]; decide)]; exact a
theorem ite_b {b : Bool} {A B : Prop} (h : b = true → A) (h2 : b = false → B) : if b = true then A else B := by
  cases b
  · exact ite_f rfl (h2 rfl)
  · exact ite_t rfl (h rfl)
theorem ex_bl {x : Bool} {p : Bool → Prop} (h : p x) : ∃ b, Dt.bl x = .bl b ∧ p b := ⟨x, rfl, h⟩
theorem ex_int {x : Int} {p : Int → Prop} (h : p x) : ∃ b, Dt.int x = .int b ∧ p b := ⟨x, rfl, h⟩
theorem ex_str {x : Str} {p : Str → Prop} (h : p x) : ∃ b, Dt.str x = .str b ∧ p b := ⟨x, rfl, h⟩
theorem ex_tr {d : Dt} {x : Bool} {p : Bool → Prop} (e : truD d = some x) (h : p x) : ∃ b, truD d = some b ∧ p b := ⟨x, e, h⟩
theorem ex_tn {d : Dt} {x : Tn} {p : Tn → Prop} (e : d.tn = some x) (h : p x) : ∃ b, d.tn = some b ∧ p b := ⟨x, e, h⟩
theorem ex_sq {d : Dt} {x : List Dt} {p : List Dt → Prop} (e : seqD d = some x) (h : p x) : ∃ b, seqD d = some b ∧ p b := ⟨x, e, h⟩
theorem ex_key {d : Dt} {x : Key} {p : Key → Prop} (e : keyD d = some x) (h : p x) : ∃ b, keyD d = some b ∧ p b := ⟨x, e, h⟩
inductive Al (R : Dt → Dt → Prop) : List Dt → List Dt → Prop
  | nil : Al R [] []
  | cons {d e : Dt} {ds es : List Dt} : R d e → Al R ds es → Al R (d :: ds) (e :: es)
theorem Al.len {R : Dt → Dt → Prop} : ∀ {ds es : List Dt}, Al R ds es → es.length = ds.length
  | _, _, .nil => rfl
  | _, _, .cons _ t => by rw [List.length_cons, List.length_cons, t.len]
theorem Al.app {R : Dt → Dt → Prop} : ∀ {ds es fs gs : List Dt}, Al R ds es → Al R fs gs → Al R (ds ++ fs) (es ++ gs)
  | _, _, _, _, .nil, h => h
  | _, _, _, _, .cons h t, q => .cons h (t.app q)
theorem Al.all {R : Dt → Dt → Prop} {P : Dt → Prop} : ∀ {ds es : List Dt}, Al R ds es → (∀ d e, R d e → P e) → ∀ e ∈ es, P e
  | _, _, .nil, _, e, h => by cases h
  | _, _, .cons h t, q, e, z => by
    cases z with
    | head => exact q _ _ h
    | tail _ z => exact t.all q e z
/-! ### comprehensions and loops, by what a turn gives and what it draws -/
section
variable {c : Fc} {Γ : List Sl} {n : Nat} {k : Kd} {wi : TI} {g : TG} {tt : TT} {te : TE} {vs js : List Nat} {tb : TS} {N : Nd}
/-- element by element: R i d e; q draws a turn -/
theorem lc_rel (q : Nat) (R : Dt → Dt → Prop) {ds : List Dt} (hq : ds.length * q ≤ n) (hz : szOk ds.length = true)
    (turn : ∀ d ∈ ds, ∀ m, q ≤ m → Wg c (wipeG Γ vs) m js g d fun Γ2 m2 => We c Γ2 m2 te fun e m4 => R d e ∧ m ≤ m4 + q) {k : List Dt → Nat → Prop}
    (done : ∀ es m, Al R ds es → n ≤ m + ds.length * q → k es m) : LcAsk c Γ js vs g tYes te ds n k := by
  refine ⟨fun i es m => i ≤ ds.length ∧ Al R (ds.take i) es ∧ n ≤ m + i * q, ⟨Nat.zero_le _, .nil, by omega⟩, fun i es m d hd h => ?_, fun es m h => ?_⟩
  · obtain ⟨h1, h2, h3⟩ := h
    obtain ⟨hi, ed⟩ := List.getElem?_eq_some_iff.mp hd
    have hqm : q ≤ m := by
      have : (i + 1) * q ≤ ds.length * q := Nat.mul_le_mul_right q hi
      rw [Nat.add_mul, Nat.one_mul] at this
      omega
    intro ρ av o σ H v S da Q hQ
    refine turn d (ed ▸ List.getElem_mem hi) m hqm ρ av o σ H v S da Q fun Γ' σ' S' b kk => ?_
    refine hQ Γ' σ' S' b (wt_yes (ite_t rfl (kk.mono fun e m4 z => ⟨?_, hi, ?_, ?_⟩)))
    · have e1 : es.length = i := by
        have := h2.len
        rw [List.length_take, Nat.min_eq_left (Nat.le_of_lt hi)] at this
        exact this
      rw [e1]
      have := Nat.le_of_ble_eq_true hz
      exact Nat.ble_eq_true_of_le (show i + 1 ≤ 16777216 by omega)
    · rw [List.take_succ, hd]
      exact h2.app (.cons z.1 .nil)
    · rw [Nat.add_mul, Nat.one_mul]
      have := z.2
      omega
  · obtain ⟨h1, h2, h3⟩ := h
    rw [List.take_length] at h2
    exact done es m h2 h3
/-- by a function, without a draw -/
theorem lc_fun (f : Dt → Dt) {ds : List Dt} (hz : szOk ds.length = true)
    (turn : ∀ d ∈ ds, ∀ m, Wg c (wipeG Γ vs) m js g d fun Γ2 m2 => We c Γ2 m2 te fun e m4 => e = f d ∧ m ≤ m4) {k : List Dt → Nat → Prop}
    (done : ∀ m, n ≤ m → k (ds.map f) m) : LcAsk c Γ js vs g tYes te ds n k := by
  refine lc_rel 0 (fun d e => e = f d) (by omega) hz (fun d hd m _ => ?_) fun es m h hm => ?_
  · intro ρ av o σ H v S da Q hQ
    exact turn d hd m ρ av o σ H v S da Q fun Γ' σ' S' b kk => hQ Γ' σ' S' b (kk.mono fun e m4 z => ⟨z.1, by have := z.2; omega⟩)
  · have e : es = ds.map f := by
      clear hz turn done hm
      induction h with
      | nil => rfl
      | cons h t ih => rw [List.map_cons, ← ih, h]
    rw [e]
    exact done m (by omega)
/-- with a condition, without a draw -/
theorem lc_fil (p : Dt → Bool) (f : Dt → Dt) {ds : List Dt} (hz : szOk ds.length = true)
    (turn : ∀ d ∈ ds, ∀ m, Wg c (wipeG Γ vs) m js g d fun Γ2 m2 => Wt c Γ2 m2 tt fun b m3 => b = p d ∧ m ≤ m3 ∧ (b = true → We c Γ2 m3 te fun e m4 => e = f d ∧ m ≤ m4)) {k : List Dt → Nat → Prop}
    (done : ∀ m, n ≤ m → k ((ds.filter p).map f) m) : LcAsk c Γ js vs g tt te ds n k := by
  refine ⟨fun i es m => i ≤ ds.length ∧ es = ((ds.take i).filter p).map f ∧ n ≤ m, ⟨Nat.zero_le _, rfl, Nat.le_refl _⟩, fun i es m d hd h => ?_, fun es m h => ?_⟩
  · obtain ⟨h1, h2, h3⟩ := h
    obtain ⟨hi, ed⟩ := List.getElem?_eq_some_iff.mp hd
    intro ρ av o σ H v S da Q hQ
    refine turn d (ed ▸ List.getElem_mem hi) m ρ av o σ H v S da Q fun Γ' σ' S' b kk => ?_
    refine hQ Γ' σ' S' b fun ρ av o σ H S Q hQ => kk ρ av o σ H S Q fun b H' n' S' x z => hQ b H' n' S' x ?_
    obtain ⟨e1, e2, e3⟩ := z
    refine ite_b (fun hb => (e3 hb).mono fun e m4 z => ⟨?_, hi, ?_, by have := z.2; omega⟩) fun hb => ⟨hi, ?_, by omega⟩
    · rw [h2, List.length_map]
      have a := List.length_filter_le p (ds.take i)
      rw [List.length_take] at a
      have := Nat.le_of_ble_eq_true hz
      exact Nat.ble_eq_true_of_le (show _ + 1 ≤ 16777216 by omega)
    · rw [List.take_succ, hd, List.filter_append, List.map_append, h2, z.1]
      show _ = _ ++ List.map f (List.filter p [d])
      rw [List.filter_cons, if_pos (e1 ▸ hb)]
      rfl
    · rw [List.take_succ, hd, List.filter_append, List.map_append, h2]
      show _ = _ ++ List.map f (List.filter p [d])
      rw [List.filter_cons, if_neg (by rw [← e1, hb]; decide)]
      exact (List.append_nil _).symm
  · obtain ⟨h1, h2, h3⟩ := h
    rw [List.take_length] at h2
    rw [h2]
    exact done m h3
/-- a loop: J by the turn; q draws a turn -/
theorem for_by (q : Nat) (J : Nat → List Sl → Prop) {ds : List Dt} (hq : ds.length * q ≤ n) (h0 : J 0 (Γ.map outS))
    (turn : ∀ i Γ' m d, ds[i]? = some d → J i Γ' → q ≤ m → n ≤ m + i * q → Wg c Γ' m js g d fun Γ2 m2 => Ws c Γ2 m2 tb
      { nx := fun Γ3 m3 => J (i + 1) Γ3 ∧ m ≤ m3 + q, ct := fun Γ3 m3 => J (i + 1) Γ3 ∧ m ≤ m3 + q, rt := N.rt, bk := fun Γ3 m3 => N.nx (back Γ Γ3) m3 })
    (done : ∀ Γ' m, J ds.length Γ' → n ≤ m + ds.length * q → N.nx (back Γ Γ') m) :
    ∃ I : Nat → List Sl → Nat → Prop, I 0 (Γ.map outS) n ∧
      (∀ i Γ' m d, ds[i]? = some d → Γ'.length = Γ.length → I i Γ' m → Wg c Γ' m js g d fun Γ2 m2 => Ws c Γ2 m2 tb { nx := I (i + 1), ct := I (i + 1), rt := N.rt, bk := fun Γ3 m3 => N.nx (back Γ Γ3) m3 }) ∧
      (∀ Γ' m, Γ'.length = Γ.length → I ds.length Γ' m → N.nx (back Γ Γ') m) := by
  refine ⟨fun i Γ' m => J i Γ' ∧ n ≤ m + i * q, ⟨h0, by omega⟩, fun i Γ' m d hd _ h => ?_, fun Γ' m _ h => done Γ' m h.1 h.2⟩
  obtain ⟨h1, h2⟩ := h
  obtain ⟨hi, ed⟩ := List.getElem?_eq_some_iff.mp hd
  have hqm : q ≤ m := by
    have : (i + 1) * q ≤ ds.length * q := Nat.mul_le_mul_right q hi
    rw [Nat.add_mul, Nat.one_mul] at this
    omega
  intro ρ av o σ H v S da Q hQ
  refine turn i Γ' m d hd h1 hqm h2 ρ av o σ H v S da Q fun Γ2 σ' S' b kk => ?_
  refine hQ Γ2 σ' S' b fun ρ av o σ H S D L => kk ρ av o σ H S D ⟨fun av o Γ n' σ H S z => L.nx av o Γ n' σ H S ⟨z.1, ?_⟩, L.rt, L.bk, fun av o Γ n' σ H S z => L.ct av o Γ n' σ H S ⟨z.1, ?_⟩⟩
  · rw [Nat.add_mul, Nat.one_mul]; have := z.2; omega
  · rw [Nat.add_mul, Nat.one_mul]; have := z.2; omega
end
/-- a draw -/
theorem c_draw {c : Fc} {n : Nat} {k : Kd} {E : XK} {m : Int} (h1 : 0 < m) (h2 : m < 1073741824) (h3 : 1 ≤ n) (h : ∀ i : Int, 0 ≤ i → i < m → k (.int i) (n - 1)) : RCD c (fun vs H Q => spD c.K c.mg c.T S_draw vs H Q E) [.pen, .int m] n k :=
  w_call0 rfl rfl rfl h3 (draw_pre h1 h2) (fun d hd => by
    obtain ⟨i, rfl, a, b⟩ := draw_post hd
    exact h i a b) fun _ _ z => z
end Pb
namespace Pb
open PySem PySem.Spec PyProof.Rows L2

/-! ### promises by the number of values -/
def sp1 (cost : Nat) (pre : Dt → Prop) (post : Dt → Dt → Prop) : Sp1 where
  cost := cost
  pre := fun ds => ∃ a, ds = [a] ∧ pre a
  post := fun ds e => ∃ a, ds = [a] ∧ post a e
def sp2 (cost : Nat) (pre : Dt → Dt → Prop) (post : Dt → Dt → Dt → Prop) : Sp1 where
  cost := cost
  pre := fun ds => ∃ a b, ds = [a, b] ∧ pre a b
  post := fun ds e => ∃ a b, ds = [a, b] ∧ post a b e
def sp3 (cost : Nat) (pre : Dt → Dt → Dt → Prop) (post : Dt → Dt → Dt → Dt → Prop) : Sp1 where
  cost := cost
  pre := fun ds => ∃ a b x, ds = [a, b, x] ∧ pre a b x
  post := fun ds e => ∃ a b x, ds = [a, b, x] ∧ post a b x e
def sp4 (cost : Nat) (pre : Dt → Dt → Dt → Dt → Prop) (post : Dt → Dt → Dt → Dt → Dt → Prop) : Sp1 where
  cost := cost
  pre := fun ds => ∃ a b x y, ds = [a, b, x, y] ∧ pre a b x y
  post := fun ds e => ∃ a b x y, ds = [a, b, x, y] ∧ post a b x y e
/-- the end of a body -/
abbrev nd (n : Nat) (post : Dt → Prop) : Nd := { nx := fun _ n' => post .non ∧ n ≤ n', rt := fun e n' => post e ∧ n ≤ n' }
section
variable {c : Fc} {n cost : Nat} {k : Kd} {E : XK} {N : List Str} {t : TS}
theorem c_fn1 {pre : Dt → Prop} {post : Dt → Dt → Prop} {a : Dt} (hc : cost ≤ n) (hp : pre a) (h : ∀ e, post a e → k e (n - cost)) : RCD c (fun vs H Q => spD c.K c.mg c.T (sp1 cost pre post) vs H Q E) [a] n k :=
  w_call0 rfl rfl rfl hc ⟨a, rfl, hp⟩ (fun e q => by obtain ⟨a', q1, q2⟩ := q; cases q1; exact h e q2) fun _ _ z => z
theorem c_fn2 {pre : Dt → Dt → Prop} {post : Dt → Dt → Dt → Prop} {a b : Dt} (hc : cost ≤ n) (hp : pre a b) (h : ∀ e, post a b e → k e (n - cost)) : RCD c (fun vs H Q => spD c.K c.mg c.T (sp2 cost pre post) vs H Q E) [a, b] n k :=
  w_call0 rfl rfl rfl hc ⟨a, b, rfl, hp⟩ (fun e q => by obtain ⟨a', b', q1, q2⟩ := q; cases q1; exact h e q2) fun _ _ z => z
theorem c_fn3 {pre : Dt → Dt → Dt → Prop} {post : Dt → Dt → Dt → Dt → Prop} {a b x : Dt} (hc : cost ≤ n) (hp : pre a b x) (h : ∀ e, post a b x e → k e (n - cost)) : RCD c (fun vs H Q => spD c.K c.mg c.T (sp3 cost pre post) vs H Q E) [a, b, x] n k :=
  w_call0 rfl rfl rfl hc ⟨a, b, x, rfl, hp⟩ (fun e q => by obtain ⟨a', b', x', q1, q2⟩ := q; cases q1; exact h e q2) fun _ _ z => z
theorem c_fn4 {pre : Dt → Dt → Dt → Dt → Prop} {post : Dt → Dt → Dt → Dt → Dt → Prop} {a b x y : Dt} (hc : cost ≤ n) (hp : pre a b x y) (h : ∀ e, post a b x y e → k e (n - cost)) : RCD c (fun vs H Q => spD c.K c.mg c.T (sp4 cost pre post) vs H Q E) [a, b, x, y] n k :=
  w_call0 rfl rfl rfl hc ⟨a, b, x, y, rfl, hp⟩ (fun e q => by obtain ⟨a', b', x', y', q1, q2⟩ := q; cases q1; exact h e q2) fun _ _ z => z
theorem Ws.mono {Γ : List Sl} {M M' : Nd} (h : Ws c Γ n t M) (h1 : ∀ Γ m, M.nx Γ m → M'.nx Γ m) (h2 : ∀ d m, M.rt d m → M'.rt d m) (h3 : ∀ Γ m, M.bk Γ m → M'.bk Γ m) (h4 : ∀ Γ m, M.ct Γ m → M'.ct Γ m) : Ws c Γ n t M' :=
  fun ρ av o σ H S D L => h ρ av o σ H S D ⟨fun av o Γ n σ H S q => L.nx av o Γ n σ H S (h1 _ _ q), fun av v H d n s kp p da q => L.rt av v H d n s kp p da (h2 _ _ q), fun av o Γ n σ H S q => L.bk av o Γ n σ H S (h3 _ _ q), fun av o Γ n σ H S q => L.ct av o Γ n σ H S (h4 _ _ q)⟩
/-- a sequence, cut: P holds between -/
theorem w_cut {Γ : List Sl} {u : TS} {M : Nd} (P : List Sl → Nat → Prop) (h : Ws c Γ n t { M with nx := P }) (h2 : ∀ Γ' n', P Γ' n' → Ws c Γ' n' u M) : Ws c Γ n (tSeq t u) M :=
  w_seq (h.mono h2 (fun _ _ z => z) (fun _ _ z => z) fun _ _ z => z)
theorem b_fn1 {pre : Dt → Prop} {post : Dt → Dt → Prop} (h : ∀ a n, pre a → Ws c (gam N [a]) (n + cost) t (nd n (post a))) : ∀ ds n, (sp1 cost pre post).pre ds → Ws c (gam N ds) (n + (sp1 cost pre post).cost) t (ndOf (sp1 cost pre post) ds n) := by
  rintro ds n ⟨a, rfl, hp⟩
  exact (h a n hp).mono (fun _ _ z => ⟨⟨a, rfl, z.1⟩, z.2⟩) (fun _ _ z => ⟨⟨a, rfl, z.1⟩, z.2⟩) (fun _ _ z => z) fun _ _ z => z
theorem b_fn2 {pre : Dt → Dt → Prop} {post : Dt → Dt → Dt → Prop} (h : ∀ a b n, pre a b → Ws c (gam N [a, b]) (n + cost) t (nd n (post a b))) : ∀ ds n, (sp2 cost pre post).pre ds → Ws c (gam N ds) (n + (sp2 cost pre post).cost) t (ndOf (sp2 cost pre post) ds n) := by
  rintro ds n ⟨a, b, rfl, hp⟩
  exact (h a b n hp).mono (fun _ _ z => ⟨⟨a, b, rfl, z.1⟩, z.2⟩) (fun _ _ z => ⟨⟨a, b, rfl, z.1⟩, z.2⟩) (fun _ _ z => z) fun _ _ z => z
theorem b_fn3 {pre : Dt → Dt → Dt → Prop} {post : Dt → Dt → Dt → Dt → Prop} (h : ∀ a b x n, pre a b x → Ws c (gam N [a, b, x]) (n + cost) t (nd n (post a b x))) : ∀ ds n, (sp3 cost pre post).pre ds → Ws c (gam N ds) (n + (sp3 cost pre post).cost) t (ndOf (sp3 cost pre post) ds n) := by
  rintro ds n ⟨a, b, x, rfl, hp⟩
  exact (h a b x n hp).mono (fun _ _ z => ⟨⟨a, b, x, rfl, z.1⟩, z.2⟩) (fun _ _ z => ⟨⟨a, b, x, rfl, z.1⟩, z.2⟩) (fun _ _ z => z) fun _ _ z => z
theorem b_fn4 {pre : Dt → Dt → Dt → Dt → Prop} {post : Dt → Dt → Dt → Dt → Dt → Prop} (h : ∀ a b x y n, pre a b x y → Ws c (gam N [a, b, x, y]) (n + cost) t (nd n (post a b x y))) : ∀ ds n, (sp4 cost pre post).pre ds → Ws c (gam N ds) (n + (sp4 cost pre post).cost) t (ndOf (sp4 cost pre post) ds n) := by
  rintro ds n ⟨a, b, x, y, rfl, hp⟩
  exact (h a b x y n hp).mono (fun _ _ z => ⟨⟨a, b, x, y, rfl, z.1⟩, z.2⟩) (fun _ _ z => ⟨⟨a, b, x, y, rfl, z.1⟩, z.2⟩) (fun _ _ z => z) fun _ _ z => z
theorem l_fn1 {pre : Dt → Prop} {post : Dt → Dt → Prop} : ∀ ds, (sp1 cost pre post).pre ds → ds.length = 1 := by rintro ds ⟨a, rfl, _⟩; rfl
theorem l_fn2 {pre : Dt → Dt → Prop} {post : Dt → Dt → Dt → Prop} : ∀ ds, (sp2 cost pre post).pre ds → ds.length = 2 := by rintro ds ⟨a, b, rfl, _⟩; rfl
theorem l_fn3 {pre : Dt → Dt → Dt → Prop} {post : Dt → Dt → Dt → Dt → Prop} : ∀ ds, (sp3 cost pre post).pre ds → ds.length = 3 := by rintro ds ⟨a, b, _, rfl, _⟩; rfl
theorem l_fn4 {pre : Dt → Dt → Dt → Dt → Prop} {post : Dt → Dt → Dt → Dt → Dt → Prop} : ∀ ds, (sp4 cost pre post).pre ds → ds.length = 4 := by rintro ds ⟨a, b, _, _, rfl, _⟩; rfl
theorem l_draw : ∀ ds, S_draw.pre ds → ds.length = 2 := by rintro ds ⟨m, rfl, _⟩; rfl
theorem b_draw (h : ∀ (m : Int) n, 0 < m → m < 1073741824 → Ws c (gam N [.pen, .int m]) (n + 1) t (nd n fun e => ∃ i : Int, e = .int i ∧ 0 ≤ i ∧ i < m)) : ∀ ds n, S_draw.pre ds → Ws c (gam N ds) (n + S_draw.cost) t (ndOf S_draw ds n) := by
  rintro ds n ⟨m, rfl, h1, h2⟩
  refine (h m n h1 h2).mono (fun _ _ z => ?_) (fun _ _ z => ?_) (fun _ _ z => z) fun _ _ z => z
  · obtain ⟨⟨i, q1, q2, q3⟩, q4⟩ := z
    exact ⟨⟨m, i, rfl, q1, q2, q3⟩, q4⟩
  · obtain ⟨⟨i, q1, q2, q3⟩, q4⟩ := z
    exact ⟨⟨m, i, rfl, q1, q2, q3⟩, q4⟩
end
/-! ### places, lengths -/
theorem atI_nat {α : Type} {xs : List α} {i : Int} (h0 : 0 ≤ i) (h1 : i < xs.length) : ∃ d, atI xs i = some d ∧ d ∈ xs := by
  have hi : i.toNat < xs.length := by omega
  refine ⟨xs[i.toNat], ?_, List.getElem_mem hi⟩
  unfold atI ixN
  rw [if_pos h0, if_pos (by omega)]
  show xs[i.toNat]? = _
  exact List.getElem?_eq_getElem hi
theorem r_ixL_any {c : Fc} {n : Nat} {k : Dt → Prop} {ds : List Dt} {i : Int} (h0 : 0 ≤ i) (h1 : i < ds.length) (h : ∀ d ∈ ds, k d) : R2D c n (rIx c.K) (.lst ds) (.int i) k := by
  obtain ⟨d, e, m⟩ := atI_nat h0 h1
  exact r_ixL e (h d m)
theorem r_ixT_any {c : Fc} {n : Nat} {k : Dt → Prop} {ds : List Dt} {i : Int} (h0 : 0 ≤ i) (h1 : i < ds.length) (h : ∀ d ∈ ds, k d) : R2D c n (rIx c.K) (.tup ds) (.int i) k := by
  obtain ⟨d, e, m⟩ := atI_nat h0 h1
  exact r_ixT e (h d m)
theorem r_ixS_any {c : Fc} {n : Nat} {k : Dt → Prop} {z : Str} {i : Int} (hz : szOk z.length = true) (h0 : 0 ≤ i) (h1 : i < z.length) (h : ∀ s ∈ z.cps.toList, k (.str ⟨#[s]⟩)) : R2D c n (rIx c.K) (.str z) (.int i) k := by
  obtain ⟨d, e, m⟩ := atI_nat (xs := z.cps.toList) h0 (by rw [Array.length_toList]; exact h1)
  exact r_ixS hz e (h d m)
theorem sz_of {n m : Nat} (h : n ≤ m) (hm : szOk m = true) : szOk n = true := by
  have := Nat.le_of_ble_eq_true hm
  exact Nat.ble_eq_true_of_le (by omega)
theorem cutS_len (z : Str) (lo hi : Option Int) : (cutS z lo hi).length ≤ z.length := by
  show ((z.cps.toList.drop (HT.sIx z.length 0 lo)).take (HT.sIx z.length z.length hi - HT.sIx z.length 0 lo)).toArray.size ≤ z.cps.size
  rw [List.size_toArray, List.length_take, List.length_drop, Array.length_toList]
  omega
theorem join_len {z : Str} {ys : List Str} {b : Nat} (h : ∀ y ∈ ys, y.length ≤ b) : (ys.map (·.length)).sum ≤ ys.length * b := by
  induction ys with
  | nil => simp
  | cons y ys ih =>
    rw [List.map_cons, List.sum_cons, List.length_cons, Nat.add_mul, Nat.one_mul]
    have := h y (by simp)
    have := ih fun y hy => h y (by simp [hy])
    omega
theorem joined_len (z : Str) (ys : List Str) : (Txt.join z ys).length ≤ (ys.map (·.length)).sum + ys.length * z.length := by
  show (Builtin.Str.glued z ys).length ≤ _
  rw [StrLaws.glued_eq_join]
  exact StrLaws.join_length_le z ys
/-- a list of texts -/
theorem strs_of {ds : List Dt} {p : Str → Prop} (h : ∀ d ∈ ds, ∃ z, d = .str z ∧ p z) : ∃ ys : List Str, ds = ys.map Dt.str ∧ ∀ y ∈ ys, p y := by
  induction ds with
  | nil => exact ⟨[], rfl, by simp⟩
  | cons d ds ih =>
    obtain ⟨z, rfl, hz⟩ := h d (by simp)
    obtain ⟨ys, rfl, hy⟩ := ih fun e he => h e (by simp [he])
    refine ⟨z :: ys, rfl, fun y q => ?_⟩
    cases q with
    | head => exact hz
    | tail _ q => exact hy y q
/-! ### plain data: equality -/
mutual
/-- no dict, no object, no pen; nested k deep at most -/
def Dt.pl : Nat → Dt → Bool
  | _, .non => true
  | _, .bl _ => true
  | _, .int _ => true
  | _, .str x => PyData.strOk x
  | k + 1, .lst xs => Dt.pls k xs
  | k + 1, .tup xs => Dt.pls k xs
  | _, _ => false
def Dt.pls : Nat → List Dt → Bool
  | _, [] => true
  | k, x :: xs => Dt.pl k x && Dt.pls k xs
end
mutual
def Dt.eqv : Dt → Dt → Bool
  | .non, .non => true
  | .bl a, .bl b => a == b
  | .bl a, .int j => (if a then 1 else 0) == j
  | .int i, .bl b => i == (if b then 1 else 0)
  | .int i, .int j => i == j
  | .str x, .str y => x == y
  | .lst xs, .lst ys => Dt.eqvs xs ys
  | .tup xs, .tup ys => Dt.eqvs xs ys
  | _, _ => false
def Dt.eqvs : List Dt → List Dt → Bool
  | [], [] => true
  | x :: xs, y :: ys => Dt.eqv x y && Dt.eqvs xs ys
  | _, _ => false
end
mutual
theorem pl_py : ∀ (k : Nat) (d : Dt), d.pl k = true → ∃ e, d.py = some e ∧ e.canLay0 = true ∧ e.depth ≤ k
  | _, .non, _ => ⟨.none, rfl, rfl, Nat.zero_le _⟩
  | _, .bl b, _ => ⟨.bool b, rfl, rfl, Nat.zero_le _⟩
  | _, .int i, _ => ⟨.int i, rfl, rfl, Nat.zero_le _⟩
  | _, .str x, h => ⟨.str x, rfl, by simpa [Dt.pl, PyData.canLay0] using h, Nat.zero_le _⟩
  | 0, .lst xs, h => by simp [Dt.pl] at h
  | 0, .tup xs, h => by simp [Dt.pl] at h
  | k + 1, .lst xs, h => by
    obtain ⟨es, h1, h2, h3⟩ := pls_py k xs (by simpa [Dt.pl] using h)
    refine ⟨.list es, ?_, by simpa [PyData.canLay0] using h2, by simpa [PyData.depth] using h3⟩
    show (Dt.pyAll xs).map PyData.list = _
    rw [h1]; rfl
  | k + 1, .tup xs, h => by
    obtain ⟨es, h1, h2, h3⟩ := pls_py k xs (by simpa [Dt.pl] using h)
    refine ⟨.tuple es, ?_, by simpa [PyData.canLay0] using h2, by simpa [PyData.depth] using h3⟩
    show (Dt.pyAll xs).map PyData.tuple = _
    rw [h1]; rfl
  | _, .dic _ _, h => by simp [Dt.pl] at h
  | _, .obj _ _ _, h => by simp [Dt.pl] at h
  | _, .err _ _ _, h => by simp [Dt.pl] at h
  | _, .pen, h => by simp [Dt.pl] at h
theorem pls_py : ∀ (k : Nat) (ds : List Dt), Dt.pls k ds = true → ∃ es, Dt.pyAll ds = some es ∧ PyData.canLayAll0 es = true ∧ PyData.depthAll es ≤ k
  | _, [], _ => ⟨[], rfl, rfl, Nat.zero_le _⟩
  | k, d :: ds, h => by
    have h' : d.pl k = true ∧ Dt.pls k ds = true := by simpa [Dt.pls] using h
    obtain ⟨e, h1, h2, h3⟩ := pl_py k d h'.1
    obtain ⟨es, h4, h5, h6⟩ := pls_py k ds h'.2
    refine ⟨e :: es, ?_, by simp [PyData.canLayAll0, h2, h5], by simp [PyData.depthAll]; omega⟩
    show ((Dt.py d).bind fun x => (Dt.pyAll ds).map fun xs => x :: xs) = _
    rw [h1, h4]; rfl
end
theorem py_lst {xs : List Dt} {a : PyData} (h : Dt.py (.lst xs) = some a) : ∃ as, Dt.pyAll xs = some as ∧ a = .list as := by
  have h' : (Dt.pyAll xs).map PyData.list = some a := h
  obtain ⟨as, q, rfl⟩ := Option.map_eq_some_iff.mp h'
  exact ⟨as, q, rfl⟩
theorem py_tup {xs : List Dt} {a : PyData} (h : Dt.py (.tup xs) = some a) : ∃ as, Dt.pyAll xs = some as ∧ a = .tuple as := by
  have h' : (Dt.pyAll xs).map PyData.tuple = some a := h
  obtain ⟨as, q, rfl⟩ := Option.map_eq_some_iff.mp h'
  exact ⟨as, q, rfl⟩
theorem pys_cons {d : Dt} {ds : List Dt} {as : List PyData} (h : Dt.pyAll (d :: ds) = some as) : ∃ b bs, Dt.py d = some b ∧ Dt.pyAll ds = some bs ∧ as = b :: bs := by
  have q' : ((Dt.py d).bind fun x => (Dt.pyAll ds).map fun xs => x :: xs) = some as := h
  obtain ⟨x, q1, q2⟩ := Option.bind_eq_some_iff.mp q'
  obtain ⟨xs, q3, q4⟩ := Option.map_eq_some_iff.mp q2
  exact ⟨x, xs, q1, q3, q4.symm⟩
mutual
theorem eqv_py : ∀ (d e : Dt) (a b : PyData), d.py = some a → e.py = some b → PyData.eqv a b = Dt.eqv d e
  | .lst xs, e, a, b, h1, h2 => by
    obtain ⟨as, q, rfl⟩ := py_lst h1
    cases e with
    | lst ys =>
      obtain ⟨bs, q2, rfl⟩ := py_lst h2
      simp only [PyData.eqv, Dt.eqv]
      exact eqvs_py xs ys as bs q q2
    | tup ys => obtain ⟨bs, q2, rfl⟩ := py_tup h2; rfl
    | dic _ _ => cases h2
    | obj _ _ _ => cases h2
    | err _ _ _ => cases h2
    | pen => cases h2
    | _ => cases h2; rfl
  | .tup xs, e, a, b, h1, h2 => by
    obtain ⟨as, q, rfl⟩ := py_tup h1
    cases e with
    | tup ys =>
      obtain ⟨bs, q2, rfl⟩ := py_tup h2
      simp only [PyData.eqv, Dt.eqv]
      exact eqvs_py xs ys as bs q q2
    | lst ys => obtain ⟨bs, q2, rfl⟩ := py_lst h2; rfl
    | dic _ _ => cases h2
    | obj _ _ _ => cases h2
    | err _ _ _ => cases h2
    | pen => cases h2
    | _ => cases h2; rfl
  | .dic _ _, _, _, _, h1, _ => by cases h1
  | .obj _ _ _, _, _, _, h1, _ => by cases h1
  | .err _ _ _, _, _, _, h1, _ => by cases h1
  | .pen, _, _, _, h1, _ => by cases h1
  | .non, e, a, b, h1, h2 => by
    cases h1
    cases e with
    | lst ys => obtain ⟨bs, q2, rfl⟩ := py_lst h2; rfl
    | tup ys => obtain ⟨bs, q2, rfl⟩ := py_tup h2; rfl
    | dic _ _ => cases h2
    | obj _ _ _ => cases h2
    | err _ _ _ => cases h2
    | pen => cases h2
    | _ => cases h2; rfl
  | .bl _, e, a, b, h1, h2 => by
    cases h1
    cases e with
    | lst ys => obtain ⟨bs, q2, rfl⟩ := py_lst h2; rfl
    | tup ys => obtain ⟨bs, q2, rfl⟩ := py_tup h2; rfl
    | dic _ _ => cases h2
    | obj _ _ _ => cases h2
    | err _ _ _ => cases h2
    | pen => cases h2
    | _ => cases h2; rfl
  | .int _, e, a, b, h1, h2 => by
    cases h1
    cases e with
    | lst ys => obtain ⟨bs, q2, rfl⟩ := py_lst h2; rfl
    | tup ys => obtain ⟨bs, q2, rfl⟩ := py_tup h2; rfl
    | dic _ _ => cases h2
    | obj _ _ _ => cases h2
    | err _ _ _ => cases h2
    | pen => cases h2
    | _ => cases h2; rfl
  | .str _, e, a, b, h1, h2 => by
    cases h1
    cases e with
    | lst ys => obtain ⟨bs, q2, rfl⟩ := py_lst h2; rfl
    | tup ys => obtain ⟨bs, q2, rfl⟩ := py_tup h2; rfl
    | dic _ _ => cases h2
    | obj _ _ _ => cases h2
    | err _ _ _ => cases h2
    | pen => cases h2
    | _ => cases h2; rfl
theorem eqvs_py : ∀ (ds es : List Dt) (as bs : List PyData), Dt.pyAll ds = some as → Dt.pyAll es = some bs → PyData.eqvAll as bs = Dt.eqvs ds es
  | [], es, as, bs, h1, h2 => by
    cases h1
    cases es with
    | nil => cases h2; rfl
    | cons e es => obtain ⟨b, bs', _, _, rfl⟩ := pys_cons h2; rfl
  | d :: ds, es, as, bs, h1, h2 => by
    obtain ⟨a, as', q1, q2, rfl⟩ := pys_cons h1
    cases es with
    | nil => cases h2; rfl
    | cons e es =>
      obtain ⟨b, bs', q3, q4, rfl⟩ := pys_cons h2
      simp only [PyData.eqvAll, Dt.eqvs]
      rw [eqv_py d e a b q1 q3, eqvs_py ds es as' bs' q2 q4]
end
theorem r_eqP {c : Fc} {n : Nat} {k : Dt → Prop} {d e : Dt} (hd : d.pl 20 = true) (he : e.pl 20 = true) (h : k (.bl (d.eqv e))) : R2D c n (rEqX c.K) d e k := by
  obtain ⟨a, h1, h2, h3⟩ := pl_py 20 d hd
  obtain ⟨b, h4, h5, h6⟩ := pl_py 20 e he
  refine r_eqD h1 h4 ?_ ?_ (by rw [eqv_py d e a b h1 h4]; exact h)
  · show (a.canLay0 && decide (a.depth ≤ 64)) = true
    rw [h2, decide_eq_true (by omega)]; rfl
  · show (b.canLay0 && decide (b.depth ≤ 64)) = true
    rw [h5, decide_eq_true (by omega)]; rfl
theorem r_neP {c : Fc} {n : Nat} {k : Dt → Prop} {d e : Dt} (hd : d.pl 20 = true) (he : e.pl 20 = true) (h : k (.bl (!d.eqv e))) : R2D c n (rNeX c.K) d e k := by
  obtain ⟨a, h1, h2, h3⟩ := pl_py 20 d hd
  obtain ⟨b, h4, h5, h6⟩ := pl_py 20 e he
  refine r_neD h1 h4 ?_ ?_ (by rw [eqv_py d e a b h1 h4]; exact h)
  · show (a.canLay0 && decide (a.depth ≤ 64)) = true
    rw [h2, decide_eq_true (by omega)]; rfl
  · show (b.canLay0 && decide (b.depth ≤ 64)) = true
    rw [h5, decide_eq_true (by omega)]; rfl
mutual
theorem eqv_self : ∀ (k : Nat) (d : Dt), d.pl k = true → d.eqv d = true
  | _, .non, _ => rfl
  | _, .bl b, _ => by simp [Dt.eqv]
  | _, .int i, _ => by simp [Dt.eqv]
  | _, .str x, _ => by simp [Dt.eqv]
  | 0, .lst xs, h => by simp [Dt.pl] at h
  | 0, .tup xs, h => by simp [Dt.pl] at h
  | k + 1, .lst xs, h => by simp only [Dt.eqv]; exact eqvs_self k xs (by simpa [Dt.pl] using h)
  | k + 1, .tup xs, h => by simp only [Dt.eqv]; exact eqvs_self k xs (by simpa [Dt.pl] using h)
  | _, .dic _ _, h => by simp [Dt.pl] at h
  | _, .obj _ _ _, h => by simp [Dt.pl] at h
  | _, .err _ _ _, h => by simp [Dt.pl] at h
  | _, .pen, h => by simp [Dt.pl] at h
theorem eqvs_self : ∀ (k : Nat) (ds : List Dt), Dt.pls k ds = true → Dt.eqvs ds ds = true
  | _, [], _ => rfl
  | k, d :: ds, h => by
    have h' : d.pl k = true ∧ Dt.pls k ds = true := by simpa [Dt.pls] using h
    simp only [Dt.eqvs]
    rw [eqv_self k d h'.1, eqvs_self k ds h'.2]; rfl
end
theorem pls_all {k : Nat} : ∀ {ds : List Dt}, (∀ d ∈ ds, d.pl k = true) → Dt.pls k ds = true
  | [], _ => rfl
  | d :: ds, h => by
    simp only [Dt.pls]
    rw [h d (by simp), pls_all fun e he => h e (by simp [he])]
    rfl
theorem pl_lst {k : Nat} {ds : List Dt} (h : ∀ d ∈ ds, d.pl k = true) : (Dt.lst ds).pl (k + 1) = true := by simp only [Dt.pl]; exact pls_all h
theorem pl_tup {k : Nat} {ds : List Dt} (h : ∀ d ∈ ds, d.pl k = true) : (Dt.tup ds).pl (k + 1) = true := by simp only [Dt.pl]; exact pls_all h
theorem pl_ints {k : Nat} (ns : List Int) : (Dt.lst (ns.map Dt.int)).pl (k + 1) = true := pl_lst fun d hd => by
  obtain ⟨i, _, rfl⟩ := List.mem_map.mp hd
  simp [Dt.pl]
theorem pl_strs {k : Nat} {ns : List Str} (h : ∀ x ∈ ns, PyData.strOk x = true) : (Dt.lst (ns.map Dt.str)).pl (k + 1) = true := pl_lst fun d hd => by
  obtain ⟨i, hi, rfl⟩ := List.mem_map.mp hd
  simpa [Dt.pl] using h i hi
theorem eqv_nil (ds : List Dt) : (Dt.lst ds).eqv (.lst []) = ds.isEmpty := by
  cases ds <;> rfl
/-! ### the pen's list, and a draw's bounds -/
theorem r_neNil {c : Fc} {n : Nat} {k : Dt → Prop} {ns : List Int} (h1 : ns = [] → k (.bl false)) (h2 : 0 < ns.length → k (.bl true)) : R2D c n (rNeX c.K) (.lst (ns.map Dt.int)) (.lst []) k := by
  refine r_neP (pl_ints ns) rfl ?_
  rw [eqv_nil]
  cases ns with
  | nil => exact h1 rfl
  | cons i ns => exact h2 (by simp)
theorem mul_bd {x y a b : Int} (h1 : 0 ≤ x) (h2 : x ≤ a) (h3 : 0 ≤ y) (h4 : y ≤ b) : 0 ≤ x * y ∧ x * y ≤ a * b :=
  ⟨Int.mul_nonneg h1 h3, Int.mul_le_mul h2 h4 h3 (Int.le_trans h1 h2)⟩
theorem md_bd (x : Int) {b : Int} (h : 0 < b) : 0 ≤ x % b ∧ x % b < b := ⟨Int.emod_nonneg x (by omega), Int.emod_lt_of_pos x h⟩
/-- a place of a list of whole numbers, by a rest -/
theorem r_ixI {c : Fc} {n : Nat} {k : Dt → Prop} {ns : List Int} {i : Int} (h0 : 0 ≤ i) (h1 : i < ns.length) (h : ∀ j : Int, k (.int j)) : R2D c n (rIx c.K) (.lst (ns.map Dt.int)) (.int i) k :=
  r_ixL_any h0 (by rw [List.length_map]; exact h1) fun d hd => by
    obtain ⟨j, _, rfl⟩ := List.mem_map.mp hd
    exact h j
/-! ### good texts: at most b signs, each a code point -/
def okS (b : Nat) (z : Str) : Prop := z.length ≤ b ∧ ∀ s ∈ z.cps.toList, s < 1114112
def okSb (b : Nat) (z : Str) : Bool := decide (z.length ≤ b) && z.cps.toList.all fun s => decide (s < 1114112)
theorem okS_of {b : Nat} {z : Str} (h : okSb b z = true) : okS b z := by
  obtain ⟨h1, h2⟩ := Bool.and_eq_true_iff.mp h
  exact ⟨of_decide_eq_true h1, fun s hs => of_decide_eq_true (List.all_eq_true.mp h2 s hs)⟩
theorem okS.mono {a b : Nat} {z : Str} (h : okS a z) (hb : a ≤ b) : okS b z := ⟨Nat.le_trans h.1 hb, h.2⟩
theorem okS.strOk {b : Nat} {z : Str} (h : okS b z) : PyData.strOk z = true := by
  unfold PyData.strOk
  rw [Array.all_eq_true']
  intro x hx
  exact decide_eq_true (h.2 x (by simpa using hx))
theorem app_list (x y : Str) : (x ++ y).cps.toList = x.cps.toList ++ y.cps.toList := by
  rw [Str.cps_append, Array.toList_append]
theorem okS.app {a b : Nat} {x y : Str} (h : okS a x) (h2 : okS b y) : okS (a + b) (x ++ y) := by
  refine ⟨by rw [Str.length_append]; have := h.1; have := h2.1; omega, fun s hs => ?_⟩
  rw [app_list] at hs
  exact (List.mem_append.mp hs).elim (h.2 s) (h2.2 s)
theorem okS.cut {a : Nat} {x : Str} (h : okS a x) (lo hi : Option Int) : okS a (cutS x lo hi) := by
  refine ⟨Nat.le_trans (cutS_len x lo hi) h.1, fun s hs => h.2 s ?_⟩
  have e : (cutS x lo hi).cps.toList = (x.cps.toList.drop (HT.sIx x.length 0 lo)).take (HT.sIx x.length x.length hi - HT.sIx x.length 0 lo) := rfl
  rw [e] at hs
  exact List.mem_of_mem_drop (List.mem_of_mem_take hs)
theorem okS.one {s : Nat} (h : s < 1114112) : okS 1 ⟨#[s]⟩ := ⟨Nat.le_refl _, fun t ht => by
  have : t = s := by simpa using ht
  omega⟩
theorem join_okS {z : Str} {a b : Nat} (hz : okS a z) : ∀ {ys : List Str}, (∀ y ∈ ys, okS b y) → okS (ys.length * (a + b)) (Str.join z ys)
  | [], _ => ⟨Nat.zero_le _, fun s hs => by simp [Str.join, Str.empty] at hs⟩
  | [x], h => (h x (by simp)).mono (by simp)
  | x :: y :: r, h => by
    have q := ((h x (by simp)).app hz).app (join_okS hz (ys := y :: r) fun w hw => h w (by simp [hw]))
    refine q.mono ?_
    simp only [List.length_cons, Nat.add_mul]
    omega
theorem joined_okS {z : Str} {ys : List Str} {a b : Nat} (hz : okS a z) (h : ∀ y ∈ ys, okS b y) : okS (ys.length * (a + b)) (Txt.join z ys) := by
  show okS _ (Builtin.Str.glued z ys)
  rw [StrLaws.glued_eq_join]
  exact join_okS hz h
theorem join_mem_list {z : Str} : ∀ {ys : List Str} {y : Str} {s : Nat}, y ∈ ys → s ∈ y.cps.toList → s ∈ (Str.join z ys).cps.toList
  | [x], y, s, h, hs => by
    have e : y = x := by simpa using h
    rw [e] at hs
    exact hs
  | x :: w :: r, y, s, h, hs => by
    show s ∈ (x ++ z ++ Str.join z (w :: r)).cps.toList
    rw [app_list, app_list]
    rcases List.mem_cons.mp h with e | h
    · subst e
      simp [hs]
    · have := join_mem_list (z := z) h hs
      simp [this]
theorem split_okS {x y : Str} {b : Nat} (h : okS b x) : ∀ z ∈ Txt.split x y, okS b z := by
  intro z hz
  have e := StrLaws.join_split x y
  refine ⟨?_, fun s hs => ?_⟩
  · have q := join_mem_le y _ z hz
    rw [e] at q
    exact Nat.le_trans q h.1
  · have q := join_mem_list (z := y) hz hs
    rw [e] at q
    exact h.2 s q
/-! ### comprehensions over a mapped list -/
section
variable {c : Fc} {Γ : List Sl} {n : Nat} {g : TG} {tt : TT} {te : TE} {vs js : List Nat} {k : List Dt → Nat → Prop} {α : Type}
theorem lc_map (xs : List α) (u h : α → Dt) (hz : szOk xs.length = true)
    (turn : ∀ x ∈ xs, ∀ m, n ≤ m → Wg c (wipeG Γ vs) m js g (u x) fun Γ2 m2 => We c Γ2 m2 te fun e m4 => e = h x ∧ m ≤ m4)
    (done : ∀ m, n ≤ m → k (xs.map h) m) : LcAsk c Γ js vs g tYes te (xs.map u) n k := by
  refine ⟨fun i es m => i ≤ xs.length ∧ es = (xs.take i).map h ∧ n ≤ m, ⟨Nat.zero_le _, rfl, Nat.le_refl _⟩, fun i es m d hd q => ?_, fun es m q => ?_⟩
  · obtain ⟨h1, h2, h3⟩ := q
    rw [List.getElem?_map, Option.map_eq_some_iff] at hd
    obtain ⟨x, hx, rfl⟩ := hd
    obtain ⟨hi, ed⟩ := List.getElem?_eq_some_iff.mp hx
    intro ρ av o σ H v S da Q hQ
    refine turn x (ed ▸ List.getElem_mem hi) m h3 ρ av o σ H v S da Q fun Γ' σ' S' b kk => ?_
    refine hQ Γ' σ' S' b (wt_yes (ite_t rfl (kk.mono fun e m4 z => ⟨?_, hi, ?_, by have := z.2; omega⟩)))
    · rw [h2, List.length_map, List.length_take]
      have := Nat.le_of_ble_eq_true hz
      exact Nat.ble_eq_true_of_le (show _ + 1 ≤ 16777216 by omega)
    · rw [List.take_succ, hx, List.map_append, h2, z.1]
      rfl
  · obtain ⟨h1, h2, h3⟩ := q
    rw [List.length_map, List.take_length] at h2
    rw [h2]
    exact done m h3
theorem lc_mapF (xs : List α) (u h : α → Dt) (p : α → Bool) (hz : szOk xs.length = true)
    (turn : ∀ x ∈ xs, ∀ m, n ≤ m → Wg c (wipeG Γ vs) m js g (u x) fun Γ2 m2 => Wt c Γ2 m2 tt fun b m3 => b = p x ∧ m ≤ m3 ∧ (b = true → We c Γ2 m3 te fun e m4 => e = h x ∧ m ≤ m4))
    (done : ∀ m, n ≤ m → k ((xs.filter p).map h) m) : LcAsk c Γ js vs g tt te (xs.map u) n k := by
  refine ⟨fun i es m => i ≤ xs.length ∧ es = ((xs.take i).filter p).map h ∧ n ≤ m, ⟨Nat.zero_le _, rfl, Nat.le_refl _⟩, fun i es m d hd q => ?_, fun es m q => ?_⟩
  · obtain ⟨h1, h2, h3⟩ := q
    rw [List.getElem?_map, Option.map_eq_some_iff] at hd
    obtain ⟨x, hx, rfl⟩ := hd
    obtain ⟨hi, ed⟩ := List.getElem?_eq_some_iff.mp hx
    intro ρ av o σ H v S da Q hQ
    refine turn x (ed ▸ List.getElem_mem hi) m h3 ρ av o σ H v S da Q fun Γ' σ' S' b kk => ?_
    refine hQ Γ' σ' S' b fun ρ av o σ H S Q hQ => kk ρ av o σ H S Q fun b H' n' S' y z => hQ b H' n' S' y ?_
    obtain ⟨e1, e2, e3⟩ := z
    refine ite_b (fun hb => (e3 hb).mono fun e m4 z => ⟨?_, hi, ?_, by have := z.2; omega⟩) fun hb => ⟨hi, ?_, by omega⟩
    · rw [h2, List.length_map]
      have a := List.length_filter_le p (xs.take i)
      rw [List.length_take] at a
      have := Nat.le_of_ble_eq_true hz
      exact Nat.ble_eq_true_of_le (show _ + 1 ≤ 16777216 by omega)
    · rw [List.take_succ, hx, List.filter_append, List.map_append, h2, z.1]
      show _ = _ ++ List.map h (List.filter p [x])
      rw [List.filter_cons, if_pos (e1 ▸ hb)]
      rfl
    · rw [List.take_succ, hx, List.filter_append, List.map_append, h2]
      show _ = _ ++ List.map h (List.filter p [x])
      rw [List.filter_cons, if_neg (by rw [← e1, hb]; decide)]
      exact (List.append_nil _).symm
  · obtain ⟨h1, h2, h3⟩ := q
    rw [List.length_map, List.take_length] at h2
    rw [h2]
    exact done m h3
end
/-! ### by one name -/
section
variable {c : Fc} {Γ : List Sl} {n i : Nat} {wi : TI} {tt : TT} {te : TE} {tb : TS} {N : Nd} {k : Kd}
theorem w_forN (h : Wi c Γ n wi fun ds n1 => ∃ I : Nat → List Sl → Nat → Prop, I 0 (Γ.map outS) n1 ∧
      (∀ j Γ' m d, ds[j]? = some d → Γ'.length = Γ.length → I j Γ' m → Wg c Γ' m [i] (gName i) d fun Γ2 m2 => Ws c Γ2 m2 tb { nx := I (j + 1), ct := I (j + 1), rt := N.rt, bk := fun Γ3 m3 => N.nx (back Γ Γ3) m3 }) ∧
      (∀ Γ' m, Γ'.length = Γ.length → I ds.length Γ' m → N.nx (back Γ Γ') m)) : Ws c Γ n (tFor wi (gName i) tb) N := w_for h
theorem w_lcN (h : Wi c Γ n wi fun ds n1 => LcAsk c Γ [i] [i] (gName i) tt te ds n1 fun es m => k (.lst es) m) : We c Γ n (tLc wi (gName i) tt te [i]) k := w_lc (by simp) h
end
theorem ex_rng1 {x : Int} {p : Int → Prop} (hb : -(2 ^ 62) ≤ x ∧ x < 2 ^ 62) (h : p x) : ∃ j : Int, [Dt.int x] = [Dt.int j] ∧ (-(2 ^ 62) ≤ j ∧ j < 2 ^ 62) ∧ p j := ⟨x, rfl, hb, h⟩
theorem ex_rng2 {x y : Int} {p : Int → Int → Prop} (hb : -(2 ^ 62) ≤ x ∧ x < 2 ^ 62 ∧ -(2 ^ 62) ≤ y ∧ y < 2 ^ 62) (h : p x y) : ∃ i j : Int, [Dt.int x, Dt.int y] = [Dt.int i, Dt.int j] ∧ (-(2 ^ 62) ≤ i ∧ i < 2 ^ 62 ∧ -(2 ^ 62) ≤ j ∧ j < 2 ^ 62) ∧ p i j := ⟨x, y, rfl, hb, h⟩
end Pb
namespace Pb
open PySem PySem.W PySem.Calls PyProof.Rows PySem.HandSPX

/-! ### an own error over ValueError whose __init__ says super().__init__(f) and self.f = f -/
/-- what the written part says of the class at C and of its __init__ at fI; f its field -/
structure SupT (P : Program) (K : Frag) (mg : Str → Option Value) (C fI : Addr) (f : Str) : Prop where
  cls : ∃ nm q N bs bm sn sub ab col dd k0 k1 k2 k3 k5, K.lookup C = some (excClassObj nm q C N bs bm true sn sub ab col dd k0 k1 k2 k3 k5 "ValueError.__new__") ∧ refsVE bm = true
  sa : findIn K (.ref C) "__setattr__" = some (some (.builtin "object.__setattr__"))
  noF : findIn K (.ref C) f = some none
  iC : findIn K (.ref C) "__init__" = some (some (.ref fI))
  tI : typeIn K (.ref fI) = some (.type "function")
  kC : keepIn K (.ref C) = true
  exC : subIn K (.ref C) (.type "BaseException") = some true
  veC : subIn K (.ref C) (.type "ValueError") = some true
  tyC : typeIn K (.ref C) = some (.type "type")
  me : mroIn K C (.ref C) = some true
  up : ks_superIn K C C "__init__" = some (some (.builtin "ValueError.__init__"))
  op : nsIn K cStatics "thirdparty.any" = some none
  noS : mg "super" = none
  top : (P.main.scope.names.lookup ("super" : Str)).isSome = false
  fn : ∃ (oc : Value) (od : Option Addr) (qual : Str) (params : Arguments) (scope : Scope) (dV kV doc pm : Value) (an : Option Addr) (cda cc : Addr) (ct : Value) (osl : Array (Option Value)) (a1 a2 a3 a4 a5 a6 b1 b2 b3 b4 : Pos) (ar : Arg)
    (ccl : Value) (cdd : Option Addr) (vs : Array Value) (ccs : Array (Option Value)) (file : Str) (tf : Tok) (cl : Value) (cld : Option Addr) (csl : Array (Option Value)),
    K.lookup fI = some ⟨oc, od, .func (ksFn "__init__" qual params [.Expr (.Call (.Attribute (.Call (.Name "super" a1) [] [] a2) "__init__" a3) [.Name f a4] [] a5) a6, .Assign [.Attribute (.Name "self" b1) f b2] (.Name f b3) b4] scope dV kV doc pm an (.ref cda) ct cc), osl⟩ ∧
    codeIn K (.ref cda) qual = true ∧ K.lookup cda = some ⟨ccl, cdd, .fields vs, ccs⟩ ∧ vs[2]? = some (.str file tf) ∧ ((P.main.file : Str) == file) = true ∧ K.lookup cc = some ⟨cl, cld, .cell (some (.ref C)), csl⟩ ∧
    (params.posonlyargs ++ params.args).head? = some ar ∧ ar.arg = "self" ∧ scope.kind = .function ∧ scope.isCoroutine = false ∧ scope.isGenerator = false ∧ (∀ x ∈ scope.names, x.2 ≠ .cell) ∧ scope.names.lookup ("self" : Str) = some .local ∧ scope.names.lookup f = some .local ∧
    scope.names.lookup ("__class__" : Str) = some .free ∧ scope.names.lookup ("super" : Str) = some .globalImplicit ∧ f ≠ "self" ∧ (f == ("__debug__" : Str)) = false ∧
    (∀ (s : Shared) (x v : Value), BindsTo s (ksFn "__init__" qual params [.Expr (.Call (.Attribute (.Call (.Name "super" a1) [] [] a2) "__init__" a3) [.Name f a4] [] a5) a6, .Assign [.Attribute (.Name "self" b1) f b2] (.Name f b3) b4] scope dV kV doc pm an (.ref cda) ct cc) ⟨[x, v], []⟩ [("self", x), (f, v)]) ∧
    (∀ env : Env, env.scope = scope → ∃ pl : Sem Bool, eval (.Call (.Attribute (.Call (.Name "super" a1) [] [] a2) "__init__" a3) [.Name f a4] [] a5) env = (do
      let ov ← attributeBase (.Call (.Name "super" a1) [] [] a2) "__init__" env (eval (.Call (.Name "super" a1) [] [] a2) env)
      standAt a3.atName
      let (h, first) ← holding [ov] (getMethod ov "__init__" pl)
      callWith a5 h first (backTo a5 (starEach [.Name f a4] env)) [])) ∧
    (∀ env : Env, env.scope = scope → swapsWith (.Name f b3) (some (.Attribute (.Name "self" b1) f b2)) b4.line env = pure false)
section
variable {prog : Program} {w : World} {A : Around} {E : Value → Shared → Prop} {R : Result → Shared → Prop} {s : Shared} {K : Frag} {mg mb : Str → Option Value} {C fI : Addr} {f : Str}
/-- what __init__ leaves of a fresh error at x -/
structure SupEnd (h h' : Heap) (x C dx t1 : Addr) (f : Str) (v : Value) : Prop where
  keep : ∀ b o, b ≠ x → h.get? b = some o → h'.get? b = some o
  obj : h'.get? x = some { cls := .ref C, dict := some dx, data := .fields #[.ref t1, .none, .none, .none, .bool false, .none] }
  dbig : h.objs.size ≤ dx
  dne : dx ≠ x
  ns : h'.Ns1 dx (fun y => if y = f then some v else none)
theorem one_fits (v : Value) : [v].length ≤ sizeLine := by
  rw [sizeLine_eq]
  exact (by decide : 1 ≤ 16777216)
theorem sup_init (T : SupT prog K mg C fI f) {x t0 : Addr} {v : Value} (X : K.In s.heap) (hlim : s.heap.NoLimit) (hG : s.heap.Ns mainGlobals mg) (hB : s.heap.Ns builtinsNs mb) (hb : mb "super" = some (.type "super")) (hx : s.heap.get? x = some (excO C t0)) (hnx : K.lookup x = none) (hroom : A.depth < recursionLimit)
    (hq : ∀ h' tk dx t1, SupEnd s.heap h' x C dx t1 f v → R (.ok (.ret .none)) { s with heap := h', toks := tk }) :
    codeAny (model prog w) A (.call (.ref fI) ⟨[.ref x, v], []⟩) R s := by
  obtain ⟨oc, od, qual, params, scope, dV, kV, doc, pm, an, cda, cc, ct, osl, a1, a2, a3, a4, a5, a6, b1, b2, b3, b4, ar, ccl, cdd, vs, ccs, file, tf, cl, cld, csl, ho, hcd, hcode, hvs, hfile, hcell, hp, har, hk, hco, hgen, hnc, hself, hfl, hkc, hks, hne, hdb, hbind, hev, hsw⟩ := T.fn
  obtain ⟨nm, q, N, bs, bm, sn, sub, ab, col, dd, k0, k1, k2, k3, k5, hC, hbm⟩ := T.cls
  have hcl : clsIn K C = some { name := nm, bases := bs, mro := .ref C :: bm, ns := N, qualname := q, hasDict := true, slotNames := sn, subclasses := sub, abstract := ab, collection := col, hasDel := false } := by unfold clsIn; rw [hC] <;> rfl
  refine ks_codeAny_call_defAt (binds := [("self", .ref x), (f, v)]) hroom (X _ _ ho) rfl hlim (codeRec_of X hcd) rfl (hbind s (.ref x) v) hnc ?_ (fun h₁ hns k => ?_) hco hgen hk
  · intro y hy
    rcases List.mem_cons.mp hy with rfl | hy
    · exact hself
    · rcases List.mem_cons.mp hy with rfl | hy
      · exact hfl
      · cases hy
  have hxL : s.heap.objs.size ≠ x := Nat.ne_of_gt (Heap.lt_size hx)
  have hx₁ := k _ _ hx
  have X₁ : K.In h₁ := X.keeps k
  have G₁ := hG.keeps k
  have B₁ := hB.keeps k
  obtain ⟨hp0, g, d, t, os⟩ := s
  obtain ⟨pl, hpl⟩ := hev (callEnv (ksFn "__init__" qual params _ scope dV kV doc pm an (.ref cda) ct cc) hp0.objs.size fI) rfl
  refine ks_wpAt_execs_cons (ks_wpAt_Expr_any (ks_wpAt_MethodCall (pl := pl) ?_ hpl) (by show interactive (callEnv _ _ _) = false; unfold interactive callEnv newEnv; simp [hk]))
  obtain ⟨oD, hD1, hD2⟩ : ∃ oD, h₁.get? C = some oD ∧ oD.data = .cls { name := nm, bases := bs, mro := .ref C :: bm, ns := N, qualname := q, hasDict := true, slotNames := sn, subclasses := sub, abstract := ab, collection := col, hasDel := false } := ⟨_, X₁ _ _ hC, rfl⟩
  refine ks_wpAt_super_base hks hkc (by decide) rfl (X₁ _ _ ho) rfl hp rfl (X₁ _ _ hcode) rfl hvs hfile T.top ?_
  refine ks_loadName_global hk hks (loadGlobal_builtin G₁ T.noS B₁ hb ⟨rfl, ?_⟩)
  refine wpAny_loadName_free hk hkc rfl ⟨_, X₁ _ _ hcell, rfl⟩ ?_
  rw [har]
  refine wpAny_loadName_local hk hself hns (v := .ref x) ?_ ?_
  · show List.lookup ("self" : Str) [(f, v), ("self", .ref x)] = _
    have e1 : (("self" : Str) == f) = false := by simpa using fun z => hne z.symm
    simp [List.lookup, e1]
  refine ks_wpAny_isType_cls hD1 hD2 ⟨rfl, ?_⟩
  refine ks_wpAny_call_super hD1 hD2 hx₁ rfl (fun c e => by cases e) (looks_mroIn X₁ T.me) (fun h₂ hso k₂ => ?_)
  have X₂ : K.In h₂ := X₁.keeps k₂
  have hx₂ := k₂ _ _ hx₁
  have I₂ : InstAt h₂ x (excO C t0) C none := ⟨hx₂, rfl, rfl, trivial⟩
  have hI : Looks (model prog w) h₂ (isInstance (.ref x) (.type "ValueError")) true := I₂.type.andThen (looks_subIn X₂ T.veC)
  have hup : alongIn K "__init__" (((.ref C :: bm).dropWhile (· != .ref C)).drop 1) = some (some (.builtin "ValueError.__init__")) := by
    have z := T.up
    unfold ks_superIn at z
    rw [hcl] at z
    exact z
  refine kxs_getMethod kxs_ValueError hso (looks_opaque X₂ T.op) (l₀ := .ref C :: bm) ?_ rfl X₂ hup hI (ks_ne X₂ I₂ hcl) (by decide) ?_
  · exact fun A Q E s k q => wpAny_bind ((looks_clsIn X₂ hcl) A _ E s k (wpAny_pure q))
  have k₃ : ∀ b o, h₂.get? b = some o → (h₂.push (kxs_mw "ValueError.__init__" x)).get? b = some o := fun b o e => Heap.get?_push_of_some _ e
  have kk : ∀ b o, h₁.get? b = some o → (h₂.push (kxs_mw "ValueError.__init__" x)).get? b = some o := fun b o e => k₃ b o (k₂ b o e)
  have hu : (h₂.push (kxs_mw "ValueError.__init__" x)).get? h₂.objs.size = some (kxs_mw "ValueError.__init__" x) := Heap.get?_push_at rfl rfl
  have hns₃ := hns.keeps kk
  have hx₃ := kk _ _ hx₁
  have X₃ : K.In (h₂.push (kxs_mw "ValueError.__init__" x)) := X₁.keeps kk
  have mf : List.lookup f [(f, v), (("self" : Str), .ref x)] = some v := by simp [List.lookup]
  refine kxs_callWith (i := "ValueError.__init__") (x := x) rfl (evalArgs_plain ?_)
  refine Calls.spliced_cons (wpAny_Name (wpAny_loadName_local hk hfl hns₃ mf ?_) hdb)
  refine Calls.spliced_nil ⟨hu, ?_⟩
  refine wpAny_call (codeAny_of_tree ?_)
  show wpAny _ _ (callAny (.ref h₂.objs.size) ⟨[v], []⟩) _ _ _
  simp only [callAny]
  refine wpAny_bind (wpAny_load hu ?_)
  have hmw : (Value.type "method-wrapper" == Value.type "method" || Value.type "method-wrapper" == Value.type "builtin_function_or_method" || Value.type "method-wrapper" == Value.type "method-wrapper") = true := by decide
  simp only [kxs_mw, hmw, if_true]
  refine KFB.if_so (by decide) ?_
  refine wpAny_bind (check_bound_init F.excBase_ValueError.toExcCallFacts (X₃ _ _ hC) hx₃ rfl ?_)
  refine wpAny_bind (wpAny_pure (wpAny_pure ?_))
  refine ⟨plainId_quiet F.excBase_ValueError.init.plain _, codeAny_builtin F.excBase_ValueError.initEntry ?_⟩
  refine exc_init_tree (cls := .ref C) (t0 := t0) (dv := none) (c2 := .none) (c3 := .none) (b4 := .bool false) hx₃ (one_fits v) fun h₄ k₄ hx₄ ht₄ => ?_
  have X₄ : K.In h₄ := fun a o e => k₄ a o (fun z => by rw [z, hnx] at e; cases e) (X₃ a o e)
  have hns₄ : h₄.Ns hp0.objs.size (fun y => List.lookup y [(f, v), (("self" : Str), .ref x)]) := by
    obtain ⟨oL, es, ep, hL, r⟩ := hns₃
    exact ⟨oL, es, ep, k₄ _ _ hxL hL, r⟩
  have ms : List.lookup ("self" : Str) [(f, v), (("self" : Str), .ref x)] = some (.ref x) := by
    have e1 : (("self" : Str) == f) = false := by simpa using fun z => hne z.symm
    simp [List.lookup, e1]
  refine wpAt_of_wpAny (wpAny_execs_cons (plainObj_wpAny_Assign_Attribute ?_ (hsw _ rfl)))
  refine wpAny_Name (wpAny_loadName_local hk hfl hns₄ mf ?_) hdb
  refine wpAny_Name (wpAny_loadName_local hk hself hns₄ ms ?_) (by decide)
  refine set_plain X₄ (ox := excO C (h₂.push (kxs_mw "ValueError.__init__" x)).objs.size) (od := none) ⟨hx₄, rfl, rfl, trivial⟩ T.sa ?_
  refine exc_osa X₄ hx₄ hcl (show refsVE (.ref C :: bm) = true from hbm) rfl T.noF (fun h₅ tk₅ dx k₅ dn dne hx₅ hn₅ => ?_)
  have lt1 : hp0.objs.size < h₁.objs.size := hns.lt
  have lt2 : hp0.objs.size ≤ dx := by
    have a : hp0.objs.size < h₄.objs.size := hns₄.lt
    exact Nat.le_of_lt (Nat.lt_of_lt_of_le a dn)
  refine wpAny_execs_nil (hq h₅ _ dx _ ⟨fun b o hb e => k₅ b o hb (k₄ b o hb (kk b o (k b o e))), hx₅, lt2, dne, hn₅⟩)
/-- a made error: at e, its dict at d -/
structure SupMade (h h' : Heap) (e C d : Addr) (f : Str) (v : Value) : Prop where
  keep : ∀ b o, h.get? b = some o → h'.get? b = some o
  new : h.objs.size ≤ e
  obj : ∃ t1, h'.get? e = some { cls := .ref C, dict := some d, data := .fields #[.ref t1, .none, .none, .none, .bool false, .none] }
  dbig : h.objs.size ≤ d
  dne : d ≠ e
  ns : h'.Ns1 d (fun y => if y = f then some v else none)
theorem sup_made (T : SupT prog K mg C fI f) {v : Value} (X : K.In s.heap) (hlim : s.heap.NoLimit) (hG : s.heap.Ns mainGlobals mg) (hB : s.heap.Ns builtinsNs mb) (hb : mb "super" = some (.type "super")) (hroom : A.depth + 1 < recursionLimit)
    (hq : ∀ h' tk e d, SupMade s.heap h' e C d f v → R (.ok (.ret (.ref e))) { s with heap := h', toks := tk }) :
    codeAny (model prog w) A (.call (.ref C) ⟨[v], []⟩) R s := by
  obtain ⟨nm, q, N, bs, bm, sn, sub, ab, col, dd, k0, k1, k2, k3, k5, hC, hbm⟩ := T.cls
  obtain ⟨hp, g, dr, tk, os⟩ := s
  have k : ∀ b o, hp.get? b = some o → ((hp.push (kdv_tup [v])).push (excO C hp.objs.size)).get? b = some o := fun b o e => Heap.get?_push_of_some _ (Heap.get?_push_of_some _ e)
  have hget : ((hp.push (kdv_tup [v])).push (excO C hp.objs.size)).get? (hp.objs.size + 1) = some (excO C hp.objs.size) := by heap_get
  have hnx : K.lookup (hp.objs.size + 1) = none := by
    cases e : K.lookup (hp.objs.size + 1) with
    | none => rfl
    | some o =>
      have z : hp.get? (hp.objs.size + 1) = some o := X _ _ e
      exact absurd (Nat.lt_of_succ_lt (Heap.lt_size z)) (Nat.lt_irrefl _)
  refine call_own F.excBase_ValueError (fun X => refsVE_contains X bm hbm) (X _ _ hC) (looks_findIn X T.iC) (fun self => bind_fn X self T.tI) (one_fits v) ?_
  refine sup_init (s := ⟨(hp.push (kdv_tup [v])).push (excO C hp.objs.size), g, dr, tk, os⟩) T (X.keeps k) (hlim.keeps k) (hG.keeps k) (hB.keeps k) hb hget hnx ?_ fun h' tk' dx t1 ⟨k', hx, dn, dne, hns⟩ => ?_
  · show A.depth + 1 < recursionLimit
    exact hroom
  · have old : ∀ b o, hp.get? b = some o → h'.get? b = some o := fun b o e => k' b o (Nat.ne_of_lt (Nat.lt_succ_of_lt (Heap.lt_size e))) (k b o e)
    have z : hp.objs.size + 1 + 1 ≤ dx := by
      first
        | (simpa only [Heap.size_push] using dn)
        | exact dn
        | (have q := dn; rw [Heap.size_push, Heap.size_push] at q; exact q)
    exact ⟨rfl, hq h' tk' (hp.objs.size + 1) dx ⟨old, Nat.le_succ _, ⟨t1, hx⟩, Nat.le_trans (Nat.le_trans (Nat.le_succ _) (Nat.le_succ _)) z, dne, hns⟩⟩
end
section
open L2
variable {X : Cx} {C fI : Addr} {f x : Str}
theorem relO_one {v : V} {u : Value} (r : RelV v u) (y : Str) : RelO (List.lookup y [(f, v)]) (if y = f then some u else none) := by
  by_cases h : y = f
  · subst h
    rw [if_pos rfl, show List.lookup y [(y, v)] = some v by simp [List.lookup]]
    exact r
  · have e : (y == f) = false := by simpa using h
    rw [if_neg h, show List.lookup y [(f, v)] = none by simp [List.lookup, e]]
    trivial
/-- x(e), made to be raised -/
def tMkS (C : Addr) (f : Str) (ta : TA) : L2.St → Hp → XK → Prop := fun σ H Q => ta σ H fun vs H1 => ∃ v, vs = [v] ∧ ∀ d, H1 d = none → Q (.ref C) (some d) (upd H1 d (.xd [(f, v)]))
theorem pmk_sup {a : Expr} {ta : TA} {p pos : Pos} {k : Nat} (T : SupT X.prog X.K X.mg C fI f) (gC : X.mg x = some (.ref C)) (hr : Room k X.A) (ha : PA X [a] ta) (hg : Gl X x) (hd : (x == ("__debug__" : Str)) = false := by decide)
    (he : starEach (a :: []) X.env = (false, eval a X.env) :: starEach [] X.env := by rfl) (hpl : (backTo pos (starEach [] X.env)).any (·.1) = false := by rfl) :
    PMk X (.Call (.Name x p) [a] [] pos) (tMkS C f ta) := by
  intro pins s σ H Q I h
  refine wpAny_Call_Name_kw (ld_glob I hg gC ?_ hd)
  refine PySem.W.callWith_K (h₀ := X.base) I.ok.mod.kin T.kC (thn (ha.run pos pins s σ H _ I h) fun us s1 hh => ?_) he hpl
  obtain ⟨vs, H1, I1, r1, v, ev, q1⟩ := hh
  subst ev
  refine ⟨I1.kIn, ?_⟩
  cases r1 with
  | cons rv rn =>
    rename_i v' us'
    cases rn
    show wpAny _ _ (call (.ref C) [v']) _ _ _
    have hlim := I1.nolimit
    obtain ⟨mb, hb1, hb2⟩ := I1.mod.blt
    have hG := I1.mod.glob.keeps I1.bk
    have hB := hb1.keeps I1.bk
    have hs : mb "super" = some (.type "super") := (hb2 _ (by decide)).trans PyProof.Rows.Boot.«super»
    obtain ⟨hp, g, dr, tk, os⟩ := s1
    refine wpAny_call (sup_made T I1.kIn hlim hG hB hs (by have := hr.dp; omega) fun h' tk' e d M => ?_)
    show MkP X pins σ Q (.ref e) ⟨h', g, dr, tk', os⟩
    obtain ⟨t1, hoe⟩ := M.obj
    have hns := M.ns
    obtain ⟨G', g1, g2⟩ := restrict h' fun b => decide (b ≠ e)
    have gk : ∀ b, b ≠ e → G'.get? b = h'.get? b := fun b hb => g1 b (decide_eq_true hb)
    have ge : G'.get? e = none := g2 e (by simp)
    have old : ∀ b o, hp.get? b = some o → G'.get? b = some o := fun b o q => (gk b (Nat.ne_of_lt (Nat.lt_of_lt_of_le (Heap.lt_size q) M.new))).trans (M.keep b o q)
    have ob : ObjOk X.prog X.w (upd H1 d (.xd [(f, v)])) G' d (.xd [(f, v)]) := ⟨_, hns.at (fun o q => (gk d M.dne).trans q), fun y => relO_one rv y⟩
    have J : Inv X pins σ (upd H1 d (.xd [(f, v)])) ⟨G', g, dr, tk', os⟩ := I1.laid (t' := tk') old M.dbig ob
    refine ⟨e, _, _, ⟨G', g, dr, tk', os⟩, _, .ref C, some d, rfl, J, fun b o q => ?_, ge, hoe, ⟨rfl, rfl⟩, rfl, rfl, ?_, rfl, I1.bare, raises_own T.exC T.tyC, q1 d (I1.hok.fresh M.dbig)⟩
    · by_cases hb : b = e
      · have q' : G'.get? b = some o := q
        rw [hb, ge] at q'; cases q'
      · exact (gk b hb).symm.trans q
    · rw [upd_ne (Ne.symm M.dne)]
      exact I1.hok.fresh M.new
/-- raise x(e) -/
def tRaiseS (C : Addr) (f : Str) (W : WX) (ta : TA) : TS := fun _ σ H => tMkS C f ta σ H fun cls d H' => W cls d σ H'
theorem ps_raiseS {a : Expr} {ta : TA} {W : WX} {p pos pos2 : Pos} {k : Nat} (hc : X.calm = true) (T : SupT X.prog X.K X.mg C fI f) (gC : X.mg x = some (.ref C)) (hr : Room k X.A) (tk : Takes X W) (ha : PA X [a] ta) (hg : Gl X x := by rfl) (hd : (x == ("__debug__" : Str)) = false := by decide)
    (he : starEach (a :: []) X.env = (false, eval a X.env) :: starEach [] X.env := by rfl) (hpl : (backTo pos (starEach [] X.env)).any (·.1) = false := by rfl) :
    PS X (.Raise (some (.Call (.Name x p) [a] [] pos)) none pos2) (tRaiseS C f W ta) := ps_raise hc tk (pmk_sup T gC hr ha hg hd he hpl)
end
end Pb
namespace Pb
open PySem PySem.Spec PyProof.Rows L2

/-! ### the end of a row whose defs make lambdas: cs tells the makers' code objects and their tables -/
section
variable {P : Program} {w : World} {K : PySem.W.Frag} {mg mb : Str → Option Value} {CX : CXT} {k : Nat} {fa a : Addr} {fd : FuncData} {x : Str} {sp : Sp} {s1 : Shared} {vs : List Value} {ns : List Int} {cs : List (Addr × Addr)}
abbrev tabO : Obj := { cls := .none, data := .fields #[] }
def isTab (cs : List (Addr × Addr)) (b : Addr) : Bool := cs.any fun p => p.2 == b
theorem isTab_of {p : Addr × Addr} (h : p ∈ cs) : isTab cs p.2 = true := List.any_eq_true.mpr ⟨p, h, by simp⟩
theorem isTab_ex {b : Addr} (h : isTab cs b = true) : ∃ p ∈ cs, p.2 = b := by
  obtain ⟨p, hp, e⟩ := List.any_eq_true.mp h
  exact ⟨p, hp, by simpa using e⟩
structure LawT (K : PySem.W.Frag) (mg : Str → Option Value) (cs : List (Addr × Addr)) (h : Heap) : Prop where
  tab : ∀ p ∈ cs, h.get? p.2 = some tabO
  off : ∀ p ∈ cs, K.lookup p.2 = none
  hd : ∀ p ∈ cs, PySem.W.CodeHd h p.1 p.2
  bm : ∃ (bm : Addr) (ob : Obj), mg "__builtins__" = some (.ref bm) ∧ bm ≠ builtinsNs ∧ h.get? bm = some ob ∧ ob.cls = .type "module" ∧ ob.dict = some builtinsNs ∧ ob.data = .plain
theorem lawT_from {H : Hp} (F : ∀ base : Heap, K.In base → base.Ns mainGlobals mg → (∀ p ∈ cs, LamX.TabB base mg p.1 p.2) → FnG true P w K mg base CX k fa fd [x] sp) (hbind : ∀ (s : Shared) (u : Value), BindsTo s fd ⟨[u], []⟩ [(x, u)])
    (L : LawT K mg cs s1.heap) (inK : K.In s1.heap) (nsG : s1.heap.Ns mainGlobals mg) (nsB : s1.heap.Ns builtinsNs mb) (bb : ∀ x : Str, x ≠ "__name__" → mb x = bootBuiltins x) (lim : s1.heap.NoLimit) (g0 : s1.gens = #[])
    (hr : RoomG true k callerA) (only : ∀ b, H b = none ∨ (isTab cs b = true ∧ H b = some (.tbl #[])) ∨ (b = a ∧ ∃ o xs, H b = some (.frz o (.lst xs)))) (ok : HOk P w H s1.heap) (scrK : H a ≠ none → K.lookup a = none)
    (lst : s1.heap.get? a = some { cls := .type "list", data := .seq vs.toArray }) (pr : sp [.ref a] H (fun v _ => v = .bl true) fun _ _ _ => False) (noX : ∀ H e s', CX [] H s1 (fun _ _ _ => False) e s' → False) :
    codeAny (model P w) callerA (.call (.ref fa) ⟨[.ref a], []⟩) (Good s1) s1 := by
  -- an object that is neither the script's list nor an empty table is not tracked
  have plain : ∀ (b : Addr) (ob : Obj), s1.heap.get? b = some ob → (∀ ys n, ob.data ≠ .seq ys n) → ob.data ≠ .fields #[] → H b = none := by
    intro b ob e d1 d2
    rcases only b with z | ⟨z, _⟩ | ⟨z, _⟩
    · exact z
    · obtain ⟨p, hp, q⟩ := isTab_ex z
      rw [← q, L.tab p hp] at e
      cases e
      exact absurd rfl d2
    · subst z
      rw [lst] at e
      cases e
      exact absurd rfl (d1 _ _)
  have see : ∀ (b : Addr) (ob : Obj), s1.heap.get? b = some ob → (∀ ys n, ob.data ≠ .seq ys n) → ob.data ≠ .fields #[] → (hidT s1.heap H).get? b = some ob := fun b ob e d1 d2 => hidT_get e (plain b ob e d1 d2)
  have ns2 : ∀ (b : Addr) (m : Str → Option Value), s1.heap.Ns b m → (hidT s1.heap H).Ns b m := by
    rintro b m ⟨ob, es, ep, e, d, r⟩
    exact ⟨ob, es, ep, see b ob e (fun ys n z => by rw [d] at z; cases z) (fun z => by rw [d] at z; cases z), d, r⟩
  have inB : K.In (hidT s1.heap H) := by
    intro b ob e
    refine hidT_get (inK b ob e) ?_
    rcases only b with z | ⟨z, _⟩ | ⟨z, o, xs, q⟩
    · exact z
    · obtain ⟨p, hp, q⟩ := isTab_ex z
      rw [← q, L.off p hp] at e
      cases e
    · subst z
      rw [scrK (by rw [q]; simp)] at e
      cases e
  have tb : ∀ p ∈ cs, LamX.TabB (hidT s1.heap H) mg p.1 p.2 := by
    intro p hp
    have hT := L.tab p hp
    obtain ⟨bm, ob, b1, b2, b3, b4, b5, b6⟩ := L.bm
    have n1 : bm ≠ mainGlobals := by
      rintro rfl
      obtain ⟨o, es, ep, e, d, _⟩ := nsG
      rw [e] at b3
      cases b3
      rw [d] at b6
      cases b6
    have n2 : bm ≠ p.2 := by
      intro z
      rw [z, hT] at b3
      cases b3
      cases b6
    constructor
    · obtain ⟨o, us, file, tf, flags, tg, inF, text, tt, e1, r1, r2, r3, r⟩ := L.hd p hp
      refine ⟨o, us, file, tf, flags, tg, inF, text, tt, see _ _ e1 (fun ys n z => by rw [r2] at z; cases z) (fun z => ?_), r1, r2, r3, r⟩
      rw [r2] at z
      cases z
      simp at r3
    · exact ⟨bm, ob, b1, b2, n1, n2, see _ _ b3 (fun ys n z => by rw [b6] at z; cases z) (fun z => by rw [b6] at z; cases z), b4, b5, b6⟩
    · intro z
      obtain ⟨o, es, ep, e, d, _⟩ := nsG
      rw [z, hT] at e
      cases e
      cases d
  obtain ⟨mc, l1, l2⟩ := lim
  have md : Mod K mg (hidT s1.heap H) := ⟨inB, ns2 _ _ nsG, ⟨mb, ns2 _ _ nsB, bb⟩, mc, ns2 _ _ l1, l2⟩
  have ev : Env0 P w K mg (hidT s1.heap H) callerA [] s1 H := {
    frames := rfl
    mod := md
    bs := fun b ob e => of_hidT e
    bsz := Nat.le_of_eq (hidT_size _ _)
    funs := trivial
    frf := fun b hb => by
      have z : b ∈ ([] : List Addr) := hb
      simp at z
    hok := ok
    bare := .of_eq g0 }
  have run := (F _ inB (ns2 _ _ nsG) tb).run callerA [] s1 H ⟨[.ref a], []⟩ [.ref a] [.ref a] _ _ hr ev (hbind s1 (.ref a)) (.cons rfl .nil) pr
  refine codeAny_mono run ?_
  intro r s' h
  cases r with
  | error e => exact (noX H e s' h).elim
  | ok fl =>
    cases fl with
    | ret u =>
      obtain ⟨v, H', eo, br, un, ok', rel, q⟩ := h
      have q1 : v = .bl true := q
      subst q1
      have q2 : u = Value.bool true := rel
      subst q2
      have stays : ∀ b ob, s1.heap.get? b = some ob → s'.heap.get? b = some ob ∨ (isTab cs b = true ∧ ∃ more : Array Value, s'.heap.get? b = some { cls := .none, data := .fields more }) := by
        intro b ob e
        rcases only b with z | ⟨z, zt⟩ | ⟨_, o2, xs, z⟩
        · refine .inl (un.keep b ob e z (fun y => ?_) (by simp))
          have y' : b ∈ ([] : List Addr) := y
          simp at y'
        · obtain ⟨more, t⟩ := un.tbls b #[] zt
          exact .inr ⟨z, _, ok' b _ t⟩
        · obtain ⟨e1, _⟩ := ok b _ z
          obtain ⟨e2, _⟩ := ok' b _ (un.frzs b o2 _ z)
          rw [e] at e1
          cases e1
          exact .inl e2
      refine ⟨rfl, ⟨fun b ob e => ?_, fun b ob e => ?_⟩, eo, br⟩
      · rcases stays b ob e with z | ⟨z, more, t⟩
        · exact .inl z
        · obtain ⟨p, hp, q⟩ := isTab_ex z
          subst q
          have hT := L.tab p hp
          rw [hT] at e
          cases e
          exact .inr (.inl ⟨((L.hd p hp).tab hT).isCodeTable, rfl, #[], more, rfl, by rw [Array.empty_append]; exact t⟩)
      · rcases stays b ob e with z | ⟨_, more, t⟩
        · exact ⟨_, z⟩
        · exact ⟨_, t⟩
    | next => exact h.elim
    | brk => exact h.elim
    | cont => exact h.elim
/-- the script's list, if it is tracked, and the tables -/
def lawH (cs : List (Addr × Addr)) (a : Addr) (O : Option HO) : Hp := fun b => if isTab cs b = true then some (.tbl #[]) else if b = a then O else none
theorem lawT_go (F : ∀ base : Heap, K.In base → base.Ns mainGlobals mg → (∀ p ∈ cs, LamX.TabB base mg p.1 p.2) → FnG true P w K mg base CX k fa fd [x] sp) (hbind : ∀ (s : Shared) (u : Value), BindsTo s fd ⟨[u], []⟩ [(x, u)])
    (L : LawT K mg cs s1.heap) (inK : K.In s1.heap) (nsG : s1.heap.Ns mainGlobals mg) (nsB : s1.heap.Ns builtinsNs mb) (bb : ∀ x : Str, x ≠ "__name__" → mb x = bootBuiltins x) (lim : s1.heap.NoLimit) (g0 : s1.gens = #[])
    (hr : RoomG true k callerA) (lst : s1.heap.get? a = some { cls := .type "list", data := .seq vs.toArray }) (its : IntsAre vs ns) (len : ns.length ≤ sizeLine)
    (pr : ∀ H : Hp, (∀ p ∈ cs, H p.2 = some (.tbl #[])) → SqL K H a (ns.map V.int) → sp [.ref a] H (fun v _ => v = .bl true) fun _ _ _ => False) (noX : ∀ H e s', CX [] H s1 (fun _ _ _ => False) e s' → False) :
    codeAny (model P w) callerA (.call (.ref fa) ⟨[.ref a], []⟩) (Good s1) s1 := by
  have rv := vals_ints its
  have na : isTab cs a = false := by
    cases e : isTab cs a with
    | false => rfl
    | true =>
      obtain ⟨p, hp, q⟩ := isTab_ex e
      have z := L.tab p hp
      rw [q, lst] at z
      cases z
  have tabs : ∀ O, ∀ p ∈ cs, lawH cs a O p.2 = some (.tbl #[]) := fun O p hp => if_pos (isTab_of hp)
  have atA : ∀ O, lawH cs a O a = O := fun O => by
    unfold lawH
    rw [if_neg (by rw [na]; decide), if_pos rfl]
  have rest : ∀ O b, isTab cs b = false → b ≠ a → lawH cs a O b = none := fun O b h1 h2 => by
    unfold lawH
    rw [if_neg (by rw [h1]; decide), if_neg h2]
  have oks : ∀ O, (∀ u, O = some u → ObjOk P w (lawH cs a O) s1.heap a u) → HOk P w (lawH cs a O) s1.heap := fun O hO b u z => by
    cases e : isTab cs b with
    | true =>
      have z' : some (HO.tbl #[]) = some u := (if_pos e).symm.trans z
      cases z'
      obtain ⟨p, hp, q⟩ := isTab_ex e
      rw [← q]
      exact L.tab p hp
    | false =>
      by_cases hb : b = a
      · subst hb
        rw [atA] at z
        exact hO u z
      · rw [rest O b e hb] at z
        cases z
  cases hk : K.lookup a with
  | some ob =>
    have e := inK a ob hk
    rw [lst] at e
    cases e
    refine lawT_from (H := lawH cs a none) F hbind L inK nsG nsB bb lim g0 hr (fun b => ?_) (oks none fun u z => by cases z) (fun z => absurd (atA none) z) lst (pr _ (tabs none) ?_) noX
    · cases e : isTab cs b with
      | true => exact .inr (.inl ⟨rfl, if_pos e⟩)
      | false =>
        by_cases hb : b = a
        · subst hb
          exact .inl (atA none)
        · exact .inl (rest none b e hb)
    · right
      refine ⟨_, vs.toArray, _, hk, rfl, rfl, rfl, ?_, ?_⟩
      · rw [List.size_toArray, its.length]
        exact len
      · simpa using rv
  | none =>
    let O : HO := .frz { cls := .type "list", data := .seq vs.toArray } (.lst (ns.map V.int))
    refine lawT_from (H := lawH cs a (some O)) F hbind L inK nsG nsB bb lim g0 hr (fun b => ?_) (oks _ fun u z => ?_) (fun _ => hk) lst (pr _ (tabs _) (.inl (.inr ⟨_, atA _⟩))) noX
    · cases e : isTab cs b with
      | true => exact .inr (.inl ⟨rfl, if_pos e⟩)
      | false =>
        by_cases hb : b = a
        · subst hb
          exact .inr (.inr ⟨rfl, _, _, atA _⟩)
        · exact .inl (rest _ b e hb)
    · cases z
      exact ⟨lst, by rw [List.length_map]; exact len, vs, _, rv, lst⟩
end
theorem walkGT {l : PySem.W.OpenLaw} {n k : Nat} {q : Program} {loose : List Str} {XP : (Str → Option Value) → Heap → Prop} {YP : World → Heap → Prop} {d : DefRec} {CX : World → CXT} {x : Str}
    (hn : l.most = some n) (hn2 : n ≤ sizeLine) (hdf : d.params.defaults = []) (hr : RoomG true k callerA)
    (F : ∀ (w : World) (mg : Str → Option Value) (fa : Addr) (h : Heap), YP w h → h.Ns mainGlobals mg → mg d.name = some (.ref fa) →
      ∃ (K : PySem.W.Frag) (fd : FuncData) (sp : Sp) (cs : List (Addr × Addr)), K.In h ∧ (∀ p ∈ cs, h.get? p.2 = some tabO) ∧ (∀ p ∈ cs, K.lookup p.2 = none) ∧ (∀ p ∈ cs, PySem.W.CodeHd h p.1 p.2) ∧ (∀ (s : Shared) (u : Value), BindsTo s fd ⟨[u], []⟩ [(x, u)]) ∧
        (∀ (H : Hp) (a : Addr) (ns : List Int), ns.length ≤ n → (∀ p ∈ cs, H p.2 = some (.tbl #[])) → SqL K H a (ns.map V.int) → sp [.ref a] H (fun v _ => v = .bl true) fun _ _ _ => False) ∧
        ∀ base : Heap, K.In base → base.Ns mainGlobals mg → (∀ p ∈ cs, LamX.TabB base mg p.1 p.2) → FnG true l.prog w K mg base (CX w) k fa fd [x] sp)
    (noX : ∀ (w : World) (H : Hp) (s : Shared) (e : Value) (s' : Shared), CX w [] H s (fun _ _ _ => False) e s' → False) :
    PySem.W.WalkO q loose XP YP l.row.toRowW d [] (fun f vs => PySem.call f vs) := by
  refine Att.attach_call hn hdf ?_
  intro w s0 s1 mg mb fa o pm cd doc a vs ns G Y ho hd hcd hmg hobj hints hlen hg
  obtain ⟨K, fd, sp, cs, KX, t1, t2, t3, hb, hsp, hF⟩ := F w mg fa _ Y G.T.g hmg
  exact lawT_go hF hb ⟨t1, t2, t3, G.T.bmain⟩ KX G.T.g G.T.b G.T.builtins G.T.nolimit hg hr hobj hints (Nat.le_trans hlen hn2) (fun H hT hS => hsp H a ns hlen hT hS) fun H e s' => noX w H s1 e s'
end Pb
namespace Pb
open PySem PySem.Spec PyProof.Rows L2
open PySem.W (Frag)

/-! ### own errors: what the head looks at -/
def clsB (K : Frag) (C : Addr) : Bool := match K.lookup C with
  | some ⟨.type t, _, .cls cd, sl⟩ => t == "type" && ((match cd.mro with
    | m :: bm => m == .ref C && PySem.HandSPX.refsVE bm
    | [] => false) && (cd.hasDict && (!cd.hasDel && (match sl.toList with
    | [_, _, _, _, some (.builtin n), _] => n == "ValueError.__new__"
    | _ => false))))
  | _ => false
theorem clsB_ok {K : Frag} {C : Addr} (h : clsB K C = true) : ∃ nm q N bs bm sn sub ab col dd k0 k1 k2 k3 k5, K.lookup C = some (excClassObj nm q C N bs bm true sn sub ab col dd k0 k1 k2 k3 k5 "ValueError.__new__") ∧ PySem.HandSPX.refsVE bm = true := by
  unfold clsB at h
  split at h
  · rename_i t dd cd sl ho
    obtain ⟨h1, h⟩ := He.ba h
    obtain ⟨h2, h⟩ := He.ba h
    obtain ⟨h3, h⟩ := He.ba h
    obtain ⟨h4, h5⟩ := He.ba h
    split at h2
    · rename_i m bm hm
      obtain ⟨h6, h7⟩ := He.ba h2
      split at h5
      · rename_i k0 k1 k2 k3 n k5 hs
        obtain ⟨nm, bs, mro, ns, qn, hd, sn, sub, ab, col, del⟩ := cd
        dsimp only at hm h3 h4
        have e1 : t = "type" := by simpa using h1
        have e2 : m = .ref C := by simpa using h6
        have e3 : n = "ValueError.__new__" := by simpa using h5
        have e4 : del = false := by simpa using h4
        have e5 : sl = #[k0, k1, k2, k3, some (.builtin n), k5] := by
          obtain ⟨l⟩ := sl
          simp only at hs
          rw [hs]
        subst e1 e2 e3 e4 e5 hm h3
        exact ⟨nm, qn, ns, bs, bm, sn, sub, ab, col, dd, k0, k1, k2, k3, k5, ho, h7⟩
      · cases h5
    · cases h2
  · cases h
/-- x's __init__ -/
abbrev SuW : Type := Option (Str × Str × Arguments × FuncBody × Scope × Addr × List Str × Addr)
def suW (K : Frag) (x : Str) : SuW := match K.lookup (He.ma K (He.ga K x) "__init__") with
  | some ⟨_, _, .func fd, _⟩ => some (fd.name, fd.qualname, fd.params, fd.body, fd.scope, fd.globals, fd.closure.map (·.1), fd.builtins)
  | _ => none
def suV (qual : Str) (st : Stmt) : SuW := some ("__init__", qual, defArgs st, .stmts (defBody st), defScope st, mainGlobals, ["__class__"], builtinsNs)
def suB (file : Str) (K : Frag) (x f : Str) : Bool :=
  clsB K (He.ga K x) && (He.eqO (PySem.W.findIn K (.ref (He.ga K x)) "__setattr__") (some (some (.builtin "object.__setattr__"))) && (He.eqO (PySem.W.findIn K (.ref (He.ga K x)) f) (some none) &&
  (He.eqO (PySem.W.findIn K (.ref (He.ga K x)) "__init__") (some (some (.ref (He.ma K (He.ga K x) "__init__")))) && (decide (PySem.W.typeIn K (.ref (He.ma K (He.ga K x) "__init__")) = some (.type "function")) && (PySem.W.keepIn K (.ref (He.ga K x)) &&
  (decide (PySem.W.subIn K (.ref (He.ga K x)) (.type "BaseException") = some true) && (decide (PySem.W.subIn K (.ref (He.ga K x)) (.type "ValueError") = some true) && (decide (PySem.W.typeIn K (.ref (He.ga K x)) = some (.type "type")) &&
  (decide (PySem.W.mroIn K (He.ga K x) (.ref (He.ga K x)) = some true) && (He.eqO (PySem.W.ks_superIn K (He.ga K x) (He.ga K x) "__init__") (some (some (.builtin "ValueError.__init__"))) && (He.eqO (PySem.W.nsIn K cStatics "thirdparty.any") (some none) &&
  (match K.lookup (He.ma K (He.ga K x) "__init__") with
  | some ⟨_, _, .func fd, _⟩ => (match fd.defaults with
    | .none => true
    | _ => false) && ((match fd.code with
    | .ref cda => PySem.W.codeIn K (.ref cda) fd.qualname && (match K.lookup cda with
      | some ⟨_, _, .fields vs, _⟩ => (match (vs[2]? : Option Value) with
        | some (Value.str z _) => file == z
        | _ => false)
      | _ => false)
    | _ => false) && (match fd.closure with
    | [(_, cc)] => (match K.lookup cc with
      | some ⟨_, _, .cell (some (.ref D)), _⟩ => D == He.ga K x
      | _ => false)
    | _ => false))
  | _ => false))))))))))))
/-- what is read off the text of an __init__ with one field -/
structure SuTx (st : Stmt) (f : Str) : Prop where
  body : ∃ a1 a2 a3 a4 a5 a6 b1 b2 b3 b4 : Pos, defBody st = [.Expr (.Call (.Attribute (.Call (.Name "super" a1) [] [] a2) "__init__" a3) [.Name f a4] [] a5) a6, .Assign [.Attribute (.Name "self" b1) f b2] (.Name f b3) b4] ∧
    (∀ env : Env, env.scope = defScope st → ∃ pl : Sem Bool, eval (.Call (.Attribute (.Call (.Name "super" a1) [] [] a2) "__init__" a3) [.Name f a4] [] a5) env = (do
      let ov ← attributeBase (.Call (.Name "super" a1) [] [] a2) "__init__" env (eval (.Call (.Name "super" a1) [] [] a2) env)
      standAt a3.atName
      let (h, first) ← holding [ov] (getMethod ov "__init__" pl)
      callWith a5 h first (backTo a5 (starEach [.Name f a4] env)) [])) ∧
    (∀ env : Env, env.scope = defScope st → swapsWith (.Name f b3) (some (.Attribute (.Name "self" b1) f b2)) b4.line env = pure false)
  par : ∃ ar : Arg, ((defArgs st).posonlyargs ++ (defArgs st).args).head? = some ar ∧ ar.arg = "self"
  kind : (defScope st).kind = .function
  co : (defScope st).isCoroutine = false
  gen : (defScope st).isGenerator = false
  nc : ∀ x ∈ (defScope st).names, x.2 ≠ .cell
  n1 : (defScope st).names.lookup ("self" : Str) = some .local
  n2 : (defScope st).names.lookup f = some .local
  n3 : (defScope st).names.lookup ("__class__" : Str) = some .free
  n4 : (defScope st).names.lookup ("super" : Str) = some .globalImplicit
  ne : f ≠ "self"
  db : (f == ("__debug__" : Str)) = false
  bnd : ∀ (s : Shared) (qual : Str) (kV doc pm : Value) (an : Option Addr) (cda cc : Addr) (ct x v : Value), BindsTo s (PySem.W.ksFn "__init__" qual (defArgs st) (defBody st) (defScope st) .none kV doc pm an (.ref cda) ct cc) ⟨[x, v], []⟩ [("self", x), (f, v)]
theorem supT_of {P : Program} {K : Frag} {mg : Str → Option Value} {x f qual : Str} {st : Stmt} (B : suB P.main.file K x f = true) (W : suW K x = suV qual st) (Tx : SuTx st f) (noS : mg "super" = none) (top : (P.main.scope.names.lookup ("super" : Str)).isSome = false) :
    SupT P K mg (He.ga K x) (He.ma K (He.ga K x) "__init__") f := by
  unfold suB at B
  obtain ⟨h1, B⟩ := He.ba B
  obtain ⟨h2, B⟩ := He.ba B
  obtain ⟨h3, B⟩ := He.ba B
  obtain ⟨h4, B⟩ := He.ba B
  obtain ⟨h5, B⟩ := He.ba B
  obtain ⟨h6, B⟩ := He.ba B
  obtain ⟨h7, B⟩ := He.ba B
  obtain ⟨h8, B⟩ := He.ba B
  obtain ⟨h9, B⟩ := He.ba B
  obtain ⟨h10, B⟩ := He.ba B
  obtain ⟨h11, B⟩ := He.ba B
  obtain ⟨h12, B⟩ := He.ba B
  refine ⟨clsB_ok h1, He.eqO_ok h2, He.eqO_ok h3, He.eqO_ok h4, of_decide_eq_true h5, h6, of_decide_eq_true h7, of_decide_eq_true h8, of_decide_eq_true h9, of_decide_eq_true h10, He.eqO_ok h11, He.eqO_ok h12, noS, top, ?_⟩
  unfold suW suV at W
  split at B
  · rename_i oc od fd osl ho
    rw [ho] at W
    obtain ⟨m1, m2, m3, m4, m5, m6, m7, m8, m9, m10, m11, m12, m13, m14, m15⟩ := fd
    simp only [Option.some.injEq, Prod.mk.injEq] at W
    obtain ⟨e1, e2, e3, e4, e5, e6, e7, e8⟩ := W
    subst e1 e2 e3 e4 e5 e6 e8
    obtain ⟨B1, Br⟩ := He.ba B
    clear B
    obtain ⟨B2, B3⟩ := He.ba Br
    clear Br
    dsimp only at B1 B2 B3
    split at B1
    · split at B2
      · rename_i cda
        obtain ⟨C1, C2⟩ := He.ba B2
        split at C2
        · rename_i ccl cdd vs ccs hcode
          split at C2
          · rename_i z tf hvs
            split at B3
            · rename_i nm cc
              split at B3
              · rename_i cl cld D csl hcell
                have eD : D = He.ga K x := by simpa using B3
                subst eD
                have enm : nm = ("__class__" : Str) := by
                  have q : [nm] = [("__class__" : Str)] := e7
                  exact (List.cons.inj q).1
                subst enm
                obtain ⟨a1, a2, a3, a4, a5, a6, b1, b2, b3, b4, hb, hev, hsw⟩ := Tx.body
                obtain ⟨ar, hp, har⟩ := Tx.par
                have bnd := Tx.bnd
                rw [hb] at ho bnd
                exact ⟨oc, od, m2, defArgs st, defScope st, .none, m9, m10, m11, m12, cda, cc, m14, osl, a1, a2, a3, a4, a5, a6, b1, b2, b3, b4, ar, ccl, cdd, vs, ccs, z, tf, cl, cld, csl, ho, C1, hcode, hvs, C2, hcell, hp, har, Tx.kind, Tx.co, Tx.gen, Tx.nc, Tx.n1, Tx.n2, Tx.n3, Tx.n4, Tx.ne, Tx.db,
                  fun s x v => bnd s m2 m9 m10 m11 m12 cda cc m14 x v, hev, hsw⟩
              · cases B3
            · cases B3
          · cases C2
        · cases C2
      · cases B2
    · cases B1
  · cases B
/-! ### the Hook: defs, own errors, makers of lambdas, one Bool more -/
structure SaysU (fa : List He.Fa) (fn : List He.DefD) (su : List Str) (sv : List SuW) (tf : List He.Defn) (ex : Frag → Bool) (h : Heap) (K : Frag) : Prop where
  d : He.SaysD fa fn K
  s : su.map (suW K) = sv
  more : ex K = true
  hd : ∀ p ∈ tf, PySem.W.codeHdIn K (He.cT K p).1 (He.cT K p).2 = true
  out : ∀ p ∈ tf, K.lookup (He.cT K p).2 = none
  empty : ∀ p ∈ tf, h.get? (He.cT K p).2 = some tabO
abbrev AlU : Type := (He.AlD × List SuW) × Bool
def frU (n : Nat) (g : Addr → Option Obj) : Frag := He.frT g (He.asD g n ++ [cStatics, sysModules])
def obsU (n : Nat) (fa : List He.Fa) (fn : List He.DefD) (su : List Str) (tf : List He.Defn) (ex : Frag → Bool) (g : Addr → Option Obj) : AlU :=
  ((He.obsD fa fn (frU n g), su.map (suW (frU n g))), ex (frU n g) && He.tabsB g tf (frU n g))
def valU (fn : List He.DefD) (sv : List SuW) : AlU := ((He.valD fn, sv), true)
theorem saysU_of {n : Nat} {fa : List He.Fa} {fn : List He.DefD} {su : List Str} {sv : List SuW} {tf : List He.Defn} {ex : Frag → Bool} {h : Heap} (e : obsU n fa fn su tf ex h.get? = valU fn sv) : SaysU fa fn su sv tf ex h (frU n h.get?) := by
  have e1 : He.obsD fa fn (frU n h.get?) = He.valD fn := congrArg (fun z : AlU => z.1.1) e
  have e2 : su.map (suW (frU n h.get?)) = sv := congrArg (fun z : AlU => z.1.2) e
  have e3 : (ex (frU n h.get?) && He.tabsB h.get? tf (frU n h.get?)) = true := congrArg (fun z : AlU => z.2) e
  obtain ⟨h1, h2⟩ := He.ba e3
  have look : ∀ p ∈ tf, PySem.W.codeHdIn (frU n h.get?) (He.cT (frU n h.get?) p).1 (He.cT (frU n h.get?) p).2 = true ∧ ∃ o, h.get? (He.cT (frU n h.get?) p).2 = some o ∧ He.emptyTab o = true := by
    intro p hp
    obtain ⟨h3, h4⟩ := He.ba (List.all_eq_true.mp h2 p hp)
    refine ⟨h3, ?_⟩
    split at h4
    · rename_i o q
      exact ⟨o, q, h4⟩
    · cases h4
  refine ⟨e1, e2, h1, fun p hp => (look p hp).1, fun p hp => ?_, fun p hp => ?_⟩
  · obtain ⟨_, o, q, z⟩ := look p hp
    exact He.frT_none q z
  · obtain ⟨_, o, q, z⟩ := look p hp
    rw [q, He.emptyTab_eq z]
def hookU (n : Nat) (fa : List He.Fa) (fn : List He.DefD) (su : List Str) (sv : List SuW) (tf : List He.Defn) (ex : Frag → Bool) : PySem.W.Hook where
  α := AlU
  obs := fun s => obsU n fa fn su tf ex s.heap.get?
  val := fun _ => valU fn sv
  says := fun _ h => ∃ K : Frag, K.In h ∧ SaysU fa fn su sv tf ex h K
  of := fun _ _ e => ⟨_, He.frT_in, saysU_of e⟩
  keeps := fun _ _ _ ⟨K, hK, c⟩ k => ⟨K, PySem.W.Frag.In.keeps hK k, ⟨c.d, c.s, c.more, c.hd, c.out, fun p hp => k _ _ (c.empty p hp)⟩⟩
theorem obsU_eq {n : Nat} {fa : List He.Fa} {fn : List He.DefD} {su : List Str} {sv : List SuW} {tf : List He.Defn} {ex : Frag → Bool} {g : Addr → Option Obj} {s : Shared} (h : ∀ a, g a = s.heap.get? a) : obsU n fa fn su tf ex g = (hookU n fa fn su sv tf ex).obs s := by
  have e : g = s.heap.get? := funext h
  subst e
  rfl
theorem SaysU.sup {fa : List He.Fa} {fn : List He.DefD} {su : List Str} {sv : List SuW} {tf : List He.Defn} {ex : Frag → Bool} {h : Heap} {K : Frag} (c : SaysU fa fn su sv tf ex h K) (i : Nat) {x : Str} {v : SuW} (h1 : su[i]? = some x) (h2 : sv[i]? = some v) : suW K x = v := by
  have e := c.s
  rw [← e, List.getElem?_map, h1] at h2
  exact Option.some.inj h2
end Pb
namespace Pb
open PySem PySem.Spec PyProof.Rows L2

/-! ### try: .. except x as n: y = n / the rest, the error held in y -/
abbrev heldX (X : Cx) (a : Addr) (oe : Obj) : Cx := { X with pn := (a, oe) :: X.pn }
section
variable {X : Cx} {pins : List (Addr × Obj)} {σ : L2.St} {H : Hp} {s : Shared} {a : Addr} {oe : Obj}
theorem held_ok (ok : X.Ok) : (heldX X a oe).Ok := by
  obtain ⟨h1, h2, h3, h4, h5, h6, h7, h8, h9, h10, h11, h12, h13, h14, h15, h16, h17, h18⟩ := ok
  exact ⟨h1, h2, h3, h4, h5, h6, h7, h8, h9, h10, h11, h12, h13, h14, h15, h16, h17, h18⟩
theorem held_in {pn : List (Addr × Obj)} {b : Addr} (ok : X.Ok) (I : Inv (X.suite b ((a, oe) :: (X.pn ++ pins))) pn σ H s) : Inv (heldX X a oe) pins σ H s := by
  obtain ⟨_, h2, h3, h4, h5, h6, h7, h8, h9, h10, h11⟩ := I
  exact ⟨held_ok ok, h2, h3, h4, h5, h6, h7, h8, fun p hp => h9 p (List.mem_append_left _ hp), h10, h11⟩
theorem held_out (ok : X.Ok) (I : Inv (heldX X a oe) pins σ H s) : Inv X pins σ H s := by
  obtain ⟨_, h2, h3, h4, h5, h6, h7, h8, h9, h10, h11⟩ := I
  exact ⟨ok, h2, h3, h4, h5, h6, h7, h8, fun p hp => h9 p (List.mem_cons_of_mem _ hp), h10, h11⟩
end
/-- behind the try: with the error held, or without one -/
def SPk (X : Cx) (pins : List (Addr × Obj)) (D : Ends) (u : TS) (k : Addr → Value → Option Addr → TS) (f : Flow) (s' : Shared) : Prop :=
  match f with
  | .next => (∃ σ' H', Inv X pins σ' H' s' ∧ u D σ' H') ∨ ∃ a oe cls d σ' H', Zc cls d oe ∧ (∃ vs, oe.data = .fields vs) ∧ Inv (heldX X a oe) pins σ' H' s' ∧ k a cls d D σ' H'
  | f => SP X pins D f s'
/-- what is wished of an error that flies out of the body: i the slot of n, j of y -/
def wKeep (K : PySem.W.Frag) (c : Value) (i j : Nat) (k : Addr → Value → Option Addr → TS) (Wout : WX) (D : Ends) : WX := fun cls d σ H =>
  ∃ b, PySem.W.exmOne K cls c = some b ∧ (b = true → ∀ a, H a = none → k a cls d D (((σ.set i (some (.ref a))).set j (some (.ref a))).set i none) H) ∧ (b = false → Wout cls d σ H)
section
variable {X : Cx} {x n y : Str} {c : Value} {i j : Nat} {body rest : List Stmt} {np p1 p2 p3 pos pos' : Pos} {tb : WX → TS} {u : TS} {k : Addr → Value → Option Addr → TS} {Wout : WX}
theorem pss_keep (hs : X.stack = X.env :: X.outer) (hf : X.env.frame = some X.env.locals) (hN : X.N.Nodup) (hi : X.N[i]? = some n) (hj : X.N[j]? = some y) (hij : i ≠ j) (hln : X.env.kindOf n = some .local) (hly : X.env.kindOf y = some .local) (hc : Names X x c) (tk : Takes X Wout)
    (hdn : (n == ("__debug__" : Str)) = false) (hcn : (n == ("__classdict__" : Str)) = false) (hsw : swapsWith (.Name n p2) (some (.Name y p1)) p3.line X.env = pure false)
    (hb : ∀ (W : WX) (pn : List (Addr × Obj)) (xe : Value → Shared → Prop), Takes (X.tr pn xe) W → PassesOwn (model X.prog X.w) X.A X.env xe → PSs (X.tr pn xe) body (tb W))
    (hr : PSs X rest u) (hk : ∀ (a : Addr) (oe : Obj) (cls : Value) (d : Option Addr), Zc cls d oe → (∃ vs, oe.data = .fields vs) → PSs (heldX X a oe) rest (k a cls d)) :
    PSs X (.Try body [.ExceptHandler (some (.Name x np)) (some n) [.Assign [.Name y p1] (.Name n p2) p3] pos'] [] [] pos :: rest) (fun D σ H => tb (wKeep X.K c i j k Wout D) { D with nx := u D } σ H) := by
  constructor
  intro pins s σ H D I h
  have ok := I.ok
  refine wpAny_execs_cons (thn (Q := SPk X pins D u k) ?_ ?_)
  · have frm : X.A.frames = some (X.env :: X.outer) := ok.frames.trans (by rw [hs])
    refine wpAny_Try_except ?_
    refine wpAny_mono ((hb (wKeep X.K c i j k Wout D) (X.pn ++ pins) (fun e s₁ => wpAny (model X.prog X.w) X.A (noteFrame e X.env) (fun _ s₂ => wpAny (model X.prog X.w) X.A (setFlight e none) (fun _ s₃ =>
      wpAny (model X.prog X.w) X.A (handleBy e X.env [.ExceptHandler (some (.Name x np)) (some n) [.Assign [.Name y p1] (.Name n p2) p3] pos']) (SPk X pins D u k) X.xe s₃) X.xe s₂) X.xe s₁) ?_ PassesOwn.looking).run [] s σ H _ (I.toTry _) h) ?_ (fun _ _ z => z)
    · intro e' s' fly
      obtain ⟨a, B, sI, pins', σ', H', cls, d, rfl, J', nb, up, sky, na, os, ag, b, hb1, yes, no⟩ := fly
      have J : Inv X pins σ' H' sI := J'.ofTry ok
      rw [show (X.tr (X.pn ++ pins) _).stack = X.env :: X.outer from hs] at sky
      refine Sky.land Zc.steady frm hf sky fun g1 fl1 up1 => ?_
      have J1 : Inv X pins σ' H' { s' with heap := g1 } := J.landed nb fl1.1 (up.trans up1) os ag
      obtain ⟨o1, v1, at1, z1, d1⟩ := fl1.there
      have away : a ∉ frs (X.env :: X.outer) := by
        intro hm
        obtain ⟨_, o', e', nof⟩ := fl1.2.2.1.mem hm
        rw [at1] at e'
        cases e'
        exact nof _ d1
      have nL : a ≠ X.env.locals := fun z => away (List.mem_filterMap.mpr ⟨X.env, List.mem_cons_self, by rw [hf, z]⟩)
      have nF : a ∉ X.fs := by
        intro hm
        obtain ⟨e, he, q⟩ := List.mem_filterMap.mp hm
        exact away (List.mem_filterMap.mpr ⟨e, List.mem_cons_of_mem _ he, q⟩)
      have S1 := J1.suite at1 d1 na nL nF
      refine wpAny_handleBy_cons (codeAny_handlers_test ?_) (by intro q; cases q)
      have ty : PySem.W.Looks (model X.prog X.w) g1 (typeOf (.ref a)) cls := fun A Q E s k q => wpAny_typeOf_ref (k _ _ at1) (by rw [z1.1]; exact q)
      have mt := PySem.W.exm_one (M := model X.prog X.w) (J1.kIn) ty hb1
      have named : ∀ {Q : Value → Shared → Prop} {E : Value → Shared → Prop}, Q c { s' with heap := g1 } → wpAny (model X.prog X.w) (X.A.mark (some (.ref a))) (eval (.Name x np) X.env) Q E { s' with heap := g1 } := by
        intro Q E q
        obtain ⟨hg, hdbg, hm | ⟨hm, hv, hnn⟩⟩ := hc
        · exact ld_glob (X := X.suite a ((a, o1) :: (X.pn ++ pins))) S1 hg hm q hdbg
        · exact ld_blt (X := X.suite a ((a, o1) :: (X.pn ++ pins))) S1 hg hm hv q hnn hdbg
      refine named (mt.here ?_)
      cases b with
      | true =>
        refine codeAny_handlers_suite_as ?_
        refine HandSPX.lands_againZ fl1 fun g2 fl2 up2 => ?_
        have J2 : Inv X pins σ' H' { s' with heap := g2 } := J.landed nb fl2.1 ((up.trans up1).trans up2) os ag
        obtain ⟨o2, v2, at2, z2, d2⟩ := fl2.there
        have S2 := J2.suite at2 d2 na nL nF
        refine store_ok (X := X.suite a ((a, o2) :: (X.pn ++ pins))) (v := .ref a) S2 hN hi (.inl hln) rfl (fun s5 S5 => ?_) (.inr hln)
        have hlen : i < σ'.length := by
          rw [J.len]
          exact (List.getElem?_eq_some_iff.mp hi).1
        have put : PSs (X.suite a ((a, o2) :: (X.pn ++ pins))) [.Assign [.Name y p1] (.Name n p2) p3] (tAsg (tVar i) (gName j)) := pss_one (ps_asg (pe_var hi (.inl hln) hdn hcn) (pg_name hN hj (.inl hly) (hf := .inr hly)) hsw)
        refine wpAny_mono (put.run [] s5 _ H' { nx := fun σ6 H6 => σ6 = (σ'.set i (some (.ref a))).set j (some (.ref a)) ∧ H6 = H', rt := fun _ _ => False } S5 ?_) (fun f s6 q6 => ?_) (fun _ _ z => z.elim)
        · exact ⟨.ref a, List.getElem?_set_self hlen, rfl, rfl⟩
        cases f with
        | next =>
          obtain ⟨σ6, H6, S6, rfl, rfl⟩ := q6
          have R6 := held_in ok S6
          refine gone_ok (X := heldX X a o2) R6 hN hi hln fun s7 J7 => ?_
          exact .inr ⟨a, o2, cls, d, _, _, z2, ⟨_, d2⟩, J7, yes rfl a na⟩
        | brk =>
          obtain ⟨_, _, _, z⟩ := q6
          exact z.elim
        | cont =>
          obtain ⟨_, _, _, z⟩ := q6
          exact z.elim
        | ret w =>
          obtain ⟨_, _, _, _, _, z⟩ := q6
          exact z.elim
      | false =>
        show wpAny _ X.A (handleBy (.ref a) X.env []) _ _ _
        refine wpAny_handleBy_nil ?_
        obtain ⟨_, _, _, oe, vs, T, oT, ts', he, hz, hd, h1, _⟩ := id fl1
        unfold PySem.passOn
        refine wpAny_bind (wpAny_field he hd h1 ?_)
        rw [if_neg (show ¬ ((Value.ref T == Value.none) = true) from by simp)]
        have on : wpAny (model X.prog X.w) X.A (setFlight (.ref a) X.env.frame) (fun _ s4 => wpAny (model X.prog X.w) X.A (throw (.ref a) : Sem Flow) (SPk X pins D u k) X.xe s4) X.xe { s' with heap := g1 } := by
          rw [hf]
          refine HandSPX.setFlight_upZ fl1 fun h4 hh4 up4 => wpAny_throw (tk _ _ ?_)
          exact ⟨a, B, sI, pins, σ', H', cls, d, rfl, J, nb, (up.trans up1).trans up4, .inr (.inr (by rw [hs]; exact hh4)), na, os, ag, no rfl⟩
        first
          | exact wpAny_bind (wpAny_pure (wpAny_bind on))
          | exact wpAny_bind on
    · intro f s1 q
      cases f with
      | next =>
        obtain ⟨σ', H', J', q⟩ := q
        exact wpAny_execs_nil (.inl ⟨σ', H', J'.ofTry ok, q⟩)
      | brk =>
        obtain ⟨σ', H', J', q⟩ := q
        exact ⟨σ', H', J'.ofTry ok, q⟩
      | cont =>
        obtain ⟨σ', H', J', q⟩ := q
        exact ⟨σ', H', J'.ofTry ok, q⟩
      | ret v =>
        obtain ⟨v', σ', H', J', r, q⟩ := q
        exact ⟨v', σ', H', J'.ofTry ok, r, q⟩
  · intro f s1 q
    cases f with
    | next =>
      rcases q with ⟨σ', H', J, q⟩ | ⟨a, oe, cls, d, σ', H', hz, hv, J, q⟩
      · exact hr.run pins s1 σ' H' D J q
      · refine thn ((hk a oe cls d hz hv).run pins s1 σ' H' D J q) fun f s2 q2 => ?_
        cases f with
        | next =>
          obtain ⟨σ2, H2, J2, q2⟩ := q2
          exact ⟨σ2, H2, held_out ok J2, q2⟩
        | brk =>
          obtain ⟨σ2, H2, J2, q2⟩ := q2
          exact ⟨σ2, H2, held_out ok J2, q2⟩
        | cont =>
          obtain ⟨σ2, H2, J2, q2⟩ := q2
          exact ⟨σ2, H2, held_out ok J2, q2⟩
        | ret v =>
          obtain ⟨v2, σ2, H2, J2, r2, q2⟩ := q2
          exact ⟨v2, σ2, H2, held_out ok J2, r2, q2⟩
    | brk => exact q
    | cont => exact q
    | ret v => exact q
end
end Pb
namespace Pb
open PySem PySem.W PySem.Spec PySem.Calls PyProof.Rows
/-! ### isinstance of an error that has a dict -/
section
variable {prog : Program} {w : World} {A : Around} {E : Value → Shared → Prop} {s : Shared} {K : Frag} {x D : Addr} {ox : Obj} {od : Option Obj}
theorem found_class {C : Addr} {name : Str} {a g : Value} (h1 : (clsIn K C).isSome = true) (h2 : findIn K (.ref C) name = some (some a)) (h3 : specialIn K a "__get__" = some (some g)) (h4 : takesIn K a = some true) : findObj K C od name = some (.bind g a) := by
  obtain ⟨cd, e⟩ := Option.isSome_iff_exists.mp h1
  unfold findObj
  rw [e, Option.bind_some, h2, Option.bind_some]
  simp [h3, h4]
theorem class_of_err {Q : Option Value → Shared → Prop} (T : L2.ExcC K D) (KX : K.In s.heap) (J : InstAt s.heap x ox D od) (fin : Q (some (.ref D)) { s with toks := s.toks + 1 }) : wpAny (model prog w) A (getAttr? (.ref x) "__class__") Q E s := by
  have fo : findObj K D od "__class__" = some (.bind (.builtin "getset_descriptor.__get__") (.builtin "object.__class__")) := by
    refine found_class ?_ T.ha T.hn T.ht
    obtain ⟨cd, e, _⟩ := any_some T.hd
    rw [e]
    rfl
  obtain ⟨hp, g, d, t, os⟩ := s
  have l0 := J.type (M := model prog w)
  have l1 := looks_findIn (M := model prog w) KX T.hg
  have l2 := looks_findIn (M := model prog w) KX T.hk
  have l3 := looks_find (M := model prog w) KX J fo
  have isB : Looks (model prog w) hp (isInstance (.ref x) (.type "BaseException")) true := l0.andThen (looks_subIn KX T.hs)
  have n2 : (Value.builtin "BaseException.__getattribute__" == Value.builtin "object.__getattribute__") = false := by decide +kernel
  have n1 : (onTheHeap (Value.ref D) && Value.builtin "BaseException.__getattribute__" == Value.builtin "object.__getattribute__") = false := by rw [n2]; rfl
  have n0 : (false && onTheHeap (Value.builtin "BaseException.__getattribute__")) = false := rfl
  unfold getAttr? getAttrBy? getAttrBy
  refine wpAny_bind (wpAny_mkText (wpAny_bind (wpAny_attempt (wpAny_holding (wpAny_bind (l0.at (wpAny_bind (l1.at ?_))))))))
  show wpAny _ _ (if (onTheHeap (Value.ref D) && Value.builtin "BaseException.__getattribute__" == Value.builtin "object.__getattribute__") = true then _ else _) _ _ _
  rw [n1, if_neg Bool.false_ne_true]
  unfold getAttrByItsOwn hookBefore
  refine wpAny_bind ?_
  rw [if_pos (show onTheHeap (Value.ref D) = true from rfl)]
  refine l2.at (wpAny_bind (wpAny_attempt (wpAny_holding ?_)))
  unfold callGetattribute
  rw [n0, if_neg Bool.false_ne_true]
  unfold boundAndCalled
  rw [PySem.F.excAttr_ValueError.ga.bind (.ref x)]
  refine wpAny_bind (wpAny_pure (wpAny_call (codeAny_call_builtin PySem.F.excAttr_ValueError.ga.plain PySem.F.entry_bexc_ga ?_)))
  refine @check_slot (model prog w) _ _ ⟨hp, g, d, t + 1, os⟩ "BaseException.__getattribute__" "BaseException" "__getattribute__" (.ref x) [.str "__class__" t] [] _ (by decide +kernel) (by decide +kernel) isB (PySem.F.args_bexc_ga (.ref x) (.str "__class__" t)) ?_
  unfold Builtin.«object.__getattribute__»
  refine wpAny_bind (wpAny_of_eq (a := ((Value.ref x : Value), [Value.str "__class__" t])) (by first | rfl | (simp only [slotArgs]; rfl)) (wpAny_bind (wpAny_pure (wpAny_bind (l0.at (wpAny_bind (l3.at ?_)))))))
  show wpAny _ _ (holding [Value.builtin "object.__class__"] (call (.builtin "getset_descriptor.__get__") [.builtin "object.__class__", .ref x, .ref D]) >>= ret) _ _ _
  refine wpAny_bind (wpAny_holding (wpAny_call (class_get (s := ⟨hp, g, d, t + 1, os⟩) (ox := ox) (od := od) KX J T.hm (wpAny_pure ?_))))
  show wpAny _ _ (handedOut (.ref D)) _ _ _
  rw [handedOut_of (v := .ref D) rfl]
  first
    | exact wpAny_pure (wpAny_pure fin)
    | exact wpAny_pure fin
    | exact wpAny_pure (wpAny_bind (wpAny_pure (wpAny_pure fin)))
theorem kitx_err (T : L2.ExcC K D) : KitX K (.ref x) (.ref D) (fun h => ∃ od, InstAt h x ox D od) where
  ty := fun _ _ _ I => by
    obtain ⟨od, I⟩ := I
    exact I.type
  it := fun M h KX _ => by
    obtain ⟨cd, e, _⟩ := any_some T.hd
    unfold clsIn at e
    split at e
    · rename_i c' d' cd' sl' ho
      intro A' Q' E' s' k q
      unfold isType loadHead
      exact wpAny_bind (wpAny_loadPart (k _ _ (KX _ _ ho)) (wpAny_pure q))
    · cases e
  ne := fun h tp dd its n sl KX htp => by
    obtain ⟨cd, e, _⟩ := any_some T.hd
    refine Bool.eq_false_iff.mpr fun q => ?_
    have z : D = tp := Value.ref.inj (beq_iff_eq.mp q)
    subst z
    unfold clsIn at e
    split at e
    · rename_i c' d' cd' sl' ho
      have y := (KX _ _ ho).symm.trans htp
      cases y
    · cases e
  ca := fun KX I k => by
    obtain ⟨od, I⟩ := I
    exact class_of_err T KX I k
end
end Pb
namespace Pb
open PySem PySem.Spec PyProof.Rows L2
/-- what the written part says of an own error's class: isinstance may be asked, fields may be read -/
def ecB (K : PySem.W.Frag) (D : Addr) : Bool := xfB K D && (He.eqO (PySem.W.findIn K (.ref D) "__class__") (some (some (.builtin "object.__class__"))) && (He.eqO (PySem.W.specialIn K (.builtin "object.__class__") "__get__") (some (some (.builtin "getset_descriptor.__get__"))) &&
  (decide (PySem.W.takesIn K (.builtin "object.__class__") = some true) && decide (PySem.W.mroIn K D (.type "object") = some true))))
theorem ecB_ok {K : PySem.W.Frag} {D : Addr} (h : ecB K D = true) : XfC K D ∧ ExcC K D := by
  obtain ⟨h1, h⟩ := He.ba h
  obtain ⟨h2, h⟩ := He.ba h
  obtain ⟨h3, h⟩ := He.ba h
  obtain ⟨h4, h5⟩ := He.ba h
  have X := xfB_ok h1
  exact ⟨X, X.ga, X.gg, X.exC, X.hdC, He.eqO_ok h2, He.eqO_ok h3, of_decide_eq_true h4, of_decide_eq_true h5⟩
section
variable {X : Cx} {a : Addr} {oe : Obj} {cls : Value} {d : Option Addr}
/-- the held error is an instance that has its dict -/
theorem held_inst {pins : List (Addr × Obj)} {σ : L2.St} {H : Hp} {s : Shared} {D dd : Addr} {fs : List (Str × V)} (hz : Zc (.ref D) (some dd) oe) (hf : ∃ vs, oe.data = .fields vs) (I : Inv (heldX X a oe) pins σ H s) (hd : H dd = some (.xd fs)) :
    ∃ od, PySem.W.InstAt s.heap a oe D (some od) ∧ ∀ n v, fs.lookup n = some v → ∃ u, RelV v u ∧ PySem.W.lookIn n od = some (some u) := by
  obtain ⟨ha, _⟩ := I.pin (a, oe) (List.mem_append_left _ List.mem_cons_self)
  obtain ⟨vs, hv⟩ := hf
  obtain ⟨mA, hns, hr⟩ : ObjOk X.prog X.w H s.heap dd (.xd fs) := I.hok dd _ hd
  obtain ⟨od, ho, hl⟩ := lookIn_ns hns
  refine ⟨od, ⟨ha, hz.1, by unfold PySem.W.notCls; rw [hv] <;> rfl, by rw [hz.2]; exact ho⟩, fun n v l => ?_⟩
  obtain ⟨u, hu, ru⟩ := RelO.some_of (v := v) (o := mA n) (by rw [← l]; exact hr n)
  exact ⟨u, ru, by rw [hl, hu]⟩
/-- isinstance(y, c), y the held error -/
def rIsH (K : PySem.W.Frag) (a : Addr) (cls : Value) (d : Option Addr) : List V → Hp → VK → Prop := fun xs H Q => ∃ (D dd : Addr) (fs : List (Str × V)) (c : V) (cv : Value) (b : Bool), xs = [.ref a, c] ∧ cls = .ref D ∧ d = some dd ∧ H dd = some (.xd fs) ∧ ecB K D = true ∧ (∀ u, RelV c u → u = cv) ∧ PySem.W.kitOne K (.ref D) cv = some b ∧ Q (.bl b) H
theorem call_isH (hz : Zc cls d oe) (hf : ∃ vs, oe.data = .fields vs) : CallR (heldX X a oe) (.builtin "isinstance") (rIsH X.K a cls d) := by
  intro pins s σ H xs us Q I r h
  obtain ⟨D, dd, fs, c, cv, b, rfl, rfl, rfl, hd, T, hcv, e, q⟩ := h
  cases r with
  | cons rx rr =>
    cases rr with
    | cons rt rr =>
      cases rr
      cases rx
      cases hcv _ rt
      obtain ⟨od, J, _⟩ := held_inst hz hf I hd
      exact PySem.W.kia_one (kitx_err (ox := oe) (ecB_ok T).2) I.kIn ⟨_, J⟩ e (fun z => nomatch z) fun tk => ⟨.bl b, H, I.kept (t' := tk) fun _ _ z => z, rfl, q⟩
/-- y.n, y the held error -/
def tHf (K : PySem.W.Frag) (a : Addr) (cls : Value) (d : Option Addr) (n : Str) (te : TE) : TE := fun σ H Q => te σ H fun x H1 => ∃ (D dd : Addr) (fs : List (Str × V)) (v : V), x = .ref a ∧ cls = .ref D ∧ d = some dd ∧ H1 dd = some (.xd fs) ∧ ecB K D = true ∧ PySem.W.findIn K (.ref D) n = some none ∧ fs.lookup n = some v ∧ Q v H1
theorem pe_hf {e : Expr} {te : TE} {pos : Pos} {n : Str} (hz : Zc cls d oe) (hf : ∃ vs, oe.data = .fields vs) (he : PE (heldX X a oe) e te) (hb : attributeBase e n X.env (eval e X.env) = eval e X.env := by rfl) :
    PE (heldX X a oe) (.Attribute e n pos) (tHf X.K a cls d n te) := by
  constructor
  intro pins s σ H Q I h
  refine attr_of hb (thn (he.run pins s σ H _ I h) fun u s1 hh => ?_)
  obtain ⟨x, H1, I1, rx, D, dd, fs, v, rfl, rfl, rfl, hd, T, hno, l, q⟩ := hh
  cases rx
  obtain ⟨od, J, lk⟩ := held_inst hz hf I1 hd
  obtain ⟨u, ru, hu⟩ := lk n v l
  have C := (ecB_ok T).1
  exact HandSPX.exc_get I1.kIn J C.ga C.gg C.exC (PySem.W.findObj_own C.hdC hno rfl hu) (handed_of ru) ⟨v, H1, I1.tok _, ru, q⟩
end
end Pb
namespace Pb
open PySem PySem.Spec PyProof.Rows L2

/-! ### an own error that is a value: isinstance, fields -/
section
variable {X : Cx}
theorem val_inst {pins : List (Addr × Obj)} {σ : L2.St} {H : Hp} {s : Shared} {p D dd : Addr} {fs : List (Str × V)} (I : Inv X pins σ H s) (hp : H p = some (exo p D (some dd))) (hd : H dd = some (exd dd fs)) :
    ∃ ox od, PySem.W.InstAt s.heap p ox D (some od) ∧ ∀ n v, fs.lookup n = some v → ∃ u, RelV v u ∧ PySem.W.lookIn n od = some (some u) := by
  obtain ⟨t1, hx⟩ := exo_at I.hok hp
  obtain ⟨mA, hns, hr⟩ := exd_at I.hok hd
  obtain ⟨od, ho, hl⟩ := lookIn_ns hns
  refine ⟨_, od, ⟨hx, rfl, rfl, ho⟩, fun n v l => ?_⟩
  obtain ⟨u, hu, ru⟩ := RelO.some_of (v := v) (o := mA n) (by rw [← l]; exact hr n)
  exact ⟨u, ru, by rw [hl, hu]⟩
def rIsV (K : PySem.W.Frag) : List V → Hp → VK → Prop := fun xs H Q => ∃ (p D dd : Addr) (fs : List (Str × V)) (c : V) (cv : Value) (b : Bool), xs = [.ref p, c] ∧ H p = some (exo p D (some dd)) ∧ H dd = some (exd dd fs) ∧ ecB K D = true ∧ (∀ u, RelV c u → u = cv) ∧ PySem.W.kitOne K (.ref D) cv = some b ∧ Q (.bl b) H
theorem call_isV : CallR X (.builtin "isinstance") (rIsV X.K) := by
  intro pins s σ H xs us Q I r h
  obtain ⟨p, D, dd, fs, c, cv, b, rfl, hp, hd, T, hcv, e, q⟩ := h
  cases r with
  | cons rx rr =>
    cases rr with
    | cons rt rr =>
      cases rr
      cases rx
      cases hcv _ rt
      obtain ⟨ox, od, J, _⟩ := val_inst I hp hd
      exact PySem.W.kia_one (kitx_err (ox := ox) (ecB_ok T).2) I.kIn ⟨_, J⟩ e (fun z => nomatch z) fun tk => ⟨.bl b, H, I.kept (t' := tk) fun _ _ z => z, rfl, q⟩
def tVf (K : PySem.W.Frag) (n : Str) (te : TE) : TE := fun σ H Q => te σ H fun x H1 => ∃ (p D dd : Addr) (fs : List (Str × V)) (v : V), x = .ref p ∧ H1 p = some (exo p D (some dd)) ∧ H1 dd = some (exd dd fs) ∧ ecB K D = true ∧ PySem.W.findIn K (.ref D) n = some none ∧ fs.lookup n = some v ∧ Q v H1
end
section
variable {X : Cx} {a : Addr} {oe : Obj} {cls : Value} {d : Option Addr}
/-- in the rest behind the try: the held error, or one that is a value -/
def rIsHV (K : PySem.W.Frag) (a : Addr) (cls : Value) (d : Option Addr) : List V → Hp → VK → Prop := fun xs H Q => rIsH K a cls d xs H Q ∨ rIsV K xs H Q
theorem call_isHV (hz : Zc cls d oe) (hf : ∃ vs, oe.data = .fields vs) : CallR (heldX X a oe) (.builtin "isinstance") (rIsHV X.K a cls d) := CallR.or (call_isH hz hf) call_isV
def tHVf (K : PySem.W.Frag) (a : Addr) (cls : Value) (d : Option Addr) (n : Str) (te : TE) : TE := fun σ H Q => te σ H fun x H1 => (∃ (D dd : Addr) (fs : List (Str × V)) (v : V), x = .ref a ∧ cls = .ref D ∧ d = some dd ∧ H1 dd = some (.xd fs) ∧ ecB K D = true ∧ PySem.W.findIn K (.ref D) n = some none ∧ fs.lookup n = some v ∧ Q v H1) ∨
  ∃ (p D dd : Addr) (fs : List (Str × V)) (v : V), x = .ref p ∧ H1 p = some (exo p D (some dd)) ∧ H1 dd = some (exd dd fs) ∧ ecB K D = true ∧ PySem.W.findIn K (.ref D) n = some none ∧ fs.lookup n = some v ∧ Q v H1
theorem pe_hvf {e : Expr} {te : TE} {pos : Pos} {n : Str} (hz : Zc cls d oe) (hf : ∃ vs, oe.data = .fields vs) (he : PE (heldX X a oe) e te) (hb : attributeBase e n X.env (eval e X.env) = eval e X.env := by rfl) :
    PE (heldX X a oe) (.Attribute e n pos) (tHVf X.K a cls d n te) := by
  constructor
  intro pins s σ H Q I h
  refine attr_of hb (thn (he.run pins s σ H _ I h) fun u s1 hh => ?_)
  obtain ⟨x, H1, I1, rx, hh⟩ := hh
  rcases hh with ⟨D, dd, fs, v, rfl, rfl, rfl, hd, T, hno, l, q⟩ | ⟨p, D, dd, fs, v, rfl, hp, hd, T, hno, l, q⟩
  · cases rx
    obtain ⟨od, J, lk⟩ := held_inst hz hf I1 hd
    obtain ⟨u, ru, hu⟩ := lk n v l
    have C := (ecB_ok T).1
    exact HandSPX.exc_get I1.kIn J C.ga C.gg C.exC (PySem.W.findObj_own C.hdC hno rfl hu) (handed_of ru) ⟨v, H1, I1.tok _, ru, q⟩
  · cases rx
    obtain ⟨ox, od, J, lk⟩ := val_inst I1 hp hd
    obtain ⟨u, ru, hu⟩ := lk n v l
    have C := (ecB_ok T).1
    exact HandSPX.exc_get I1.kIn J C.ga C.gg C.exC (PySem.W.findObj_own C.hdC hno rfl hu) (handed_of ru) ⟨v, H1, I1.tok _, ru, q⟩
end
/-! ### their readings over data -/
section
variable {c : Fc} {Γ : List Sl} {n : Nat} {k : Kd} {te : TE} {ta : TA} {N : Nd}
theorem lookup_data {c : Wc} {av : Addr → Prop} {H : Hp} {f : Str} {d : Dt} : ∀ {fs : List (Str × V)} {ns : List Str} {ds : List Dt}, fs.map (·.1) = ns → DaAll c av H (fs.map (·.2)) ds → (ns.zip ds).lookup f = some d → ∃ v, fs.lookup f = some v ∧ Da c av H v d
  | [], _, _, e, h, l => by
    cases e
    cases h
    cases l
  | (g, v) :: fs, _, _, e, h, l => by
    cases e
    cases h with
    | cons h1 h2 =>
      rw [List.map_cons, List.zip_cons_cons] at l
      simp only [List.lookup] at l ⊢
      split at l
      · cases l
        exact ⟨v, rfl, h1⟩
      · exact lookup_data rfl h2 l
/-- isinstance of an error -/
theorem w_isHV {a D0 dd0 C : Addr} {cls : Value} {d : Option Addr} (her : c.er = some (a, D0, dd0)) (hcls : cls = .ref D0) (hd : d = some dd0)
    (h : We c Γ n te fun d1 m => ∃ cn ns ds b, d1 = .err cn ns ds ∧ (∀ D, c.mg cn = some (.ref D) → ecB c.K D = true ∧ PySem.W.kitOne c.K (.ref D) (.ref C) = some b) ∧ k (.bl b) m) :
    We c Γ n (tCB (rIsHV c.K a cls d) (tCons te (tCons (tC (.ref C)) tNil))) k := by
  intro ρ av o σ H S Q hQ
  refine h ρ av o σ H S _ fun x H1 d1 n1 S1 x1 h1 k1 => ?_
  obtain ⟨cn, ns, ds, b, rfl, hC, k1⟩ := k1
  have hu : ∀ u, RelV (.ref C) u → u = .ref C := fun u r => r
  cases h1 with
  | err e1 e2 e3 e4 =>
    obtain ⟨T, kt⟩ := hC _ e2
    rcases e1 with ⟨dd, q1, q2, q3⟩ | ⟨dd, q1, q2, q3, q4⟩
    · rw [her] at q1
      cases q1
      exact .inl ⟨_, _, _, .ref C, .ref C, b, rfl, hcls, hd, q3, T, hu, kt, hQ _ H1 _ n1 S1 x1 (.bl b) k1⟩
    · exact .inr ⟨_, _, _, _, .ref C, .ref C, b, rfl, q3, q4, T, hu, kt, hQ _ H1 _ n1 S1 x1 (.bl b) k1⟩
/-- a field of an error -/
theorem w_hvf {a D0 dd0 : Addr} {cls : Value} {d : Option Addr} {f : Str} (her : c.er = some (a, D0, dd0)) (hcls : cls = .ref D0) (hd : d = some dd0)
    (h : We c Γ n te fun d1 m => ∃ cn ns ds e, d1 = .err cn ns ds ∧ (∀ D, c.mg cn = some (.ref D) → ecB c.K D = true ∧ PySem.W.findIn c.K (.ref D) f = some none) ∧ (ns.zip ds).lookup f = some e ∧ k e m) :
    We c Γ n (tHVf c.K a cls d f te) k := by
  intro ρ av o σ H S Q hQ
  refine h ρ av o σ H S _ fun x H1 d1 n1 S1 x1 h1 k1 => ?_
  obtain ⟨cn, ns, ds, e, rfl, hC, l, k1⟩ := k1
  cases h1 with
  | err e1 e2 e3 e4 =>
    obtain ⟨T, hno⟩ := hC _ e2
    obtain ⟨v, hl, hv⟩ := lookup_data e3 e4 l
    rcases e1 with ⟨dd, q1, q2, q3⟩ | ⟨dd, q1, q2, q3, q4⟩
    · rw [her] at q1
      cases q1
      exact .inl ⟨_, _, _, v, rfl, hcls, hd, q3, T, hno, hl, hQ _ H1 _ n1 S1 x1 hv k1⟩
    · exact .inr ⟨_, _, _, _, v, rfl, q3, q4, T, hno, hl, hQ _ H1 _ n1 S1 x1 hv k1⟩
/-- raise x(e) -/
theorem w_raise {C : Addr} {f cn : Str} (hm : c.mg cn = some (.ref C)) (h : Wa c Γ n ta fun ds m => ∃ d, ds = [d] ∧ c.xk cn [(f, d)] m) : Ws c Γ n (tRaiseS C f (fun cls d _ H => c.E cls d H) ta) N := by
  intro ρ av o σ H S D L
  refine h ρ av o σ H S _ fun vs H1 ds m S1 x1 h1 k1 => ?_
  obtain ⟨d, rfl, k1⟩ := k1
  cases h1 with
  | cons hv hn =>
    cases hn
    rename_i v
    refine ⟨v, rfl, fun x hx => ?_⟩
    have sm := same_new (o := .xd [(f, v)]) hx
    have S2 := S1.same sm
    refine S2.ex cn C x _ [(f, v)] [(f, d)] m hm S2.kp S2.pen (fun z => S1.live.new hx (S1.rsub x z)) upd_same rfl ?_ k1
    exact .cons ((hv.keep (same_kp sm)).less S1.rsub) .nil
end
end Pb
namespace Pb
open PySem PySem.Spec PyProof.Rows L2

/-! ### a def that gets a lambda, calls it in a try, and holds the error that it raises -/
theorem takes_len {X : Cx} {W : WX} (t : Takes X W) : Takes X (fun cls d σ H => σ.length = X.N.length → W cls d σ H) := by
  intro u s' x
  obtain ⟨a, B, sI, pins, σ, H, cls, d, e, I, nb, up, sky, na, os, ag, w⟩ := x
  exact t u s' ⟨a, B, sI, pins, σ, H, cls, d, e, I, nb, up, sky, na, os, ag, w I.len⟩
/-- where the held error goes -/
def Eh (K : PySem.W.Frag) (CS : Addr) (i j len : Nat) (k : Addr → Value → Option Addr → TS) (Q : VK) : XK := fun cls d H' => ∀ σ' : L2.St, σ'.length = len → wKeep K (.ref CS) i j k (fun _ _ _ _ => False) { nx := fun _ H' => Q .non H', rt := Q } cls d σ' H'
/-- what such a def makes of a lambda: wr is what it makes of the lambda's value -/
def TTh (K : PySem.W.Frag) (CS : Addr) (i j len : Nat) (k : Addr → Value → Option Addr → TS) (wr : TE → TE) : (XK → Hp → VK → Prop) → Hp → VK → Prop := fun tl H Q =>
  ∀ σ : L2.St, σ.length = len → wr (fun _ H1 Q1 => tl (Eh K CS i j len k Q) H1 Q1) σ H Q
abbrev tNever : TS := fun _ _ _ => False
theorem pss_never {X : Cx} {st : List Stmt} : PSs X st tNever := ⟨fun _ _ _ _ _ _ h => h.elim⟩
section
variable {X : Cx} {Ng : List Str} {x a q ex n y : Str} {sg : Scope} {g CS : Addr} {cdg : Value} {i j : Nat} {st1 : Stmt} {e0 : Expr} {rest : List Stmt} {pr np p1 p2 p3 pos pos' : Pos} {k : Addr → Value → Option Addr → TS} {wr : TE → TE}
abbrev hearX (X : Cx) (Ng : List Str) (x : Str) (sg : Scope) (g : Addr) (cdg : Value) (s : Shared) (H : Hp) : Cx := (cxOf C8.CX0 X.prog X.w X.K X.mg X.base Ng x sg g cdg X.A X.stack s H C8.E0).nox
theorem heard_gives (hN : Ng.Nodup) (hi : Ng[i]? = some n) (hj : Ng[j]? = some y) (hij : i ≠ j) (hj0 : j ≠ 0) (hln : sg.names.lookup n = some .local) (hly : sg.names.lookup y = some .local) (hge : sg.names.lookup ex = some .globalImplicit) (hme : X.mg ex = some (.ref CS)) (hde : (ex == ("__debug__" : Str)) = false)
    (hdn : (n == ("__debug__" : Str)) = false) (hcn : (n == ("__classdict__" : Str)) = false)
    (h1 : ∀ s H, PS (hearX X Ng x sg g cdg s H) st1 (tAsg (tC .non) (gName j)))
    (hsw : ∀ s H, swapsWith (.Name n p2) (some (.Name y p1)) p3.line (hearX X Ng x sg g cdg s H).env = pure false)
    (hwr : ∀ s H (pn : List (Addr × Obj)) (xe : Value → Shared → Prop) (te : TE), (∀ q1 q2, PE ((hearX X Ng x sg g cdg s H).tr pn xe) (.Call (.Name a q1) [] [] q2) te) → PE ((hearX X Ng x sg g cdg s H).tr pn xe) e0 (wr te))
    (hmono : ∀ (te te' : TE) (σ : L2.St) (H : Hp) (Q : VK), (∀ Q', te σ H Q' → te' σ H Q') → wr te σ H Q → wr te' σ H Q)
    (hk : ∀ s H (b : Addr) (oe : Obj) (cls : Value) (d : Option Addr), Zc cls d oe → (∃ vs, oe.data = .fields vs) → PSs (heldX (hearX X Ng x sg g cdg s H) b oe) rest (k b cls d)) :
    LamX.GivesTo X Ng x sg g cdg (st1 :: .Try [.Return (some e0) pr] [.ExceptHandler (some (.Name ex np)) (some n) [.Assign [.Name y p1] (.Name n p2) p3] pos'] [] [] pos :: rest) a q (TTh X.K CS i j Ng.length k wr) := by
  intro f c' s H Q tl act hc h
  refine ⟨_, pss_cons (h1 s H) (pss_keep (X := hearX X Ng x sg g cdg s H) (c := .ref CS) (i := i) (j := j) (Wout := fun _ _ _ _ => False) (u := tNever) (k := k)
    (tb := fun W D σ H => ∃ Ech : XK, (∀ cls d σ' H', Ech cls d H' → σ'.length = Ng.length → W cls d σ' H') ∧ tRet (wr fun σZ HZ Q => σZ[0]? = some (some (.ref f)) ∧ HZ c' = some (LamX.CodeO c' q) ∧ tl Ech HZ Q) D σ H)
    rfl rfl hN hi hj hij hln hly ⟨hge, hde, .inl hme⟩ LamX.takes0 hdn hcn (hsw s H) ?_ pss_never (hk s H)), ?_⟩
  · intro W pn xe tk _
    constructor
    intro pins s' σ H' D I h'
    obtain ⟨Ech, hW, h3⟩ := h'
    have hp := hwr s H pn xe _ fun q1 q2 => act _ pn xe Ech q1 q2 (takes_len tk) (fun cls d σ' H' e => hW cls d σ' H' e)
    exact (pss_one (ps_ret (pos := pr) hp)).run pins s' σ H' D I h3
  · have hl : (L2.start Ng [V.ref f]).length = Ng.length := by
      have : 0 < Ng.length := by
        cases Ng with
        | nil => simp at hi
        | cons _ _ => simp
      unfold L2.start
      simp
      omega
    have h0 : ((L2.start Ng [V.ref f]).set j (some .non))[0]? = some (some (V.ref f)) := by
      rw [List.getElem?_set_ne hj0]
      rfl
    refine ⟨Eh X.K CS i j Ng.length k Q, fun cls d σ' H' e hl => e σ' hl, ?_⟩
    exact hmono _ _ _ _ _ (fun Q' z => ⟨h0, hc, z⟩) (h _ (by rw [List.length_set]; exact hl))
end
end Pb
namespace Pb
open PySem PySem.Spec PyProof.Rows L2

/-! ### data without errors -/
mutual
def Dt.ne : Dt → Bool
  | .lst xs => Dt.nes xs
  | .tup xs => Dt.nes xs
  | .dic _ xs => Dt.nes xs
  | .obj _ _ xs => Dt.nes xs
  | .err _ _ _ => false
  | _ => true
def Dt.nes : List Dt → Bool
  | [] => true
  | x :: xs => Dt.ne x && Dt.nes xs
end
/-- two contexts of the same world -/
structure Alike (c1 c2 : Wc) : Prop where
  K : c1.K = c2.K
  mg : c1.mg = c2.mg
  a : c1.a = c2.a
section
variable {c1 c2 : Wc} {av : Addr → Prop} {H : Hp}
mutual
theorem Da.swap (s : Alike c1 c2) : ∀ (d : Dt) (v : V), (d.ne = true ∨ c1.er = none) → Da c1 av H v d → Da c2 av H v d
  | .non, _, _, h => by cases h; exact .non
  | .bl _, _, _, h => by cases h; exact .bl _
  | .int _, _, _, h => by cases h; exact .int _
  | .str _, _, _, h => by cases h; exact .str _
  | .lst ds, _, e, h => by
    cases h with
    | lst h1 h2 h3 => exact .lst h1 h2 (DaAll.swap s ds _ (e.imp (fun z => by simpa [Dt.ne] using z) id) h3)
  | .tup ds, _, e, h => by
    cases h with
    | tup h2 h3 => exact .tup (s.K ▸ h2) (DaAll.swap s ds _ (e.imp (fun z => by simpa [Dt.ne] using z) id) h3)
  | .dic ks ds, _, e, h => by
    cases h with
    | dic h1 h2 h3 h4 => exact .dic h1 h2 h3 (DaAll.swap s ds _ (e.imp (fun z => by simpa [Dt.ne] using z) id) h4)
  | .obj cn ns ds, _, e, h => by
    cases h with
    | obj h1 h2 h3 h4 h5 => exact .obj h1 (s.mg ▸ h2) h3 h4 (DaAll.swap s ds _ (e.imp (fun z => by simpa [Dt.ne] using z) id) h5)
  | .err cn ns ds, _, e, h => by
    rcases e with z | z
    · simp [Dt.ne] at z
    · cases h with
      | err h1 h2 h3 h4 =>
        refine .err ?_ (s.mg ▸ h2) h3 (DaAll.swap s ds _ (.inr z) h4)
        rcases h1 with ⟨dd, q, _⟩ | h1
        · rw [z] at q
          cases q
        · exact .inr h1
  | .pen, _, _, h => by
    cases h
    rw [s.a]
    exact .pen
theorem DaAll.swap (s : Alike c1 c2) : ∀ (ds : List Dt) (vs : List V), (Dt.nes ds = true ∨ c1.er = none) → DaAll c1 av H vs ds → DaAll c2 av H vs ds
  | [], _, _, h => by cases h; exact .nil
  | d :: ds, _, e, h => by
    cases h with
    | cons h1 h2 =>
      have e1 : d.ne = true ∨ c1.er = none := e.imp (fun z => by simp [Dt.nes] at z; exact z.1) id
      have e2 : Dt.nes ds = true ∨ c1.er = none := e.imp (fun z => by simp [Dt.nes] at z; exact z.2) id
      exact .cons (Da.swap s d _ e1 h1) (DaAll.swap s ds _ e2 h2)
end
end
/-! ### x(lambda: e): the def x calls it in a try and holds the error -/
def hideS : Sl → Sl
  | .ol _ _ => .un
  | s => s
/-- the slots behind the try, where an error is held in slot j -/
def gamE (len j : Nat) (cn : Str) (es : List (Str × Dt)) : List Sl := (List.replicate len .un).set j (.da (.err cn (es.map (·.1)) (es.map (·.2))))
abbrev erC (c : Fc) (a C x : Addr) : Fc := { c with er := some (a, C, x), E := E0, xk := fun _ _ _ => False }
/-- what a lambda's error must be good for -/
def xkH (c : Fc) (CS : Addr) (j len : Nat) (k : Addr → Value → Option Addr → TS) (kk : Kd) : Str → List (Str × Dt) → Nat → Prop := fun cn es m =>
  (∀ C, c.mg cn = some (.ref C) → PySem.W.exmOne c.K (.ref C) (.ref CS) = some true) ∧
  ∀ a C x, c.mg cn = some (.ref C) → Ws (erC c a C x) (gamE len j cn es) m (k a (.ref C) (some x)) { nx := fun _ _ => False, rt := fun d m' => d.ne = true ∧ kk d m' }
abbrev lamC (c : Fc) (E : XK) (CS : Addr) (j len : Nat) (k : Addr → Value → Option Addr → TS) (kk : Kd) : Fc := { c with E := E, xk := xkH c CS j len k kk }
section
variable {c : Fc} {Γ : List Sl} {n : Nat} {kk : Kd} {CS : Addr} {i j len : Nat} {k : Addr → Value → Option Addr → TS} {t : XK → TE}
theorem SS.hide {ρ : Rt} {av : Addr → Prop} {o : Nat → Addr} {σ : L2.St} {H : Hp} (S : SS c ρ av o Γ n σ H) {E : XK} {xk : Str → List (Str × Dt) → Nat → Prop}
    (ex : Exk { c with E := E, xk := xk } ⟨H, av, fun p => p = c.a, o, av, Γ.length⟩) : SS { c with E := E, xk := xk } ⟨H, av, fun p => p = c.a, o, av, Γ.length⟩ av o (Γ.map hideS) n σ H where
  len := by rw [List.length_map]; exact S.len
  gl := by rw [List.length_map]
  pa := S.pa
  pl := S.pl
  pm := rfl
  sub := fun _ h => h
  rsub := fun _ h => h
  msub := fun p h => by
    have e : p = c.a := h
    rw [e]; exact S.pa
  asub := fun _ h => .inl h
  live := S.live
  live0 := S.live
  pen := S.pen
  kp := Kp.refl _ _
  ex := ex
  dat := fun i d h => by
    rw [List.getElem?_map] at h
    cases e : Γ[i]? with
    | none => rw [e] at h; cases h
    | some s =>
      rw [e] at h
      cases s with
      | un => cases h
      | da d' =>
        cases h
        exact S.dat i d e
      | ol b ds => cases h
  own := fun i b ds h => by
    rw [List.getElem?_map] at h
    cases e : Γ[i]? with
    | none => rw [e] at h; cases h
    | some s => rw [e] at h; cases s <;> cases h
  inj := fun i _ b _ ds _ h => by
    rw [List.getElem?_map] at h
    cases e : Γ[i]? with
    | none => rw [e] at h; cases h
    | some s => rw [e] at h; cases s <;> cases h
/-- the error's way: the rest behind the try, run over data -/
theorem eh_run {ρ : Rt} {av : Addr → Prop} {o : Nat → Addr} {σ : L2.St} {H H1 H' : Hp} {Q : VK} {cn : Str} {C x : Addr} {fs : List (Str × V)} {es : List (Str × Dt)} {n' : Nat} (her : c.er = none) (hij : i ≠ j) (hjl : j < len) (S : SS c ρ av o Γ n σ H) (st1 : Stp c.a H H1)
    (hQ : ∀ v H' d m, SS c ρ av o Γ m σ H' → Stp c.a H H' → Da c.toWc av H' v d → kk d m → Q v H')
    (hm : c.mg cn = some (.ref C)) (kp : Kp (fun p => p = c.a) H1 H') (pn : Pen c.a c.l c.ns c.T n' H') (nx : ¬ av x) (hx : H' x = some (.xd fs)) (hn : fs.map (·.1) = es.map (·.1)) (da : DaAll c.toWc av H' (fs.map (·.2)) (es.map (·.2))) (hxk : xkH c CS j len k kk cn es n') :
    Eh c.K CS i j len k Q (.ref C) (some x) H' := by
  intro σ' hσ'
  refine ⟨true, hxk.1 C hm, fun _ a ha => ?_, fun z => by cases z⟩
  have st2 : Stp c.a H H' := st1.trans (kp_pen kp)
  have S4 : SS (erC c a C x) (rootOf c.a H' av len) av (fun _ => 0) (gamE len j cn es) n' (((σ'.set i (some (.ref a))).set j (some (.ref a))).set i none) H' := {
    len := by
      unfold gamE
      rw [List.length_set, List.length_set, List.length_set, List.length_set, List.length_replicate]
      exact hσ'
    gl := by
      unfold gamE
      rw [List.length_set, List.length_replicate]
      rfl
    pa := S.pa
    pl := S.pl
    pm := rfl
    sub := fun _ h => h
    rsub := fun _ h => h
    msub := fun p h => by
      have e : p = c.a := h
      rw [e]; exact S.pa
    asub := fun _ h => .inl h
    live := S.live.stp st2 pn.live
    live0 := S.live.stp st2 pn.live
    pen := pn
    kp := Kp.refl _ _
    ex := fun _ _ _ _ _ _ _ _ _ _ _ _ _ _ z => z
    dat := fun l d h => by
      unfold gamE at h
      by_cases hl : j = l
      · subst hl
        rw [List.getElem?_set_self (by rw [List.length_replicate]; exact hjl)] at h
        cases h
        refine ⟨.ref a, ?_, .err (.inl ⟨x, rfl, nx, hx⟩) hm hn (DaAll.swap (c1 := c.toWc) (c2 := (erC c a C x).toWc) ⟨rfl, rfl, rfl⟩ _ _ (.inr her) da)⟩
        rw [List.getElem?_set_ne hij, List.getElem?_set_self (by rw [List.length_set, hσ']; exact hjl)]
      · rw [List.getElem?_set_ne hl, List.getElem?_replicate] at h
        split at h <;> cases h
    own := fun l b ds h => by
      exfalso
      unfold gamE at h
      by_cases hl : j = l
      · subst hl
        rw [List.getElem?_set_self (by rw [List.length_replicate]; exact hjl)] at h
        cases h
      · rw [List.getElem?_set_ne hl, List.getElem?_replicate] at h
        split at h <;> cases h
    inj := fun l _ b _ ds _ h => by
      exfalso
      unfold gamE at h
      by_cases hl : j = l
      · subst hl
        rw [List.getElem?_set_self (by rw [List.length_replicate]; exact hjl)] at h
        cases h
      · rw [List.getElem?_set_ne hl, List.getElem?_replicate] at h
        split at h <;> cases h }
  refine hxk.2 a C x hm _ _ _ _ H' S4 _ ⟨fun _ _ _ _ _ _ _ z => z.elim, fun av' v H2 d m sub kp2 pn2 da2 q => ?_, fun _ _ _ _ _ _ _ z => z.elim, fun _ _ _ _ _ _ _ z => z.elim⟩
  have st3 : Stp c.a H H2 := st2.trans (kp_pen kp2)
  exact hQ v H2 d m (S.stp st3 pn2) st3 ((Da.swap (c1 := (erC c a C x).toWc) (c2 := c.toWc) ⟨rfl, rfl, rfl⟩ d v (.inl q.1) da2).less sub) q.2
theorem tabs_stp {H H1 : Hp} {a : Addr} (e : LamX.ExtN H H1) : Stp a H H1 := fun b o _ h t => e b o h fun ps z => by
  rw [z] at t
  cases t
theorem Pen.extN {a l : Addr} {ns : List Int} {T : List (Addr × Str)} {H H1 : Hp} (p : Pen a l ns T n H) (e : LamX.ExtN H H1) (t : LamX.Tabs T H1) : Pen a l ns T n H1 := by
  obtain ⟨u, r, h1, h2, h3, h4, h5, h6, _⟩ := p
  exact ⟨u, r, e _ _ h1 (fun ps z => by cases z), e _ _ h2 (fun ps z => by cases z), h3, h4, h5, h6, t⟩
theorem Pen.tabs {a l : Addr} {ns : List Int} {T : List (Addr × Str)} {H : Hp} (p : Pen a l ns T n H) : LamX.Tabs T H := by
  obtain ⟨u, r, h1, h2, h3, h4, h5, h6, h7⟩ := p
  exact h7
/-- return [ask()] -/
abbrev wrL : TE → TE := fun te => tLst (tCons te tNil)
theorem w_lamL (her : c.er = none) (hij : i ≠ j) (hjl : j < len) (hw : ∀ E, We (lamC c E CS j len k kk) (Γ.map hideS) n (t E) fun v m => kk (.lst [v]) m) : We c Γ n (LamX.tLam c.T (TTh c.K CS i j len k wrL) t) kk := by
  intro ρ av o σ H S Q hQ
  refine ⟨S.pen.tabs, fun H1 eN T1 => ?_⟩
  have st1 : Stp c.a H H1 := tabs_stp eN
  have S1 := S.stp st1 (S.pen.extN eN T1)
  intro σh hσh
  refine hw (Eh c.K CS i j len k Q) _ av o σ H1 (S1.hide ?_) _ fun v H2 d m S3 x3 hd hkd => ?_
  · intro cn C x H' fs es n' hm kp pn nx hx hn da hxk
    exact eh_run her hij hjl S st1 hQ hm kp pn nx hx hn da hxk
  · refine ⟨szl rfl, fun p hp => ?_⟩
    have sm := same_new (o := .lst [v]) hp
    have st : Stp c.a H (upd H2 p (.lst [v])) := (st1.trans x3).trans (Stp.same sm)
    exact hQ _ _ (.lst [d]) m (S.stp st (S3.pen.same sm)) st (Da.newL S3.live hp (.cons hd .nil)) hkd
end
/-! ### a def that is handed no error: its body holds none -/
section
variable {P : Program} {w : World} {K : PySem.W.Frag} {mg : Str → Option Value} {T : List (Addr × Str)} {base : Heap} {x qual : Str} {params : Arguments} {body : List Stmt} {scope : Scope} {dvs : List V} {kws : List (Str × V)} {f : Addr} {fd : FuncData}
/-- the same promise, from a context that holds no error -/
theorem spD_none {S : Sp1} {vs : List V} {H : Hp} {Q : VK} {E : XK} (hne : ∀ ds, S.pre ds → Dt.nes ds = true) (h : spD K mg T S vs H Q E) : ∃ (a l : Addr) (ns : List Int) (av : Addr → Prop) (n : Nat) (ds : List Dt), Live av H ∧ (av a ∧ ¬ av l) ∧ DaAll ⟨K, mg, a, l, ns, T, none⟩ av H vs ds ∧ Pen a l ns T (n + S.cost) H ∧ S.pre ds ∧
    (∀ v H' d, Stp a H H' → Pen a l ns T n H' → Da ⟨K, mg, a, l, ns, T, none⟩ av H' v d → S.post ds d → Q v H') := by
  obtain ⟨a, l, ns, er, av, n, ds, lv, pa, da, pn, hp, hq, _⟩ := h
  refine ⟨a, l, ns, av, n, ds, lv, pa, DaAll.swap (c1 := ⟨K, mg, a, l, ns, T, er⟩) (c2 := ⟨K, mg, a, l, ns, T, none⟩) ⟨rfl, rfl, rfl⟩ ds vs (.inl (hne ds hp)) da, pn, hp, fun v H' d st p h1 h2 => ?_⟩
  exact hq v H' d st p (Da.swap (c1 := ⟨K, mg, a, l, ns, T, none⟩) (c2 := ⟨K, mg, a, l, ns, T, er⟩) ⟨rfl, rfl, rfl⟩ d v (.inr rfl) h1) h2
theorem okD0n {b : Bool} {N ps : List Str} {k : Nat} {S : Sp1} (F : FunD K x qual params body scope dvs kws f fd) (sc : FnScope N ps scope) (len : ∀ ds, S.pre ds → ds.length = ps.length) (hne : ∀ ds, S.pre ds → Dt.nes ds = true)
    (hbody : ∀ (cdv : Value) (A : Around) (outer : List Env) (s : Shared) (H : Hp) (E : XK), RoomG b k (A.deeper (envOfC qual scope s.heap.objs.size f cdv)) →
      ∃ t, PSs (cxOf CX0 P w K mg base N qual scope f cdv A outer s H E).nox body t ∧ ∀ (c : Fc), c.K = K → c.mg = mg → c.T = T → c.er = none → ∀ (ds : List Dt) (n : Nat), S.pre ds → Ws c (gam N ds) (n + S.cost) t (ndOf S ds n)) :
    FnG b P w K mg base CX0 (k + 1) f fd ps (spD K mg T S) := by
  refine okG0 F sc (fun vs H Q E h => ?_) fun cdv A outer s H vs Q E hr h => ?_
  · obtain ⟨a, l, ns, er, av, n, ds, _, _, da, _, hp, _⟩ := h
    rw [da.length]
    exact len ds hp
  · obtain ⟨a, l, ns, av, n, ds, lv, pa, da, pn, hp, hq⟩ := spD_none hne h
    obtain ⟨t, ht, hw⟩ := hbody cdv A outer s H E hr
    refine ⟨t, ht, ?_⟩
    refine hw ⟨⟨K, mg, a, l, ns, T, none⟩, E0, fun _ _ _ => False⟩ rfl rfl rfl rfl ds n hp (rootOf a H av (gam N ds).length) av (fun _ => 0) (L2.start N vs) H ?_ _ ?_
    · exact ss_start (c := ⟨⟨K, mg, a, l, ns, T, none⟩, E0, fun _ _ _ => False⟩) lv pa da pn fun _ _ _ _ _ _ _ _ _ _ _ _ _ _ z => z
    · refine ⟨fun av' o Γ n' σ H' S' q => ?_, fun av' v H' d n' sub st p h1 q => ?_, fun _ _ _ _ _ _ _ z => z, fun _ _ _ _ _ _ _ z => z⟩
      · exact hq .non H' .non (kp_pen S'.kp) (S'.pen.less q.2) .non q.1
      · exact hq v H' d (kp_pen st) (p.less q.2) (h1.less sub) q.1
end
end Pb
namespace Pb
open PySem PySem.Spec PyProof.Rows L2
open PySem.Builtin PySem.Builtin.Str

/-! ### repr: how long, which signs -/
def okC (x : PySem.Str) : Prop := ∀ s ∈ x.cps.toList, s < 1114112
theorem okC_app {x y : PySem.Str} (h1 : okC x) (h2 : okC y) : okC (x ++ y) := fun s hs => by
  rw [app_list] at hs
  exact (List.mem_append.mp hs).elim (h1 s) (h2 s)
theorem char_lt (ch : Char) : ch.toNat < 1114112 := by
  have h := ch.valid
  unfold UInt32.isValidChar Nat.isValidChar at h
  show ch.val.toNat < 1114112
  omega
theorem okC_of (s : String) : okC (Str.ofString s) := fun c hc => by
  have e : (Str.ofString s).cps.toList = s.toList.map Char.toNat := cpsOfBytes_string s
  rw [e, List.mem_map] at hc
  obtain ⟨ch, _, rfl⟩ := hc
  exact char_lt ch
theorem tf_len : ∀ (ts : List PySem.Str) (k : Nat) (acc : PySem.Str), (textFrom k acc ts).length ≤ acc.length + (ts.map fun t => t.length + 2).sum
  | [], k, acc => by simp [textFrom]
  | t :: r, k, acc => by
    have ih := tf_len r (k + 1) (acc ++ (if k > 0 then ", " else "" : String) ++ t)
    rw [Str.length_append, Str.length_append] at ih
    have e : (Str.ofString (if k > 0 then ", " else "" : String)).length ≤ 2 := by split <;> decide
    show (textFrom (k + 1) (acc ++ (if k > 0 then ", " else "" : String) ++ t) r).length ≤ _
    rw [List.map_cons, List.sum_cons]
    omega
theorem tf_chr : ∀ (ts : List PySem.Str) (k : Nat) (acc : PySem.Str), okC acc → (∀ t ∈ ts, okC t) → okC (textFrom k acc ts)
  | [], k, acc, h, _ => h
  | t :: r, k, acc, h, ht => tf_chr r (k + 1) _ (okC_app (okC_app h (okC_of _)) (ht t (by simp))) fun u hu => ht u (by simp [hu])
theorem jn_len : ∀ (ts : List PySem.Str), (Str.join ", " ts).length ≤ (ts.map fun t => t.length + 2).sum
  | [] => by simp [Str.join]; rfl
  | [x] => by simp [Str.join]
  | x :: y :: r => by
    have ih := jn_len (y :: r)
    show (x ++ ", " ++ Str.join ", " (y :: r)).length ≤ _
    rw [Str.length_append, Str.length_append, List.map_cons, List.sum_cons]
    have e : (Str.ofString ", ").length = 2 := rfl
    omega
theorem jn_chr : ∀ (ts : List PySem.Str), (∀ t ∈ ts, okC t) → okC (Str.join ", " ts)
  | [], _ => fun s hs => by simp [Str.join, Str.empty] at hs
  | [x], h => h x (by simp)
  | x :: y :: r, h => okC_app (okC_app (h x (by simp)) (okC_of _)) (jn_chr (y :: r) fun t ht => h t (by simp [ht]))
theorem rc_chr {q c : Nat} (hq : q < 1114112) (hc : c < 1114112) : ∀ s ∈ reprChar q c, s < 1114112 := by
  have hx : ∀ w, ∀ s ∈ List.replicate w 48 ++ (Nat.toDigits 16 c).map Char.toNat, s < 1114112 := fun w s hs => by
    rcases List.mem_append.mp hs with h | h
    · have := (List.mem_replicate.mp h).2
      omega
    · obtain ⟨ch, _, rfl⟩ := List.mem_map.mp h
      exact char_lt ch
  intro s hs
  unfold reprChar at hs
  dsimp only at hs
  repeat' split at hs
  all_goals first
    | (rcases List.mem_append.mp hs with h | h
       · simp at h
         omega
       · exact hx _ s h)
    | (simp at hs
       omega)
theorem fold_chr (q : Nat) (hq : q < 1114112) : ∀ (l : List Nat) (acc : Array Nat), (∀ c ∈ l, c < 1114112) → (∀ c ∈ acc.toList, c < 1114112) → ∀ s ∈ (l.foldl (fun out c => out ++ (reprChar q c).toArray) acc).toList, s < 1114112
  | [], acc, _, h, s, hs => h s hs
  | c :: r, acc, hl, h, s, hs => by
    refine fold_chr q hq r _ (fun d hd => hl d (by simp [hd])) (fun d hd => ?_) s hs
    simp only [Array.toList_append, List.mem_append] at hd
    rcases hd with hd | hd
    · exact h d hd
    · exact rc_chr hq (hl c (by simp)) d hd
theorem rt_chr {x : PySem.Str} (h : okC x) : okC (reprText x) := by
  intro s hs
  have hq : reprQuote x < 1114112 := by
    unfold reprQuote
    split <;> decide
  unfold reprText at hs
  simp only [Array.toList_push, List.mem_append, List.mem_singleton] at hs
  rcases hs with hs | hs
  · rw [← Array.foldl_toList] at hs
    exact fold_chr _ hq _ _ h (fun c hc => by simp at hc; omega) s hs
  · omega
/-! ### data that repr takes -/
def okCb (x : PySem.Str) : Bool := x.cps.toList.all fun s => decide (s < 1114112)
theorem okCb_ok {x : PySem.Str} (h : okCb x = true) : okC x := fun s hs => of_decide_eq_true (List.all_eq_true.mp h s hs)
theorem okCb_of {x : PySem.Str} (h : okC x) : okCb x = true := List.all_eq_true.mpr fun s hs => decide_eq_true (h s hs)
def keyRo : Key → Bool
  | .inl i => decide (i.natAbs.log2 < 1920)
  | .inr x => okCb x
def keyRw : Key → Nat
  | .inl _ => 1921
  | .inr x => 10 * x.length + 2
mutual
def Dt.ro : Nat → Dt → Bool
  | _, .non => true
  | _, .bl _ => true
  | _, .int i => decide (i.natAbs.log2 < 1920)
  | _, .str x => okCb x
  | k + 1, .lst xs => Dt.ros k xs
  | k + 1, .tup xs => Dt.ros k xs
  | k + 1, .dic ks xs => ks.all keyRo && Dt.ros k xs
  | _, _ => false
def Dt.ros : Nat → List Dt → Bool
  | _, [] => true
  | k, x :: xs => Dt.ro k x && Dt.ros k xs
end
mutual
def Dt.rw : Dt → Nat
  | .non => 4
  | .bl _ => 5
  | .int _ => 1921
  | .str x => 10 * x.length + 2
  | .lst xs => 2 + Dt.rws xs
  | .tup xs => 3 + Dt.rws xs
  | .dic ks xs => 2 + (ks.map fun q => keyRw q + 2).sum + Dt.rws xs
  | _ => 0
def Dt.rws : List Dt → Nat
  | [] => 0
  | x :: xs => Dt.rw x + 2 + Dt.rws xs
end
theorem int_sh {i : Int} (h : i.natAbs.log2 < 1920) : (Str.ofString (toString i)).length ≤ 1921 := PyProof.Rows.int_text_len_1921 h
theorem str_sh {x : PySem.Str} (h : okC x) : (reprText x).length ≤ 10 * x.length + 2 := StrLaws.reprText_len x fun c hc => Nat.lt_trans (h c hc) (by decide)
theorem key_sh {q : Key} (h : keyRo q = true) : (keyP q).showable = true ∧ (keyP q).depth = 0 ∧ (keyP q).shown.length ≤ keyRw q ∧ okC (keyP q).shown := by
  cases q with
  | inl i =>
    have h' := of_decide_eq_true h
    exact ⟨decide_eq_true h', rfl, int_sh h', okC_of _⟩
  | inr x =>
    have h' := okCb_ok h
    exact ⟨rfl, rfl, str_sh h', rt_chr h'⟩
theorem kv_sh : ∀ (ks : List Key) (es : List PyData) (k w : Nat), ks.all keyRo = true → PyData.showableAll es = true → PyData.depthAll es ≤ k → ((PyData.shownAll es).map fun t => t.length + 2).sum ≤ w → (∀ t ∈ PyData.shownAll es, okC t) →
    PyData.showableKv ((ks.map keyP).zip es) = true ∧ PyData.depthKv ((ks.map keyP).zip es) ≤ k ∧ ((PyData.shownKv ((ks.map keyP).zip es)).map fun t => t.length + 2).sum ≤ (ks.map fun q => keyRw q + 2).sum + w ∧ ∀ t ∈ PyData.shownKv ((ks.map keyP).zip es), okC t
  | [], es, k, w, _, _, _, _, _ => ⟨by simp [PyData.showableKv], by simp [PyData.depthKv], by simp [PyData.shownKv], by simp [PyData.shownKv]⟩
  | q :: ks, [], k, w, _, _, _, _, _ => ⟨by simp [PyData.showableKv], by simp [PyData.depthKv], by simp [PyData.shownKv], by simp [PyData.shownKv]⟩
  | q :: ks, e :: es, k, w, h1, h2, h3, h4, h5 => by
    rw [List.all_cons, Bool.and_eq_true] at h1
    have h2' : e.showable = true ∧ PyData.showableAll es = true := by simpa [PyData.showableAll] using h2
    have h3' : e.depth ≤ k ∧ PyData.depthAll es ≤ k := by
      simp only [PyData.depthAll] at h3
      omega
    simp only [PyData.shownAll, List.map_cons, List.sum_cons] at h4
    have h5a : okC e.shown := h5 _ (by simp [PyData.shownAll])
    have h5b : ∀ t ∈ PyData.shownAll es, okC t := fun t ht => h5 t (by simp [PyData.shownAll, ht])
    obtain ⟨a1, a2, a3, a4⟩ := key_sh h1.1
    obtain ⟨b1, b2, b3, b4⟩ := kv_sh ks es k (w - (e.shown.length + 2)) h1.2 h2'.2 h3'.2 (by omega) h5b
    rw [List.map_cons, List.zip_cons_cons]
    refine ⟨by simp [PyData.showableKv, a1, h2'.1, b1], ?_, ?_, ?_⟩
    · simp only [PyData.depthKv]
      rw [a2]
      omega
    · simp only [PyData.shownKv, List.map_cons, List.sum_cons]
      rw [Str.length_append, Str.length_append]
      have e2 : (Str.ofString ": ").length = 2 := rfl
      omega
    · intro t ht
      simp only [PyData.shownKv, List.mem_cons] at ht
      rcases ht with rfl | ht
      · exact okC_app (okC_app a4 (okC_of _)) h5a
      · exact b4 t ht
mutual
theorem ro_sh : ∀ (k : Nat) (d : Dt), d.ro k = true → ∃ e, d.pyd = some e ∧ e.showable = true ∧ e.depth ≤ k ∧ e.shown.length ≤ d.rw ∧ okC e.shown
  | _, .non, _ => ⟨.none, rfl, rfl, Nat.zero_le _, by simp only [PyData.shown, Dt.rw]; decide, okC_of _⟩
  | _, .bl b, _ => ⟨.bool b, rfl, rfl, Nat.zero_le _, by cases b <;> simp only [PyData.shown, Dt.rw] <;> decide, by cases b <;> (simp only [PyData.shown]; exact okC_of _)⟩
  | _, .int i, h => by
    have h' : i.natAbs.log2 < 1920 := by simpa [Dt.ro] using h
    exact ⟨.int i, rfl, by simpa [PyData.showable] using h', Nat.zero_le _, by simp only [PyData.shown, Dt.rw]; exact int_sh h', okC_of _⟩
  | _, .str x, h => by
    have h' : okC x := okCb_ok (by simpa [Dt.ro] using h)
    exact ⟨.str x, rfl, rfl, Nat.zero_le _, by simp only [PyData.shown, Dt.rw]; exact str_sh h', by simp only [PyData.shown]; exact rt_chr h'⟩
  | 0, .lst xs, h => by simp [Dt.ro] at h
  | 0, .tup xs, h => by simp [Dt.ro] at h
  | 0, .dic _ xs, h => by simp [Dt.ro] at h
  | k + 1, .lst xs, h => by
    obtain ⟨es, h1, h2, h3, h4, h5⟩ := ros_sh k xs (by simpa [Dt.ro] using h)
    refine ⟨.list es, ?_, by simpa [PyData.showable] using h2, by simpa [PyData.depth] using h3, ?_, ?_⟩
    · show (Dt.pydAll xs).map PyData.list = _
      rw [h1]; rfl
    · simp only [PyData.shown, Dt.rw]
      unfold listText
      rw [Str.length_append]
      have a := tf_len (PyData.shownAll es) 0 "["
      have e1 : (Str.ofString "[").length = 1 := rfl
      have e2 : (Str.ofString "]").length = 1 := rfl
      omega
    · simp only [PyData.shown]
      exact okC_app (tf_chr _ _ _ (okC_of _) h5) (okC_of _)
  | k + 1, .tup xs, h => by
    obtain ⟨es, h1, h2, h3, h4, h5⟩ := ros_sh k xs (by simpa [Dt.ro] using h)
    refine ⟨.tuple es, ?_, by simpa [PyData.showable] using h2, by simpa [PyData.depth] using h3, ?_, ?_⟩
    · show (Dt.pydAll xs).map PyData.tuple = _
      rw [h1]; rfl
    · simp only [PyData.shown, Dt.rw]
      unfold tupleText
      rw [Str.length_append, Str.length_append]
      have a := jn_len (PyData.shownAll es)
      have e1 : (Str.ofString "(").length = 1 := rfl
      have e2 : (Str.ofString (if (PyData.shownAll es).length == 1 then ",)" else ")" : String)).length ≤ 2 := by split <;> decide
      omega
    · simp only [PyData.shown]
      exact okC_app (okC_app (okC_of _) (jn_chr _ h5)) (okC_of _)
  | k + 1, .dic ks xs, h => by
    have h' : ks.all keyRo = true ∧ Dt.ros k xs = true := by simpa [Dt.ro] using h
    obtain ⟨es, h1, h2, h3, h4, h5⟩ := ros_sh k xs h'.2
    obtain ⟨b1, b2, b3, b4⟩ := kv_sh ks es k (Dt.rws xs) h'.1 h2 h3 h4 h5
    refine ⟨.dict ((ks.map keyP).zip es), ?_, by simpa [PyData.showable] using b1, by simpa [PyData.depth] using b2, ?_, ?_⟩
    · show (Dt.pydAll xs).map _ = _
      rw [h1]; rfl
    · simp only [PyData.shown, Dt.rw]
      unfold dictText
      rw [Str.length_append, Str.length_append]
      have a := jn_len (PyData.shownKv ((ks.map keyP).zip es))
      have e1 : (Str.ofString "{").length = 1 := rfl
      have e2 : (Str.ofString "}").length = 1 := rfl
      omega
    · simp only [PyData.shown]
      exact okC_app (okC_app (okC_of _) (jn_chr _ b4)) (okC_of _)
  | _, .obj _ _ _, h => by simp [Dt.ro] at h
  | _, .err _ _ _, h => by simp [Dt.ro] at h
  | _, .pen, h => by simp [Dt.ro] at h
theorem ros_sh : ∀ (k : Nat) (ds : List Dt), Dt.ros k ds = true → ∃ es, Dt.pydAll ds = some es ∧ PyData.showableAll es = true ∧ PyData.depthAll es ≤ k ∧ ((PyData.shownAll es).map fun t => t.length + 2).sum ≤ Dt.rws ds ∧ ∀ t ∈ PyData.shownAll es, okC t
  | _, [], _ => ⟨[], rfl, rfl, Nat.zero_le _, by simp [PyData.shownAll], by simp [PyData.shownAll]⟩
  | k, d :: ds, h => by
    have h' : d.ro k = true ∧ Dt.ros k ds = true := by simpa [Dt.ros] using h
    obtain ⟨e, h1, h2, h3, h4, h5⟩ := ro_sh k d h'.1
    obtain ⟨es, a1, a2, a3, a4, a5⟩ := ros_sh k ds h'.2
    refine ⟨e :: es, ?_, by simp [PyData.showableAll, h2, a2], by simp only [PyData.depthAll]; omega, ?_, ?_⟩
    · show ((Dt.pyd d).bind fun x => (Dt.pydAll ds).map fun xs => x :: xs) = _
      rw [h1, a1]; rfl
    · simp only [PyData.shownAll, List.map_cons, List.sum_cons, Dt.rws]
      omega
    · intro t ht
      simp only [PyData.shownAll, List.mem_cons] at ht
      rcases ht with rfl | ht
      · exact h5
      · exact a5 t ht
end
/-- repr's text -/
def Dt.sh (d : Dt) : PySem.Str := match d.pyd with
  | some e => e.shown
  | none => ""
theorem sh_ok {k : Nat} {d : Dt} (h : d.ro k = true) : d.sh.length ≤ d.rw ∧ okC d.sh := by
  obtain ⟨e, h1, _, _, h4, h5⟩ := ro_sh k d h
  have q : d.sh = e.shown := by unfold Dt.sh; rw [h1]
  rw [q]
  exact ⟨h4, h5⟩
theorem c_reprD {c : Fc} {k : Kd} {n : Nat} {d : Dt} {j : Nat} (hs : ∃ o, c.K.lookup sysModules = some o) (hd : d.ro j = true) (hj : j ≤ 100) (hz : d.rw ≤ 16777216) (h : k (.str d.sh) n) : RCD c (rRepr c.K) [d] n k := by
  obtain ⟨e, h1, h2, h3, h4, h5⟩ := ro_sh j d hd
  have q : d.sh = e.shown := by unfold Dt.sh; rw [h1]
  refine c_repr h1 (fun _ => hs) ?_ (Nat.ble_eq_true_of_le (Nat.le_trans h4 hz)) (by rw [← q]; exact h)
  unfold shows
  rw [h2, decide_eq_true (by omega)]
  rfl
end Pb
namespace Pb
open PySem PySem.Spec PyProof.Rows L2

/-- a def that may raise, called where it does not -/
theorem passX0 {X : Cx} : Passes (L2.CX X.prog X.w) X E0 := fun _ _ _ _ _ _ _ h => by
  obtain ⟨_, _, _, _, _, _, _, _, _, _, _, _, z⟩ := h
  exact z.elim
/-- .. called in the body of a lambda, or of a def that lets errors out -/
theorem passE {X : Cx} {E : XK} (tk : Takes X (fun cls d _ H => E cls d H)) : Passes (L2.CX X.prog X.w) X E := passes_call tk fun _ _ _ _ h => h
section
variable {P : Program} {w : World} {K : PySem.W.Frag} {mg : Str → Option Value} {T : List (Addr × Str)} {base : Heap} {x qual : Str} {params : Arguments} {body : List Stmt} {scope : Scope} {dvs : List V} {kws : List (Str × V)} {f : Addr} {fd : FuncData}
/-- a maker's code object -/
theorem maker_code (F : FunD K x qual params body scope dvs kws f fd) {p : He.Defn} (hp : He.fAd K p = f) : fd.code = .ref (He.cT K p).1 := by
  obtain ⟨oc, od, dV, kV, doc, pm, an, cdv, ct, osl, rfl, lk, hcd, _, _⟩ := F.ex
  obtain ⟨c, rfl⟩ := He.codeIn_ref hcd
  have e := He.codeOf_eq (K := K) (p := p) (c := c) (by rw [hp]; exact lk) rfl
  show Value.ref c = .ref (He.codeOf K p)
  rw [e]
/-- THE RULE for a def that makes lambdas: its code object is known -/
theorem okD0m {b : Bool} {N ps : List Str} {k : Nat} {S : Sp1} (F : FunD K x qual params body scope dvs kws f fd) (sc : FnScope N ps scope) (len : ∀ ds, S.pre ds → ds.length = ps.length) (hne : ∀ ds, S.pre ds → Dt.nes ds = true)
    (hbody : ∀ (A : Around) (outer : List Env) (s : Shared) (H : Hp) (E : XK), RoomG b k (A.deeper (envOfC qual scope s.heap.objs.size f fd.code)) →
      ∃ t, PSs (cxOf CX0 P w K mg base N qual scope f fd.code A outer s H E).nox body t ∧ ∀ (c : Fc), c.K = K → c.mg = mg → c.T = T → c.er = none → ∀ (ds : List Dt) (n : Nat), S.pre ds → Ws c (gam N ds) (n + S.cost) t (ndOf S ds n)) :
    FnG b P w K mg base CX0 (k + 1) f fd ps (spD K mg T S) := by
  obtain ⟨oc, od, dV, kV, doc, pm, an, cdv, ct, osl, rfl, lk, hcd, _, _⟩ := F.ex
  refine fnG_of lk hcd sc (fun vs H Q E h => ?_) fun A outer s H vs Q E hr h => ?_
  · obtain ⟨a, l, ns, er, av, n, ds, _, _, da, _, hp, _⟩ := h
    rw [da.length]
    exact len ds hp
  · obtain ⟨a, l, ns, av, n, ds, lv, pa, da, pn, hp, hq⟩ := spD_none hne h
    obtain ⟨t, ht, hw⟩ := hbody A outer s H E hr
    refine ⟨t, ht.nox, ?_⟩
    refine hw ⟨⟨K, mg, a, l, ns, T, none⟩, E0, fun _ _ _ => False⟩ rfl rfl rfl rfl ds n hp (rootOf a H av (gam N ds).length) av (fun _ => 0) (L2.start N vs) H ?_ _ ?_
    · exact ss_start (c := ⟨⟨K, mg, a, l, ns, T, none⟩, E0, fun _ _ _ => False⟩) lv pa da pn fun _ _ _ _ _ _ _ _ _ _ _ _ _ _ z => z
    · refine ⟨fun av' o Γ n' σ H' S' q => ?_, fun av' v H' d n' sub st p h1 q => ?_, fun _ _ _ _ _ _ _ z => z, fun _ _ _ _ _ _ _ z => z⟩
      · exact hq .non H' .non (kp_pen S'.kp) (S'.pen.less q.2) .non q.1
      · exact hq v H' d (kp_pen st) (p.less q.2) (h1.less sub) q.1
end
/-- x(lambda: body), x a def of the text -/
theorem pe_hear {X : Cx} {T : List (Addr × Str)} {TT : (XK → Hp → VK → Prop) → Hp → VK → Prop} {x a : Str} {st : Stmt} {f c P : Addr} {fd : FuncData} {k : Nat} {Ng : List Str} {pm : Arguments} {body : Expr} {scope : Scope} {t : XK → TE} {p lpos pos : Pos} (F : Fd X.K x x st f fd) (hm : X.mg x = some (.ref f)) (hb : Binds X.K fd [a] [])
    (Sg : FnScope Ng [a] (defScope st)) (hNg : Ng[0]? = some a) (hva : Vis (defScope st) a) (hG : ∀ cdg, LamX.GivesTo X Ng x (defScope st) f cdg (defBody st) a (X.env.qual ++ "<lambda>") TT)
    (TB : LamX.TabB X.base X.mg c P) (hcode : X.env.code = .ref c) (hmT : (P, X.env.qual ++ "<lambda>") ∈ T) (hu : ∀ p ∈ T, p.1 = P → p.2 = X.env.qual ++ "<lambda>") (hr : Room (k + 2) X.A) (L : LamX.LamS X.env.scope scope)
    (hbody : ∀ (A : Around) (outer : List Env) (s : Shared) (H : Hp) (E : XK) (f c' : Addr), Room k (A.deeper (LamX.lamEnv X scope s.heap.objs.size f c')) → PE (LamX.lamCx X A outer s H E scope f c') body (t E)) (hg : Gl X x := by rfl)
    (hdef : defaultsOf pm X.env = ([], []) := by rfl)
    (hbind : ∀ (q : Str) (cl : List (Str × Addr)) (m cv ctv : Value), bindArgs (PySem.W.kla_fn "<lambda>" q pm body scope cl m cv ctv) ⟨[], []⟩ = pure [] := by intros; rfl)
    (hdb : (x == ("__debug__" : Str)) = false := by decide) (hd : (a == ("__debug__" : Str)) = false := by decide) (hcd : (a == ("__classdict__" : Str)) = false := by decide) :
    PE X (.Call (.Name x p) [.Lambda pm body scope lpos] [] pos) (LamX.tLam T TT t) := by
  have kp := F.kp
  obtain ⟨oc, od, dV, kV, doc, m, an, cdv, ct, osl, rfl, lk, hc, _, _⟩ := F.ex
  exact LamX.pe_lamcall hg hm kp lk hc hb Sg hNg hva (hG cdv) TB hcode hmT hu hr L hdef hbind hbody hdb hd hcd
/-! ### found.index(e) -/
theorem w_index {c : Fc} {Γ : List Sl} {n : Nat} {k : Kd} {to te : TE} (h : We c Γ n to fun d n1 => ∃ ds, d = .lst ds ∧ We c Γ n1 te fun e n2 => ∃ (j : Nat) (z : Dt), flatD e = true ∧ ds.all flatD = true ∧ ds[j]? = some z ∧ eqvD z e = true ∧ (∀ (m : Nat) (y : Dt), m < j → ds[m]? = some y → eqvD y e = false) ∧ k (.int (j : Nat)) n2) :
    We c Γ n (tBM c.K "list" (rIndex c.K) to (tCons te tNil)) k := by
  intro ρ av o σ H S Q hQ
  refine h ρ av o σ H S _ fun x H1 d1 n1 S1 x1 h1 k1 => ?_
  obtain ⟨ds, rfl, k1⟩ := k1
  cases h1 with
  | lst a1 a2 a3 =>
    rename_i p vs
    refine ⟨.inl ⟨rfl, vs, SqL.of a2⟩, ?_⟩
    refine k1 ρ av o σ H1 S1 _ fun y H2 d2 n2 S2 x2 h2 k2 => ?_
    obtain ⟨j, z, f1, f2, hz, hzj, hno, k2⟩ := k2
    have a2' : H2 p = some (.lst vs) := x2 p _ (fun e => a1 (e ▸ S.pa)) a2 rfl
    have a3' := a3.keep (x2.kp S.pa)
    obtain ⟨zv, q1, q2⟩ := a3'.get hz
    have fz : flatD z = true := List.all_eq_true.mp f2 z (List.mem_of_getElem? hz)
    refine ⟨p, vs, y, j, zv, rfl, rfl, SqL.of a2', flatD_ok f1 h2, (inD_ok f1 h2 a3' f2).1, q1, ?_, fun m zv' hm hv => ?_, hQ _ H2 _ n2 S2 (x1.trans x2) (.int _) k2⟩
    · rw [eqvD_ok fz f1 q2 h2]
      exact hzj
    · obtain ⟨z', r1, r2⟩ := a3'.get2 hv
      have fz' : flatD z' = true := List.all_eq_true.mp f2 z' (List.mem_of_getElem? r1)
      rw [eqvD_ok fz' f1 r2 h2]
      exact hno m z' hm r1
end Pb
namespace Pb.K02
open PySem PySem.Spec PyProof.Rows L2
/-! ### promises -/
/-- data that repr takes, of a fair size -/
def good (d : Dt) : Prop := d.ro 10 = true ∧ d.rw ≤ 300000 ∧ ∀ z, d = .str z → z.length ≤ 1000
def isInt : Dt → Bool
  | .int _ => true
  | _ => false
def isBit : Dt → Bool
  | .int i => decide (i = 0) || decide (i = 1)
  | _ => false
def isRow : Dt → Bool
  | .lst ds => ds.all isBit
  | .tup ds => ds.all isBit
  | _ => false
def bitD (b : Bool) : Dt := .int (if b then 1 else 0)
def sgn (b : Bool) : Nat := if b then 49 else 48
def dig (bs : List Bool) : Str := ⟨(bs.map sgn).toArray⟩
def ofSgn (s : Nat) : Option Bool := if s = 48 then some false else if s = 49 then some true else none
/-- the bits that a text writes -/
def written : Dt → Option (List Bool)
  | .str z => if z.length = 0 then none else z.cps.toList.mapM ofSgn
  | _ => none
def S_is_integer : Sp1 := sp1 0 (fun d => ∃ t, d.tn = some t) fun d e => e = .bl (isInt d)
def S_is_between : Sp1 := sp3 0 (fun d a b => (∃ t, d.tn = some t) ∧ (∃ i, a = .int i) ∧ ∃ j, b = .int j) fun d a b e => ∃ i j, a = .int i ∧ b = .int j ∧ e = .bl (match d with | .int k => decide (i ≤ k) && decide (k ≤ j) | _ => false)
def S_is_bit : Sp1 := sp1 0 (fun d => ∃ t, d.tn = some t) fun d e => e = .bl (isBit d)
def S_is_bits : Sp1 := sp1 0 good fun d e => e = .bl (isRow d)
def S_bits_text : Sp1 := sp1 0 (fun d => ∃ bs : List Bool, bs.length ≤ 100 ∧ (d = .lst (bs.map bitD) ∨ d = .tup (bs.map bitD))) fun d e => ∃ bs : List Bool, (d = .lst (bs.map bitD) ∨ d = .tup (bs.map bitD)) ∧ e = .str (dig bs)
def S_read_bits : Sp1 where
  cost := 0
  pre := fun ds => ∃ d, ds = [d] ∧ good d
  post := fun ds e => ∃ d bs, ds = [d] ∧ written d = some bs ∧ e = .tup (bs.map bitD)
  exc := fun ds cn es => ∃ d, ds = [d] ∧ written d = none ∧ cn = "InvalidBits" ∧ es = [(("value" : Str), d)]
def S__law_pick : Sp1 := sp2 1 (fun a b => a = .pen ∧ ∃ ds, b = .lst ds ∧ 0 < ds.length ∧ ds.length ≤ 1000) fun _ b e => ∃ ds, b = .lst ds ∧ e ∈ ds
def S__law_row : Sp1 := sp2 80 (fun a b => a = .pen ∧ b = .int 70) fun _ _ e => ∃ bs : List Bool, bs.length ≤ 70 ∧ e = .lst (bs.map bitD)
def S__law_odd : Sp1 := sp1 1 (fun a => a = .pen) fun _ e => good e ∧ good (.lst [e])
def S__law_is_one : Sp1 := sp1 0 (fun d => ∃ t, d.tn = some t) fun d e => e = .bl (isBit d)
def S__law_is_row : Sp1 := sp1 0 good fun d e => e = .bl (isRow d)
def S__law_written : Sp1 := sp1 0 good fun d e => e = (match written d with | none => .non | some bs => .tup (bs.map bitD))
def S__law_thing_right : Sp1 := sp1 0 good fun _ e => e = .bl true
abbrev N__law_pen : List Str := ["_law_script"]
abbrev N__law_draw : List Str := ["_law_pen_here", "_law_many", "_law_digit", "_law_at", "_law_raw", "_law_great", "_law_mixed"]
def t__law_draw (K : PySem.W.Frag) (mg : Str → Option Value) (T : List (Addr × Str)) : TS := (tSeq (tIfS (tTest (tOp rGt (tOp (rIx K) (tVar 0) (tC (.int 2))) (tC (.int 0)))) (tSeq (tAsg (tOp rMod (tCB rInt (tCons (tOp (rIx K) (tVar 0) (tC (.int 2))) tNil)) (tVar 1)) (gName 2))
    (tSeq (tAsg (tOp rDiv (tCB rInt (tCons (tOp (rIx K) (tVar 0) (tC (.int 2))) tNil)) (tVar 1)) (gSub (tVar 0) (tC (.int 2)) rSetL))
    (tRet (tVar 2)))) tNext)
    (tSeq (tAsg (tOp (rIx K) (tVar 0) (tC (.int 1))) (gName 3))
    (tSeq (tAsg (tOp (rAdd K) (tVar 3) (tC (.int 1))) (gSub (tVar 0) (tC (.int 1)) rSetL))
    (tSeq (tAsg (tOp (rAdd K) (tOp rMul (tC (.int 7195)) (tVar 3)) (tC (.int 363))) (gName 4))
    (tSeq (tIfS (tTest (tOp (rNeX K) (tOp (rIx K) (tVar 0) (tC (.int 0))) (tLst tNil))) (tAsg (tOp (rIx K) (tOp (rIx K) (tVar 0) (tC (.int 0))) (tOp rMod (tCB rInt (tCons (tVar 3) tNil)) (tCB (rLen K) (tCons (tOp (rIx K) (tVar 0) (tC (.int 0))) tNil)))) (gName 4)) tNext)
    (tSeq (tIfS (tAnd (tTest (tOp rLt (tVar 3) (tCB (rLen K) (tCons (tOp (rIx K) (tVar 0) (tC (.int 0))) tNil)))) (tTest (tOp rGe (tCB rAbs (tCons (tVar 4) tNil)) (tOp rPow (tC (.int 10)) (tC (.int 18)))))) (tSeq (tAsg (tOp (rAdd K) (tOp rMul (tC (.int 2)) (tCB rAbs (tCons (tVar 4) tNil))) (tCB rInt (tCons (tOp rLt (tVar 4) (tC (.int 0))) tNil))) (gName 5))
    (tSeq (tAsg (tOp rDiv (tCB rInt (tCons (tVar 5) tNil)) (tVar 1)) (gSub (tVar 0) (tC (.int 2)) rSetL))
    (tRet (tOp rMod (tCB rInt (tCons (tVar 5) tNil)) (tVar 1))))) tNext)
    (tSeq (tAsg (tOp rMod (tCB rInt (tCons (tOp rPow (tOp (rAdd K) (tOp (rAdd K) (tOp rMod (tCB rInt (tCons (tVar 4) tNil)) (tC (.int 2147483549))) (tOp rMul (tC (.int 7195)) (tVar 3))) (tC (.int 363))) (tC (.int 5))) tNil)) (tC (.int 2147483629))) (gName 6))
    (tSeq (tAsg (tOp rMod (tCB rInt (tCons (tOp rPow (tOp (rAdd K) (tOp (rAdd K) (tOp rMul (tVar 6) (tOp (rAdd K) (tVar 3) (tC (.int 30015)))) (tOp rMul (tOp rMul (tC (.int 60021)) (tVar 3)) (tVar 3))) (tC (.int 29))) (tC (.int 3))) tNil)) (tC (.int 2147483587))) (gName 6))
    (tRet (tOp rMod (tCB rInt (tCons (tOp rDiv (tVar 6) (tC (.int 32))) tNil)) (tVar 1)))))))))))
abbrev N__law_pick : List Str := ["_law_pen_here", "_law_some"]
def t__law_pick (K : PySem.W.Frag) (mg : Str → Option Value) (T : List (Addr × Str)) : TS := (tRet (tOp (rIx K) (tVar 1) (tCB (fun vs H Q => spD K mg T S_draw vs H Q E0) (tCons (tVar 0) (tCons (tCB (rLen K) (tCons (tVar 1) tNil)) tNil)))))
abbrev N__law_row : List Str := ["_law_pen_here", "_law_most", "_law_k"]
def t__law_row (K : PySem.W.Frag) (mg : Str → Option Value) (T : List (Addr × Str)) : TS := (tRet (tLc (iRng1 (tCons (tCB (fun vs H Q => spD K mg T S__law_pick vs H Q E0) (tCons (tVar 0) (tCons (tLst (tCons (tC (.int 0)) (tCons (tC (.int 1)) (tCons (tC (.int 2)) (tCons (tCB (fun vs H Q => spD K mg T S_draw vs H Q E0) (tCons (tVar 0) (tCons (tOp (rAdd K) (tVar 1) (tC (.int 1))) tNil))) (tCons (tVar 1) tNil)))))) tNil))) tNil)) (gName 2) tYes (tCB (fun vs H Q => spD K mg T S_draw vs H Q E0) (tCons (tVar 0) (tCons (tC (.int 2)) tNil))) [2]))
abbrev N_bits_text : List Str := ["bits", "bit"]
def t_bits_text (K : PySem.W.Frag) (mg : Str → Option Value) (T : List (Addr × Str)) : TS := (tRet (tM1 (rJoin K) (tC (.str ("" : Str))) (tLc (iSq K (tVar 0)) (gName 1) tYes (tCB rStr (tCons (tVar 1) tNil)) [1])))
abbrev N__law_odd : List Str := ["_law_pen_here", "_law_some"]
def t__law_odd (K : PySem.W.Frag) (mg : Str → Option Value) (T : List (Addr × Str)) : TS := (tSeq (tAsg (tLst (tCons (tC .non) (tCons (tC (.bl true)) (tCons (tC (.bl false)) (tCons (tC (.int 0)) (tCons (tC (.int 1)) (tCons (tC (.int 2)) (tCons (tUn (rU fun i => .int (-i)) (tC (.int 1))) (tCons (tOp rPow (tC (.int 10)) (tC (.int 59))) (tCons (tC (.str ("" : Str))) (tCons (tC (.str ("0" : Str))) (tCons (tC (.str ("1" : Str))) (tCons (tC (.str ("01" : Str))) (tCons (tC (.str ("2" : Str))) (tCons (tC (.str ("0 1" : Str))) (tCons (tC (.str (" 0" : Str))) (tCons (tC (.str ("1\n" : Str))) (tCons (tC (.str ("-" : Str))) (tCons (tC (.str ("+1" : Str))) (tCons (tC (.str ("0b1" : Str))) tNil)))))))))))))))))))) (gName 1))
    (tSeq (tAsg (tOp (rAdd K) (tVar 1) (tLst (tCons (tTup tNil) (tCons (tLst tNil) (tCons tDNewK (tCons (tDisp [((tC (.int 0)), (tC (.int 1)))]) (tCons (tTup (tCons (tC (.bl true)) tNil)) (tCons (tLst (tCons (tC (.int 0)) (tCons (tC (.bl false)) tNil))) (tCons (tTup (tCons (tC (.int 0)) (tCons (tC (.int 2)) tNil))) (tCons (tLst (tCons (tC (.int 1)) (tCons (tUn (rU fun i => .int (-i)) (tC (.int 1))) tNil))) (tCons (tTup (tCons (tC (.int 0)) (tCons (tC .non) tNil))) (tCons (tTup (tCons (tTup (tCons (tC (.int 0)) tNil)) tNil)) (tCons (tLst (tCons (tC (.str ("0" : Str))) tNil)) (tCons (tLst (tCons (tLst (tCons (tC (.int 1)) tNil)) tNil)) (tCons (tTup (tCons (tC (.int 0)) (tCons (tC (.int 1)) tNil))) tNil))))))))))))))) (gName 1))
    (tRet (tCB (fun vs H Q => spD K mg T S__law_pick vs H Q E0) (tCons (tVar 0) (tCons (tVar 1) tNil))))))
abbrev N_is_integer : List Str := ["value"]
def t_is_integer (K : PySem.W.Frag) (mg : Str → Option Value) (T : List (Addr × Str)) : TS := (tRet (tAndT K (tCB (rIsi K) (tCons (tVar 0) (tCons (tC (.ty "int")) tNil))) (tNotT K (tCB (rIsi K) (tCons (tVar 0) (tCons (tC (.ty "bool")) tNil))))))
abbrev N_is_between : List Str := ["value", "least", "most"]
def t_is_between (K : PySem.W.Frag) (mg : Str → Option Value) (T : List (Addr × Str)) : TS := (tRet (tAndT K (tCB (fun vs H Q => spD K mg T S_is_integer vs H Q E0) (tCons (tVar 0) tNil)) (tChain rLe rLe (tVar 1) (tVar 0) (tVar 2))))
abbrev N_is_bit : List Str := ["value"]
def t_is_bit (K : PySem.W.Frag) (mg : Str → Option Value) (T : List (Addr × Str)) : TS := (tRet (tCB (fun vs H Q => spD K mg T S_is_between vs H Q E0) (tCons (tVar 0) (tCons (tC (.int 0)) (tCons (tC (.int 1)) tNil)))))
abbrev N_is_bits : List Str := ["value", "bit"]
def t_is_bits (K : PySem.W.Frag) (mg : Str → Option Value) (T : List (Addr × Str)) : TS := (tRet (tAndT K (tCB (rIsiT K) (tCons (tVar 0) (tCons (tTup (tCons (tC (.ty "tuple")) (tCons (tC (.ty "list")) tNil))) tNil))) (tCB (rAll K) (tCons (tLc (iSq K (tVar 0)) (gName 1) tYes (tCB (fun vs H Q => spD K mg T S_is_bit vs H Q E0) (tCons (tVar 1) tNil)) [1]) tNil))))
abbrev N__law_is_one : List Str := ["_law_thing"]
def t__law_is_one (K : PySem.W.Frag) (mg : Str → Option Value) (T : List (Addr × Str)) : TS := (tRet (tAndT K (tCB (rIsi K) (tCons (tVar 0) (tCons (tC (.ty "int")) tNil))) (tAndT K (tNotT K (tCB (rIsi K) (tCons (tVar 0) (tCons (tC (.ty "bool")) tNil)))) (tOp (rInX K false) (tVar 0) (tTup (tCons (tC (.int 0)) (tCons (tC (.int 1)) tNil)))))))
abbrev N__law_is_row : List Str := ["_law_thing", "_law_one"]
def t__law_is_row (K : PySem.W.Frag) (mg : Str → Option Value) (T : List (Addr × Str)) : TS := (tSeq (tIfS (tNot (tTr K (tCB (rIsiT K) (tCons (tVar 0) (tCons (tTup (tCons (tC (.ty "tuple")) (tCons (tC (.ty "list")) tNil))) tNil))))) (tRet (tC (.bl false))) tNext)
    (tRet (tOp (rEqX K) (tLc (iSq K (tVar 0)) (gName 1) (tNot (tTr K (tCB (fun vs H Q => spD K mg T S__law_is_one vs H Q E0) (tCons (tVar 1) tNil)))) (tVar 1) [1]) (tLst tNil))))
abbrev N__law_written : List Str := ["_law_thing", "_law_sign"]
def t__law_written (K : PySem.W.Frag) (mg : Str → Option Value) (T : List (Addr × Str)) : TS := (tSeq (tIfS (tOr (tNot (tTr K (tCB (rIsi K) (tCons (tVar 0) (tCons (tC (.ty "str")) tNil))))) (tOr (tTest (tOp (rEqX K) (tVar 0) (tC (.str ("" : Str))))) (tTest (tOp (rNeX K) (tLc (iSq K (tVar 0)) (gName 1) (tTest (tOp (rInX K true) (tVar 1) (tTup (tCons (tC (.str ("0" : Str))) (tCons (tC (.str ("1" : Str))) tNil))))) (tVar 1) [1]) (tLst tNil))))) (tRet (tC .non)) tNext)
    (tRet (tCB (rTuple K) (tCons (tLc (iSq K (tVar 0)) (gName 1) tYes (tBM K "list" (rIndex K) (tLst (tCons (tC (.str ("0" : Str))) (tCons (tC (.str ("1" : Str))) tNil))) (tCons (tVar 1) tNil)) [1]) tNil))))
abbrev N__law_heard : List Str := ["_law_ask", "_law_caught", "error"]
def k__law_heard (K : PySem.W.Frag) (mg : Str → Option Value) : Addr → Value → Option Addr → TS := fun a cls d => (tSeq (tIfS (tAnd (tTr K (tCB (rIsHV K a cls d) (tCons (tVar 1) (tCons (tC (.ref (He.ga K "InvalidBits"))) tNil)))) (tNot (tTr K (tCB (rIsHV K a cls d) (tCons (tVar 1) (tCons (tC (.ref (He.ga K "InvalidName"))) tNil)))))) (tRet (tTup (tCons (tC (.str ("bits" : Str))) (tCons (tCB (rRepr K) (tCons (tHVf K a cls d "value" (tVar 1)) tNil)) tNil)))) tNext)
    (tRet (tC (.str ("odd" : Str)))))
abbrev N_read_bits : List Str := ["text", "sign"]
def t_read_bits (K : PySem.W.Frag) (mg : Str → Option Value) (T : List (Addr × Str)) (E : XK) : TS := (tSeq (tIfS (tOr (tNot (tTr K (tCB (rIsi K) (tCons (tVar 0) (tCons (tC (.ty "str")) tNil))))) (tOr (tTest (tOp (rEqX K) (tVar 0) (tC (.str ("" : Str))))) (tNot (tTr K (tCB (rAll K) (tCons (tLc (iSq K (tVar 0)) (gName 1) tYes (tOp (rInX K false) (tVar 1) (tC (.str ("01" : Str)))) [1]) tNil)))))) (tRaiseS (He.ga K "InvalidBits") "value" (fun cls d _ H => E cls d H) (tCons (tVar 0) tNil)) tNext)
    (tRet (tCB (rTuple K) (tCons (tLc (iSq K (tVar 0)) (gName 1) tYes (tCB rInt (tCons (tVar 1) tNil)) [1]) tNil))))
abbrev N__law_thing_right : List Str := ["_law_thing", "_law_kept", "_law_told", "_law_due", "_law_heard_here"]
def t__law_thing_right (K : PySem.W.Frag) (mg : Str → Option Value) (T : List (Addr × Str)) : TS := (tSeq (tAsg (tCB (rRepr K) (tCons (tVar 0) tNil)) (gName 1))
    (tSeq (tAsg (tLst (tCons (tCB (fun vs H Q => spD K mg T S_is_bit vs H Q E0) (tCons (tVar 0) tNil)) (tCons (tCK gApp 0 1 (fun vs H Q => spD K mg T S_is_bit vs H Q E0) tNil (tCons (tVar 0) tNil)) (tCons (tCB (fun vs H Q => spD K mg T S_is_bits vs H Q E0) (tCons (tVar 0) tNil)) (tCons (tCK gApp 0 1 (fun vs H Q => spD K mg T S_is_bits vs H Q E0) tNil (tCons (tVar 0) tNil)) tNil))))) (gName 2))
    (tSeq (tIfS (tTest (tOp (rNeX K) (tCB (rRepr K) (tCons (tVar 2) tNil)) (tCB (rRepr K) (tCons (tOp (rAdd K) (tOp rMul (tLst (tCons (tCB (fun vs H Q => spD K mg T S__law_is_one vs H Q E0) (tCons (tVar 0) tNil)) tNil)) (tC (.int 2))) (tOp rMul (tLst (tCons (tCB (fun vs H Q => spD K mg T S__law_is_row vs H Q E0) (tCons (tVar 0) tNil)) tNil)) (tC (.int 2)))) tNil)))) (tRet (tC (.bl false))) tNext)
    (tSeq (tAsg (tCB (fun vs H Q => spD K mg T S__law_written vs H Q E0) (tCons (tVar 0) tNil)) (gName 3))
    (tSeq (tAsg (tLst (tCons (LamX.tLam T (TTh K (He.ga K "PathError") 2 1 3 (k__law_heard K mg) wrL) (fun E => (tCB (fun vs H Q => spD K mg T S_read_bits vs H Q E) (tCons (tVar 0) tNil)))) tNil)) (gName 4))
    (tSeq (tDrop (tBM K "list" rAppend (tVar 4) (tCons (LamX.tLam T (TTh K (He.ga K "PathError") 2 1 3 (k__law_heard K mg) wrL) (fun E => (tCK gApp 0 1 (fun vs H Q => spD K mg T S_read_bits vs H Q E) tNil (tCons (tVar 0) tNil)))) tNil)))
    (tSeq (tIfS (tTest (tOp (rNeX K) (tCB (rRepr K) (tCons (tVar 4) tNil)) (tCB (rRepr K) (tCons (tOp rMul (tLst (tCons (tIf (tTest (tOp rIs (tVar 3) (tC .non))) (tTup (tCons (tC (.str ("bits" : Str))) (tCons (tCB (rRepr K) (tCons (tVar 0) tNil)) tNil))) (tLst (tCons (tVar 3) tNil))) tNil)) (tC (.int 2))) tNil)))) (tRet (tC (.bl false))) tNext)
    (tRet (tOp (rEqX K) (tCB (rRepr K) (tCons (tVar 0) tNil)) (tVar 1))))))))))
abbrev N_law : List Str := ["_law_script", "_law_pen_here", "_law_turn", "_law_row_so", "_law_digits", "_law_one", "_law_told", "_law_sign", "_law_spot", "_law_bent", "_law_part", "_law_mixed", "_law_thing"]
def r_law (K : PySem.W.Frag) (mg : Str → Option Value) (T : List (Addr × Str)) : TS := (tSeq (tFor (iRng1 (tCons (tC (.int 8)) tNil)) (gName 2) (tSeq (tAsg (tCB (fun vs H Q => spD K mg T S__law_row vs H Q E0) (tCons (tVar 1) (tCons (tC (.int 70)) tNil))) (gName 3))
    (tSeq (tAsg (tM1 (rJoin K) (tC (.str ("" : Str))) (tLc (iSq K (tVar 3)) (gName 5) tYes (tOp (rIx K) (tC (.str ("01" : Str))) (tVar 5)) [5])) (gName 4))
    (tSeq (tAsg (tLst (tCons (tCB (fun vs H Q => spD K mg T S_bits_text vs H Q E0) (tCons (tVar 3) tNil)) (tCons (tCB (fun vs H Q => spD K mg T S_bits_text vs H Q E0) (tCons (tCB (rTuple K) (tCons (tVar 3) tNil)) tNil)) (tCons (tCK gApp 0 1 (fun vs H Q => spD K mg T S_bits_text vs H Q E0) tNil (tCons (tVar 3) tNil)) tNil)))) (gName 6))
    (tSeq (tIfS (tOr (tTest (tOp (rNeX K) (tVar 6) (tOp rMul (tLst (tCons (tVar 4) tNil)) (tC (.int 3))))) (tTest (tOp (rNeX K) (tVar 3) (tLc (iSq K (tVar 4)) (gName 7) tYes (tCB rInt (tCons (tVar 7) tNil)) [7])))) (tRet (tC (.bl false))) tNext)
    (tSeq (tAsg (tCB (fun vs H Q => spD K mg T S_draw vs H Q E0) (tCons (tVar 1) (tCons (tOp (rAdd K) (tCB (rLen K) (tCons (tVar 4) tNil)) (tC (.int 1))) tNil))) (gName 8))
    (tSeq (tAsg (tOp (rAdd K) (tOp (rAdd K) (tSl (rSl K) (tVar 4) tNoPart (tPart (tVar 8))) (tCB (fun vs H Q => spD K mg T S__law_pick vs H Q E0) (tCons (tVar 1) (tCons (tLst (tCons (tC (.str ("2" : Str))) (tCons (tC (.str (" " : Str))) (tCons (tC (.str ("\n" : Str))) (tCons (tC (.str ("-" : Str))) (tCons (tC (.str ("o" : Str))) (tCons (tC (.str ("a" : Str))) (tCons (tC (.str ("0" : Str))) (tCons (tC (.str ("1" : Str))) tNil))))))))) tNil)))) (tSl (rSl K) (tVar 4) (tPart (tVar 8)) tNoPart)) (gName 9))
    (tSeq (tAsg (tCB (fun vs H Q => spD K mg T S_draw vs H Q E0) (tCons (tVar 1) (tCons (tOp (rAdd K) (tCB (rLen K) (tCons (tVar 3) tNil)) (tC (.int 1))) tNil))) (gName 10))
    (tSeq (tAsg (tOp (rAdd K) (tOp (rAdd K) (tSl (rSl K) (tVar 3) tNoPart (tPart (tVar 10))) (tLst (tCons (tCB (fun vs H Q => spD K mg T S__law_pick vs H Q E0) (tCons (tVar 1) (tCons (tLst (tCons (tC (.bl true)) (tCons (tC (.int 2)) (tCons (tC .non) (tCons (tC (.str ("0" : Str))) (tCons (tUn (rU fun i => .int (-i)) (tC (.int 1))) (tCons (tTup (tCons (tC (.int 0)) tNil)) tNil))))))) tNil))) tNil))) (tSl (rSl K) (tVar 3) (tPart (tVar 10)) tNoPart)) (gName 11))
    (tFor (iSq K (tLst (tCons (tVar 3) (tCons (tCB (rTuple K) (tCons (tVar 3) tNil)) (tCons (tVar 4) (tCons (tVar 9) (tCons (tVar 11) (tCons (tCB (rTuple K) (tCons (tVar 11) tNil)) (tCons (tCB (fun vs H Q => spD K mg T S__law_odd vs H Q E0) (tCons (tVar 1) tNil)) (tCons (tLst (tCons (tCB (fun vs H Q => spD K mg T S__law_odd vs H Q E0) (tCons (tVar 1) tNil)) tNil)) tNil)))))))))) (gName 12) (tIfS (tNot (tTr K (tCB (fun vs H Q => spD K mg T S__law_thing_right vs H Q E0) (tCons (tVar 12) tNil)))) (tRet (tC (.bl false))) tNext)))))))))))
    (tRet (tAndT K (tOp (rEqX K) (tCB (fun vs H Q => spD K mg T S_bits_text vs H Q E0) (tCons (tTup tNil) tNil)) (tC (.str ("" : Str)))) (tOp (rEqX K) (tCB (fun vs H Q => spD K mg T S_bits_text vs H Q E0) (tCons (tLst (tCons (tC (.int 0)) (tCons (tC (.int 1)) (tCons (tC (.int 1)) tNil)))) tNil)) (tC (.str ("011" : Str)))))))
def t_law (K : PySem.W.Frag) (mg : Str → Option Value) (T : List (Addr × Str)) : TS := tSeq (tAsg (tCB (fun vs H Q => spPen K T vs H Q E0) (tCons (tVar 0) tNil)) (gName 1)) (r_law K mg T)
theorem one_tab {a : Addr × Str} : ∀ p ∈ [a], p.1 = a.1 → p.2 = a.2 := fun p hp _ => by rw [List.mem_singleton.mp hp]
structure Glb (P : Program) (K : PySem.W.Frag) (mg : Str → Option Value) : Prop where
  n_abs : mg "abs" = none
  n_all : mg "all" = none
  n_bool : mg "bool" = none
  n_int : mg "int" = none
  n_isinstance : mg "isinstance" = none
  n_len : mg "len" = none
  n_list : mg "list" = none
  n_range : mg "range" = none
  n_repr : mg "repr" = none
  n_str : mg "str" = none
  n_tuple : mg "tuple" = none
  c_DIGITS : ∃ u, mg "DIGITS" = some u ∧ RelV (.str ("01" : Str)) u
  m_InvalidBits : mg "InvalidBits" = some (.ref (He.ga K "InvalidBits"))
  m_InvalidName : mg "InvalidName" = some (.ref (He.ga K "InvalidName"))
  m_PathError : mg "PathError" = some (.ref (He.ga K "PathError"))
  sup_InvalidBits : SupT P K mg (He.ga K "InvalidBits") (He.ma K (He.ga K "InvalidBits") "__init__") "value"
  sysM : ∃ o, K.lookup sysModules = some o
  ec_InvalidBits : ecB K (He.ga K "InvalidBits") = true
  no_InvalidBits_value : PySem.W.findIn K (.ref (He.ga K "InvalidBits")) "value" = some none
  kit_InvalidBits_InvalidBits : PySem.W.kitOne K (.ref (He.ga K "InvalidBits")) (.ref (He.ga K "InvalidBits")) = some true
  kit_InvalidBits_InvalidName : PySem.W.kitOne K (.ref (He.ga K "InvalidBits")) (.ref (He.ga K "InvalidName")) = some false
  exm_InvalidBits_PathError : PySem.W.exmOne K (.ref (He.ga K "InvalidBits")) (.ref (He.ga K "PathError")) = some true
/-! ### steps -/
local macro_rules | `(tactic| walk_at "e1") => `(tactic| first
  | ((with_reducible show We _ _ _ (tVar _) _); refine w_var rfl ?_)
  | with_reducible refine w_op ?_
  | with_reducible refine w_int ?_
  | with_reducible refine w_str ?_
  | with_reducible refine w_bl ?_
  | with_reducible refine w_non ?_
  | with_reducible refine w_isiStr ?_
  | with_reducible refine w_isiInt ?_
  | with_reducible refine w_isiBool ?_
  | with_reducible refine w_isiList ?_
  | with_reducible refine w_isiTuple ?_
  | with_reducible refine w_isiDict ?_
  | with_reducible refine w_isiTL ?_
  | ((with_reducible show We _ _ _ (tCB (rIsHV _ _ _ _) _) _); refine w_isHV (by rfl) (by rfl) (by rfl) ?_)
  | ((with_reducible show We _ _ _ (tHVf _ _ _ _ _ _) _); refine w_hvf (by rfl) (by rfl) (by rfl) ?_)
  | with_reducible refine w_cb ?_
  | with_reducible refine wa_cons ?_
  | with_reducible refine wa_nil ?_
  | with_reducible refine w_lst ?_
  | with_reducible refine w_tup ?_
  | with_reducible refine w_asg ?_
  | with_reducible refine w_ret ?_
  | with_reducible refine w_retN ?_
  | with_reducible refine w_ifS ?_
  | with_reducible refine w_next ?_
  | with_reducible refine w_break ?_
  | with_reducible refine w_cont ?_
  | with_reducible refine w_chain ?_
  | with_reducible refine w_ckA ?_
  | with_reducible refine w_if ?_
  | with_reducible refine w_andT ?_
  | with_reducible refine w_orT ?_
  | with_reducible refine w_notT ?_
  | with_reducible refine w_un ?_
  | with_reducible refine w_dnew ?_
  | with_reducible refine w_disp ?_
  | with_reducible refine wp_cons ?_
  | with_reducible refine wp_nil ?_
  | with_reducible refine w_joinL ?_
  | with_reducible refine w_splitL ?_
  | with_reducible refine w_sl ?_
  | with_reducible refine wo_none ?_
  | with_reducible refine wo_some ?_
  | with_reducible refine wt_test ?_
  | with_reducible refine wt_tr ?_
  | with_reducible refine wt_and ?_
  | with_reducible refine wt_or ?_
  | with_reducible refine wt_not ?_
  | with_reducible refine wt_yes ?_
  | with_reducible refine wg_name ?_
  | with_reducible refine wi_sq ?_
  | with_reducible refine wi_rng1 ?_
  | with_reducible refine wi_rng2 ?_
  | with_reducible refine w_par ?_
  | with_reducible refine w_forN ?_
  | with_reducible refine w_lcN ?_
  | ((with_reducible refine ex_rng1 ?hb ?_); (case' hb => omega))
  | ((with_reducible refine ex_rng2 ?hb ?_); (case' hb => omega))
  | with_reducible refine w_drop ?_
  | ((with_reducible show Ws _ _ _ (tAsg _ (gSub (tVar _) (tC (.int 2)) rSetL)) _); refine w_setP2 rfl ?_)
  | ((with_reducible show Ws _ _ _ (tAsg _ (gSub (tVar _) (tC (.int 1)) rSetL)) _); refine w_setP1 rfl ?_)
  | with_reducible refine r_neg ?_
  | with_reducible refine r_addI ?_
  | with_reducible refine r_subI ?_
  | with_reducible refine r_ltI ?_
  | with_reducible refine r_leI ?_
  | with_reducible refine r_gtI ?_
  | with_reducible refine r_geI ?_
  | with_reducible refine r_addL rfl ?_
  | with_reducible refine r_addT rfl ?_
  | ((with_reducible show R2D _ _ rMul (.int _) (.int _) _); refine r_mulI (by first | exact Or.inl ⟨by omega, by omega⟩ | exact Or.inr ⟨by omega, by omega⟩) ?_)
  | ((with_reducible show R2D _ _ rMul (.lst _) (.int _) _); refine r_mulL (by omega) (by omega) rfl ?_)
  | ((with_reducible show R2D _ _ rMod (.int _) (.int _) _); refine r_modI (by omega) ?_)
  | ((with_reducible show R2D _ _ rDiv (.int _) (.int _) _); refine r_divI (by omega) ?_)
  | ((with_reducible show R2D _ _ rPow (.int 10) (.int _) _); refine r_powI ⟨by decide, by decide, by decide⟩ ?_)
  | ((with_reducible show R2D _ _ (rIx _) .pen (.int 2) _); refine r_ixP2 fun _ => ?_)
  | ((with_reducible show R2D _ _ (rAdd _) (.str _) (.str _) _); refine r_addS (by first | rfl | assumption) ?_)
  | ((with_reducible show RSD _ (rSl _) (.str _) _ _ _); refine s_str (by first | rfl | assumption) ?_)
  | ((with_reducible show RCD _ (rLen _) [.str _] _ _); refine c_lenS (by first | rfl | assumption) ?_)
  | ((with_reducible show List.Nodup _ ∧ _); refine ⟨by decide, by decide, ?_⟩)
  | ((with_reducible show (_ ∧ _) ∧ RCD _ _ _ _ _); refine ⟨⟨rfl, rfl⟩, ?_⟩)
  | with_reducible refine s_lst ?_
  | with_reducible refine s_tup ?_
  | with_reducible refine c_lenL ?_
  | with_reducible refine c_lenT ?_
  | with_reducible refine c_lenD ?_
  | with_reducible refine c_abs ?_
  | with_reducible refine c_intI ?_
  | with_reducible refine c_intB ?_
  | with_reducible refine c_listL ?_
  | with_reducible refine c_listT ?_
  | with_reducible refine c_tupleL ?_
  | with_reducible refine c_tupleT ?_
  | with_reducible refine c_strS ?_
  | with_reducible refine ex_bl ?_
  | with_reducible refine ex_int ?_
  | with_reducible refine ex_str ?_
  | ((with_reducible show _ ∧ _); refine ⟨(show szOk _ = true from rfl), ?_⟩)
  | ((with_reducible show ite _ _ _); first | (refine ite_t (by first | rfl | assumption) ?_) | (refine ite_f (by first | rfl | assumption) ?_))
  | refine ex_tr rfl ?_
  | refine ex_tn rfl ?_
  | refine ex_sq rfl ?_
  | refine ex_key rfl ?_)
local macro_rules | `(tactic| walk_at "e") => `(tactic| repeat walk_at "e1")
local macro_rules | `(tactic| walk_at "w") => `(tactic| repeat (first | with_reducible refine w_seq ?_ | walk_at "e1"))
section
variable {P : Program}
theorem w__law_draw {P : Program} (c : Fc) (_ : Glb P c.K c.mg) : ∀ ds n, S_draw.pre ds → Ws c (gam N__law_draw ds) (n + S_draw.cost) (t__law_draw c.K c.mg c.T) (ndOf S_draw ds n) := by
  refine b_draw fun m n h1 h2 => ?_
  unfold t__law_draw
  walk_at "w"
  refine ite_b (fun hr => ?_) fun hr => ?_
  · walk_at "w"
    exact ⟨⟨_, rfl, md_bd _ h1⟩, by omega⟩
  · walk_at "w"
    refine r_ixP1 fun at_ a0 a1 => ?_
    walk_at "w"
    refine ⟨_, n, rfl, by omega, by omega, ?_⟩
    refine w_seq ?_
    walk_at "e"
    refine w_cut (fun Γ' n' => n' = n ∧ ∃ raw : Int, Γ' = [Sl.da .pen, .da (.int m), .un, .da (.int at_), .da (.int raw), .un, .un]) ?_ ?_
    · walk_at "e"
      refine r_ixP0 fun hl => ?_
      walk_at "e"
      refine r_neNil (fun _ => ?_) fun hp => ?_
      · walk_at "e"
        exact ⟨rfl, _, rfl⟩
      · walk_at "e"
        refine r_ixP0 fun _ => ?_
        walk_at "e"
        refine r_ixP0 fun _ => ?_
        walk_at "e"
        refine r_modI (by rw [List.length_map]; omega) ?_
        refine r_ixI (md_bd _ ?_).1 ?_ fun raw => ?_
        · rw [List.length_map]; omega
        · have := (md_bd at_ (b := (c.ns.map Dt.int).length) (by rw [List.length_map]; omega)).2
          rw [List.length_map] at this ⊢
          exact this
        exact ⟨rfl, _, rfl⟩
    · rintro Γ' n' ⟨rfl, raw, rfl⟩
      refine w_cut (fun Γ' n2 => n' ≤ n2 ∧ ∃ s5 : Sl, Γ' = [Sl.da .pen, .da (.int m), .un, .da (.int at_), .da (.int raw), s5, .un]) ?_ ?_
      · walk_at "e"
        refine r_ixP0 fun hl => ?_
        walk_at "e"
        refine ite_b (fun hr => ?_) fun hr => ?_
        · walk_at "e"
          refine ite_b (fun hr => ?_) fun hr => ?_
          · walk_at "w"
            exact ⟨⟨_, rfl, md_bd _ h1⟩, Nat.le_refl _⟩
          · walk_at "w"
            exact ⟨Nat.le_refl _, _, rfl⟩
        · walk_at "w"
          exact ⟨Nat.le_refl _, _, rfl⟩
      · rintro Γ' n2 ⟨hn, s5, rfl⟩
        have q := md_bd raw (b := 2147483549) (by omega)
        have b0 := a0
        walk_at "w"
        refine r_powI ⟨by decide, by decide, by omega⟩ ?_
        walk_at "w"
        generalize hq : (raw % 2147483549 + 7195 * at_ + 363) ^ Int.toNat 5 % 2147483629 = mx
        have q2 := md_bd ((raw % 2147483549 + 7195 * at_ + 363) ^ Int.toNat 5) (b := 2147483629) (by omega)
        rw [hq] at q2
        have b1 := mul_bd q2.1 (show mx ≤ 2147483629 by omega) (show 0 ≤ at_ + 30015 by omega) (show at_ + 30015 ≤ 4224319 by omega)
        have b60021 := mul_bd (show 0 ≤ 60021 * at_ by omega) (show 60021 * at_ ≤ 60021 * 4194304 by omega) a0 (show at_ ≤ 4194304 by omega)
        walk_at "w"
        refine r_powI ⟨by decide, by decide, by omega⟩ ?_
        walk_at "w"
        exact ⟨⟨_, rfl, md_bd _ h1⟩, hn⟩
theorem w__law_pick (c : Fc) (g : Glb P c.K c.mg) : ∀ ds n, S__law_pick.pre ds → Ws c (gam N__law_pick ds) (n + S__law_pick.cost) (t__law_pick c.K c.mg c.T) (ndOf S__law_pick ds n) := by
  refine b_fn2 fun a b n hp => ?_
  obtain ⟨rfl, ds, rfl, h1, h2⟩ := hp
  unfold t__law_pick
  walk_at "w"
  refine c_draw (by omega) (by omega) (by omega) fun i i0 i1 => ?_
  refine r_ixL_any i0 i1 fun d hd => ?_
  exact ⟨⟨ds, rfl, hd⟩, by omega⟩
theorem tn_int {d : Dt} {t : Tn} (h : d.tn = some t) : (∃ i, d = .int i ∧ t = .int) ∨ (∃ b, d = .bl b ∧ t = .bool) ∨ (t.sub .int = false ∧ isInt d = false ∧ isBit d = false) := by
  cases d <;> cases h <;> first | exact .inl ⟨_, rfl, rfl⟩ | exact .inr (.inl ⟨_, rfl, rfl⟩) | exact .inr (.inr ⟨rfl, rfl, rfl⟩)
theorem w_is_integer (c : Fc) (g : Glb P c.K c.mg) : ∀ ds n, S_is_integer.pre ds → Ws c (gam N_is_integer ds) (n + S_is_integer.cost) (t_is_integer c.K c.mg c.T) (ndOf S_is_integer ds n) := by
  refine b_fn1 fun d n hp => ?_
  obtain ⟨t, ht⟩ := hp
  unfold t_is_integer
  walk_at "w"
  refine ex_tn ht ?_
  rcases tn_int ht with ⟨i, rfl, rfl⟩ | ⟨b, rfl, rfl⟩ | ⟨h1, h2, h3⟩
  · walk_at "w"
    exact ⟨rfl, Nat.le_refl _⟩
  · walk_at "w"
    exact ⟨rfl, Nat.le_refl _⟩
  · refine ex_tr (x := false) (by rw [h1]; rfl) (ite_f rfl ⟨by rw [h1, h2], Nat.le_refl _⟩)
theorem w_is_between (c : Fc) (g : Glb P c.K c.mg) : ∀ ds n, S_is_between.pre ds → Ws c (gam N_is_between ds) (n + S_is_between.cost) (t_is_between c.K c.mg c.T) (ndOf S_is_between ds n) := by
  refine b_fn3 fun d a b n hp => ?_
  obtain ⟨⟨t, ht⟩, ⟨i, rfl⟩, ⟨j, rfl⟩⟩ := hp
  unfold t_is_between
  walk_at "w"
  refine c_fn1 (Nat.zero_le _) ⟨t, ht⟩ fun e he => ?_
  subst he
  rcases tn_int ht with ⟨k, rfl, rfl⟩ | ⟨b, rfl, rfl⟩ | ⟨h1, h2, h3⟩
  · walk_at "w"
    refine ite_b (fun hr => ?_) fun hr => ?_
    · walk_at "w"
      refine ⟨⟨i, j, rfl, rfl, ?_⟩, Nat.le_refl _⟩
      show Dt.bl (decide (k ≤ j)) = Dt.bl (decide (i ≤ k) && decide (k ≤ j))
      rw [hr, Bool.true_and]
    · refine ⟨⟨i, j, rfl, rfl, ?_⟩, Nat.le_refl _⟩
      show Dt.bl false = Dt.bl (decide (i ≤ k) && decide (k ≤ j))
      rw [hr, Bool.false_and]
  · walk_at "w"
    exact ⟨⟨i, j, rfl, rfl, rfl⟩, Nat.le_refl _⟩
  · refine ex_tr (x := false) (by rw [h2]; rfl) (ite_f rfl ⟨⟨i, j, rfl, rfl, ?_⟩, Nat.le_refl _⟩)
    rw [h2]
    cases d <;> first | rfl | (cases h2)
theorem w_is_bit (c : Fc) (g : Glb P c.K c.mg) : ∀ ds n, S_is_bit.pre ds → Ws c (gam N_is_bit ds) (n + S_is_bit.cost) (t_is_bit c.K c.mg c.T) (ndOf S_is_bit ds n) := by
  refine b_fn1 fun d n hp => ?_
  unfold t_is_bit
  walk_at "w"
  refine c_fn3 (Nat.zero_le _) ⟨hp, ⟨_, rfl⟩, ⟨_, rfl⟩⟩ fun e he => ?_
  obtain ⟨i, j, q1, q2, rfl⟩ := he
  cases q1
  cases q2
  refine ⟨?_, Nat.le_refl _⟩
  congr 1
  cases d with
  | int k =>
    show (decide (0 ≤ k) && decide (k ≤ 1)) = (decide (k = 0) || decide (k = 1))
    by_cases h0 : k = 0
    · subst h0; rfl
    · by_cases h1 : k = 1
      · subst h1; rfl
      · simp [h0, h1]; omega
  | _ => rfl
theorem w__law_is_one (c : Fc) (g : Glb P c.K c.mg) : ∀ ds n, S__law_is_one.pre ds → Ws c (gam N__law_is_one ds) (n + S__law_is_one.cost) (t__law_is_one c.K c.mg c.T) (ndOf S__law_is_one ds n) := by
  refine b_fn1 fun d n hp => ?_
  obtain ⟨t, ht⟩ := hp
  unfold t__law_is_one
  walk_at "w"
  refine ex_tn ht ?_
  rcases tn_int ht with ⟨i, rfl, rfl⟩ | ⟨b, rfl, rfl⟩ | ⟨h1, h2, h3⟩
  · walk_at "w"
    refine r_inT rfl rfl ⟨?_, Nat.le_refl _⟩
    show Dt.bl ((0 == i) || ((1 == i) || false)) = Dt.bl (decide (i = 0) || decide (i = 1))
    rw [Bool.or_false]
    by_cases h0 : i = 0
    · subst h0; rfl
    · by_cases h1 : i = 1
      · subst h1; rfl
      · have e0 : (0 == i) = false := by simpa using fun z => h0 z.symm
        have e1 : (1 == i) = false := by simpa using fun z => h1 z.symm
        rw [e0, e1, decide_eq_false h0, decide_eq_false h1]
  · walk_at "w"
    exact ⟨rfl, Nat.le_refl _⟩
  · refine ex_tr (x := false) (by rw [h1]; rfl) (ite_f rfl ⟨by rw [h1, h3], Nat.le_refl _⟩)
/-! ### texts of digits -/
theorem ro_tn {k : Nat} {d : Dt} (h : d.ro k = true) : ∃ t, d.tn = some t := by
  cases d with
  | obj _ _ _ => cases k <;> simp [Dt.ro] at h
  | err _ _ _ => cases k <;> simp [Dt.ro] at h
  | pen => cases k <;> simp [Dt.ro] at h
  | _ => exact ⟨_, rfl⟩
theorem ros_mem {k : Nat} : ∀ {ds : List Dt}, Dt.ros k ds = true → ∀ d ∈ ds, d.ro k = true
  | e :: ds, h, d, hd => by
    have h' : e.ro k = true ∧ Dt.ros k ds = true := by simpa [Dt.ros] using h
    cases hd with
    | head => exact h'.1
    | tail _ hd => exact ros_mem h'.2 d hd
theorem rws_len : ∀ (ds : List Dt), 2 * ds.length ≤ Dt.rws ds
  | [] => Nat.zero_le _
  | d :: ds => by
    have := rws_len ds
    simp only [Dt.rws, List.length_cons]
    omega
theorem good_seq {d : Dt} {ds : List Dt} (h : good d) (e : d = .lst ds ∨ d = .tup ds) : ds.length ≤ 150000 ∧ ∀ x ∈ ds, x.ro 9 = true := by
  obtain ⟨h1, h2, _⟩ := h
  have a := rws_len ds
  rcases e with rfl | rfl
  · simp only [Dt.rw] at h2
    exact ⟨by omega, ros_mem (by simpa [Dt.ro] using h1)⟩
  · simp only [Dt.rw] at h2
    exact ⟨by omega, ros_mem (by simpa [Dt.ro] using h1)⟩
theorem good_str {z : Str} (h : good (.str z)) : okS 10000 z := by
  obtain ⟨h1, _, h2⟩ := h
  have h2 := h2 z rfl
  exact ⟨by omega, okCb_ok (by simpa [Dt.ro] using h1)⟩
theorem tn_seq {d : Dt} {t : Tn} (h : d.tn = some t) : (∃ ds, d = .lst ds ∧ t = .list) ∨ (∃ ds, d = .tup ds ∧ t = .tuple) ∨ ((t.sub .tuple || t.sub .list) = false ∧ isRow d = false) := by
  cases d <;> cases h <;> first | exact .inl ⟨_, rfl, rfl⟩ | exact .inr (.inl ⟨_, rfl, rfl⟩) | exact .inr (.inr ⟨rfl, rfl⟩)
theorem bits_step {c : Fc} {Γ : List Sl} {n : Nat} {ds : List Dt} (k : Kd) (hl : ds.length ≤ 150000) (h : ∀ m, n ≤ m → k (.lst (ds.map fun x => .bl (isBit x))) m) : ∀ m, n ≤ m → k (.lst ((ds.map isBit).map Dt.bl)) m := fun m hm => by
  rw [List.map_map]
  exact h m hm
theorem w_is_bits (c : Fc) (g : Glb P c.K c.mg) : ∀ ds n, S_is_bits.pre ds → Ws c (gam N_is_bits ds) (n + S_is_bits.cost) (t_is_bits c.K c.mg c.T) (ndOf S_is_bits ds n) := by
  refine b_fn1 fun d n hp => ?_
  obtain ⟨t, ht⟩ := ro_tn hp.1
  unfold t_is_bits
  walk_at "w"
  refine ex_tn ht ?_
  rcases tn_seq ht with ⟨ds, rfl, rfl⟩ | ⟨ds, rfl, rfl⟩ | ⟨h1, h2⟩
  · obtain ⟨hl, he⟩ := good_seq hp (.inl rfl)
    walk_at "w"
    refine lc_fun (fun x => .bl (isBit x)) (sz_of hl rfl) (fun x hx m => ?_) fun m hm => ?_
    · walk_at "w"
      exact c_fn1 (Nat.zero_le _) (ro_tn (he x hx)) fun e he => ⟨he, Nat.le_refl _⟩
    · walk_at "w"
      rw [show (ds.map fun x => Dt.bl (isBit x)) = (ds.map isBit).map Dt.bl by rw [List.map_map]; rfl]
      refine c_all ⟨?_, hm⟩
      show Dt.bl _ = Dt.bl (ds.all isBit)
      rw [List.all_map]
      rfl
  · obtain ⟨hl, he⟩ := good_seq hp (.inr rfl)
    walk_at "w"
    refine lc_fun (fun x => .bl (isBit x)) (sz_of hl rfl) (fun x hx m => ?_) fun m hm => ?_
    · walk_at "w"
      exact c_fn1 (Nat.zero_le _) (ro_tn (he x hx)) fun e he => ⟨he, Nat.le_refl _⟩
    · walk_at "w"
      rw [show (ds.map fun x => Dt.bl (isBit x)) = (ds.map isBit).map Dt.bl by rw [List.map_map]; rfl]
      refine c_all ⟨?_, hm⟩
      show Dt.bl _ = Dt.bl (ds.all isBit)
      rw [List.all_map]
      rfl
  · refine ex_tr (x := false) (by rw [h1]; rfl) (ite_f rfl ⟨by rw [h1, h2], Nat.le_refl _⟩)
theorem fil_all (ds : List Dt) : ((ds.filter fun x => !isBit x).map id).isEmpty = ds.all isBit := by
  rw [List.map_id]
  induction ds with
  | nil => rfl
  | cons d ds ih =>
    rw [List.filter_cons, List.all_cons]
    cases isBit d
    · rfl
    · exact ih
theorem w__law_is_row (c : Fc) (g : Glb P c.K c.mg) : ∀ ds n, S__law_is_row.pre ds → Ws c (gam N__law_is_row ds) (n + S__law_is_row.cost) (t__law_is_row c.K c.mg c.T) (ndOf S__law_is_row ds n) := by
  refine b_fn1 fun d n hp => ?_
  obtain ⟨t, ht⟩ := ro_tn hp.1
  unfold t__law_is_row
  walk_at "w"
  refine ex_tn ht ?_
  rcases tn_seq ht with ⟨ds, rfl, rfl⟩ | ⟨ds, rfl, rfl⟩ | ⟨h1, h2⟩
  · obtain ⟨hl, he⟩ := good_seq hp (.inl rfl)
    walk_at "w"
    refine lc_fil (fun x => !isBit x) id (sz_of hl rfl) (fun x hx m => ?_) fun m hm => ?_
    · walk_at "w"
      refine c_fn1 (Nat.zero_le _) (ro_tn (he x hx)) fun e he => ?_
      subst he
      walk_at "w"
      refine ⟨rfl, Nat.le_refl _, fun _ => ?_⟩
      walk_at "w"
      exact ⟨rfl, Nat.le_refl _⟩
    · walk_at "w"
      exact r_eqNil ⟨by rw [fil_all]; rfl, hm⟩
  · obtain ⟨hl, he⟩ := good_seq hp (.inr rfl)
    walk_at "w"
    refine lc_fil (fun x => !isBit x) id (sz_of hl rfl) (fun x hx m => ?_) fun m hm => ?_
    · walk_at "w"
      refine c_fn1 (Nat.zero_le _) (ro_tn (he x hx)) fun e he => ?_
      subst he
      walk_at "w"
      refine ⟨rfl, Nat.le_refl _, fun _ => ?_⟩
      walk_at "w"
      exact ⟨rfl, Nat.le_refl _⟩
    · walk_at "w"
      exact r_eqNil ⟨by rw [fil_all]; rfl, hm⟩
  · refine ex_tr (x := t.sub .tuple || t.sub .list) rfl ?_
    walk_at "w"
    refine ite_t (by rw [h1]; rfl) ?_
    walk_at "w"
    exact ⟨by rw [h2], Nat.le_refl _⟩
theorem join_dig : ∀ bs : List Bool, Str.join "" (bs.map fun b => (⟨#[sgn b]⟩ : Str)) = dig bs
  | [] => rfl
  | [b] => rfl
  | b :: b2 :: bs => by
    show (⟨#[sgn b]⟩ : Str) ++ "" ++ Str.join "" ((b2 :: bs).map fun b => (⟨#[sgn b]⟩ : Str)) = _
    rw [join_dig (b2 :: bs)]
    apply Str.ext'
    apply Array.toList_inj.mp
    rw [app_list, app_list]
    rfl
theorem str_bit (b : Bool) : (Str.ofString (toString (if b then 1 else 0 : Int))) = (⟨#[sgn b]⟩ : Str) := by cases b <;> decide +kernel
theorem w_bits_text (c : Fc) (g : Glb P c.K c.mg) : ∀ ds n, S_bits_text.pre ds → Ws c (gam N_bits_text ds) (n + S_bits_text.cost) (t_bits_text c.K c.mg c.T) (ndOf S_bits_text ds n) := by
  refine b_fn1 fun d n hp => ?_
  obtain ⟨bs, hl, hd⟩ := hp
  have key : ∀ m, n ≤ m → ∃ ys : List Str, Dt.lst (bs.map fun b => .str ⟨#[sgn b]⟩) = Dt.lst (ys.map Dt.str) ∧ (ys.map (·.length)).sum + ys.length * (Str.ofString "").length ≤ 16777216 ∧ (nd n fun e => ∃ bs : List Bool, (d = .lst (bs.map bitD) ∨ d = .tup (bs.map bitD)) ∧ e = .str (dig bs)).rt (Dt.str (Txt.join (Str.ofString "") ys)) m := by
    intro m hm
    refine ⟨bs.map fun b => ⟨#[sgn b]⟩, by rw [List.map_map]; rfl, ?_, ⟨bs, hd, ?_⟩, hm⟩
    · have a := join_len (z := "") (ys := bs.map fun b => (⟨#[sgn b]⟩ : Str)) (b := 1) (fun y hy => by
        obtain ⟨b, _, rfl⟩ := List.mem_map.mp hy
        exact Nat.le_refl _)
      have e : (Str.ofString "").length = 0 := rfl
      rw [List.length_map] at a
      rw [e]
      omega
    · show Dt.str (Builtin.Str.glued _ _) = _
      rw [StrLaws.glued_eq_join]
      exact congrArg Dt.str (join_dig bs)
  unfold t_bits_text
  rcases hd with rfl | rfl
  · walk_at "w"
    refine lc_map bs bitD (fun b => .str ⟨#[sgn b]⟩) (sz_of hl rfl) (fun b hb m hm => ?_) key
    walk_at "w"
    refine c_strI (by cases b <;> decide) ⟨?_, Nat.le_refl _⟩
    exact congrArg Dt.str (str_bit b)
  · walk_at "w"
    refine lc_map bs bitD (fun b => .str ⟨#[sgn b]⟩) (sz_of hl rfl) (fun b hb m hm => ?_) key
    walk_at "w"
    refine c_strI (by cases b <;> decide) ⟨?_, Nat.le_refl _⟩
    exact congrArg Dt.str (str_bit b)
theorem tn_str {d : Dt} {t : Tn} (h : d.tn = some t) : (∃ z, d = .str z ∧ t = .str) ∨ (t.sub .str = false ∧ written d = none) := by
  cases d <;> cases h <;> first | exact .inl ⟨_, rfl, rfl⟩ | exact .inr ⟨rfl, rfl⟩
theorem sgn_in (s : Nat) : (decide (s ∈ ("01" : Str).cps.toList)) = (ofSgn s).isSome := by
  have e : ("01" : Str).cps.toList = [48, 49] := by decide +kernel
  rw [e]
  unfold ofSgn
  by_cases h0 : s = 48
  · subst h0; rfl
  · by_cases h1 : s = 49
    · subst h1; rfl
    · simp [h0, h1]
theorem dec_all : ∀ L : List Nat, (L.all fun s => (ofSgn s).isSome) = true → ∃ bs, L.mapM ofSgn = some bs ∧ L = bs.map sgn
  | [], _ => ⟨[], rfl, rfl⟩
  | s :: L, h => by
    rw [List.all_cons, Bool.and_eq_true] at h
    obtain ⟨bs, h1, h2⟩ := dec_all L h.2
    obtain ⟨b, hb⟩ := Option.isSome_iff_exists.mp h.1
    refine ⟨b :: bs, by simp [List.mapM_cons, hb, h1], ?_⟩
    rw [List.map_cons, ← h2]
    congr 1
    unfold ofSgn at hb
    split at hb
    · cases hb; assumption
    · split at hb
      · cases hb; assumption
      · cases hb
theorem dec_none : ∀ L : List Nat, (L.all fun s => (ofSgn s).isSome) = false → L.mapM ofSgn = none
  | s :: L, h => by
    rw [List.all_cons] at h
    cases hs : ofSgn s with
    | none => simp [List.mapM_cons, hs]
    | some b =>
      rw [hs] at h
      have h' : (L.all fun s => (ofSgn s).isSome) = false := h
      simp [List.mapM_cons, hs, dec_none L h']
theorem int_sgn (b : Bool) : PySem.intText? (⟨#[sgn b]⟩ : Str) = some (if b then 1 else 0) := by cases b <;> decide +kernel
theorem w_read_bits (c : Fc) (g : Glb P c.K c.mg) : ∀ ds n, (∀ cn es n', S_read_bits.exc ds cn es → n ≤ n' → c.xk cn es n') → S_read_bits.pre ds → Ws c (gam N_read_bits ds) (n + S_read_bits.cost) (t_read_bits c.K c.mg c.T c.E) (ndOf S_read_bits ds n) := by
  rintro ds n hx ⟨d, rfl, hp⟩
  obtain ⟨t, ht⟩ := ro_tn hp.1
  unfold t_read_bits
  walk_at "w"
  refine ex_tn ht ?_
  have out : written d = none → ∀ (M : Nd) m, n ≤ m → Ws c (gam N_read_bits [d]) m (tRaiseS (He.ga c.K "InvalidBits") "value" (fun cls d _ H => c.E cls d H) (tCons (tVar 0) tNil)) M := by
    intro hw M m hm
    refine w_raise g.m_InvalidBits ?_
    walk_at "w"
    exact ⟨d, rfl, hx _ _ _ ⟨d, rfl, hw, rfl, rfl⟩ hm⟩
  rcases tn_str ht with ⟨z, rfl, rfl⟩ | ⟨h1, h2⟩
  · have hz := good_str hp
    have hw : written (.str z) = if z.length = 0 then none else z.cps.toList.mapM ofSgn := rfl
    walk_at "w"
    refine r_eqC rfl ?_
    walk_at "w"
    refine ite_b (fun he => ?_) fun he => ?_
    · walk_at "w"
      have e : z = "" := of_decide_eq_true he
      refine out ?_ _ _ (Nat.le_refl _)
      rw [hw, e]
      rfl
    · walk_at "w"
      refine lc_map _ _ (fun s => .bl ((ofSgn s).isSome)) (sz_of (m := 10000) (by rw [Array.length_toList]; exact hz.1) rfl) (fun s hs m hm => ?_) fun m hm => ?_
      · walk_at "w"
        refine r_inS ⟨?_, Nat.le_refl _⟩
        show Dt.bl (decide _) = _
        rw [sgn_in]
      · walk_at "w"
        rw [show (z.cps.toList.map fun s => Dt.bl (ofSgn s).isSome) = (z.cps.toList.map fun s => (ofSgn s).isSome).map Dt.bl by rw [List.map_map]; rfl]
        refine c_all ?_
        rw [List.all_map]
        walk_at "w"
        have hne : ¬ z.length = 0 := fun q => by
          have e : z = "" := by
            apply Str.ext'
            apply Array.toList_inj.mp
            have : z.cps.toList.length = 0 := by rw [Array.length_toList]; exact q
            rw [List.length_eq_zero_iff.mp this]
            rfl
          rw [e] at he
          exact absurd he (by decide)
        refine ite_b (fun ha => ?_) fun ha => ?_
        · walk_at "w"
          refine out ?_ _ _ hm
          rw [hw, if_neg hne]
          exact dec_none _ (by simpa using ha)
        · walk_at "w"
          obtain ⟨bs, b1, b2⟩ := dec_all z.cps.toList (by simpa using ha)
          rw [show signs z = bs.map fun b => .str ⟨#[sgn b]⟩ by unfold signs; rw [b2, List.map_map]; rfl]
          refine lc_map bs _ bitD (sz_of (m := 10000) (by have := hz.1; rw [← List.length_map (f := sgn), ← b2, Array.length_toList]; exact this) rfl) (fun b hb q hq => ?_) fun q hq => ?_
          · walk_at "w"
            exact c_intS (int_sgn b) (show (1 : Nat) ≤ 640 by decide) ⟨rfl, Nat.le_refl _⟩
          · walk_at "w"
            exact ⟨⟨_, bs, rfl, by rw [hw, if_neg hne]; exact b1, rfl⟩, by omega⟩
  · walk_at "w"
    refine ite_t (by rw [h1]; rfl) ?_
    walk_at "w"
    exact out h2 _ _ (Nat.le_refl _)
theorem any_sgn (s : Nat) : ([Dt.str "0", Dt.str "1"].any fun e => eqvD e (.str ⟨#[s]⟩)) = (ofSgn s).isSome := by
  show ((("0" : Str) == ⟨#[s]⟩) || ((("1" : Str) == ⟨#[s]⟩) || false)) = _
  have e0 : (("0" : Str) == ⟨#[s]⟩) = decide (s = 48) := by
    by_cases h : s = 48
    · subst h; decide +kernel
    · rw [decide_eq_false h]
      refine Bool.eq_false_iff.mpr fun q => h ?_
      have z : ("0" : Str) = ⟨#[s]⟩ := by simpa using q
      have z2 := congrArg (fun x : Str => x.cps.toList) z
      have z3 : [48] = [s] := z2
      exact (List.cons.inj z3).1.symm
  have e1 : (("1" : Str) == ⟨#[s]⟩) = decide (s = 49) := by
    by_cases h : s = 49
    · subst h; decide +kernel
    · rw [decide_eq_false h]
      refine Bool.eq_false_iff.mpr fun q => h ?_
      have z : ("1" : Str) = ⟨#[s]⟩ := by simpa using q
      have z2 := congrArg (fun x : Str => x.cps.toList) z
      have z3 : [49] = [s] := z2
      exact (List.cons.inj z3).1.symm
  rw [e0, e1]
  unfold ofSgn
  by_cases h0 : s = 48
  · subst h0; rfl
  · by_cases h1 : s = 49
    · subst h1; rfl
    · simp [h0, h1]
theorem fil_sgn (L : List Nat) : ((L.filter fun s => !(ofSgn s).isSome).map fun s => Dt.str ⟨#[s]⟩).isEmpty = L.all fun s => (ofSgn s).isSome := by
  rw [List.isEmpty_map]
  induction L with
  | nil => rfl
  | cons a L ih =>
    rw [List.filter_cons, List.all_cons]
    cases (ofSgn a).isSome
    · rfl
    · exact ih
theorem w__law_written (c : Fc) (g : Glb P c.K c.mg) : ∀ ds n, S__law_written.pre ds → Ws c (gam N__law_written ds) (n + S__law_written.cost) (t__law_written c.K c.mg c.T) (ndOf S__law_written ds n) := by
  refine b_fn1 fun d n hp => ?_
  obtain ⟨t, ht⟩ := ro_tn hp.1
  unfold t__law_written
  walk_at "w"
  refine ex_tn ht ?_
  rcases tn_str ht with ⟨z, rfl, rfl⟩ | ⟨h1, h2⟩
  · have hz := good_str hp
    have hw : written (.str z) = if z.length = 0 then none else z.cps.toList.mapM ofSgn := rfl
    walk_at "w"
    refine r_eqC rfl ?_
    walk_at "w"
    refine ite_b (fun he => ?_) fun he => ?_
    · walk_at "w"
      have e : z = "" := of_decide_eq_true he
      exact ⟨by rw [hw, e]; rfl, Nat.le_refl _⟩
    · have hne : ¬ z.length = 0 := fun q => by
        have e : z = "" := by
          apply Str.ext'
          apply Array.toList_inj.mp
          have : z.cps.toList.length = 0 := by rw [Array.length_toList]; exact q
          rw [List.length_eq_zero_iff.mp this]
          rfl
        rw [e] at he
        exact absurd he (by decide)
      walk_at "w"
      refine lc_mapF _ _ (fun s => .str ⟨#[s]⟩) (fun s => !(ofSgn s).isSome) (sz_of (m := 10000) (by rw [Array.length_toList]; exact hz.1) rfl) (fun s hs m hm => ?_) fun m hm => ?_
      · walk_at "w"
        refine r_inT rfl rfl ?_
        walk_at "w"
        refine ⟨?_, Nat.le_refl _, fun _ => ?_⟩
        · show (!_) = _
          rw [any_sgn]
        · walk_at "w"
          exact ⟨rfl, Nat.le_refl _⟩
      · walk_at "w"
        refine r_neNilD ?_
        rw [fil_sgn]
        walk_at "w"
        refine ite_b (fun ha => ?_) fun ha => ?_
        · walk_at "w"
          refine ⟨?_, hm⟩
          rw [hw, if_neg hne, dec_none _ (by simpa using ha)]
        · walk_at "w"
          obtain ⟨bs, b1, b2⟩ := dec_all z.cps.toList (by simpa using ha)
          rw [show signs z = bs.map fun b => .str ⟨#[sgn b]⟩ by unfold signs; rw [b2, List.map_map]; rfl]
          refine lc_map bs _ bitD (sz_of (m := 10000) (by have := hz.1; rw [← List.length_map (f := sgn), ← b2, Array.length_toList]; exact this) rfl) (fun b hb q hq => ?_) fun q hq => ?_
          · walk_at "w"
            refine w_index ?_
            walk_at "w"
            refine ⟨_, rfl, ?_⟩
            walk_at "w"
            cases b
            · exact ⟨0, _, rfl, rfl, rfl, by decide +kernel, fun m y hm => by omega, rfl, Nat.le_refl _⟩
            · refine ⟨1, _, rfl, rfl, rfl, by decide +kernel, fun m y hm hy => ?_, rfl, Nat.le_refl _⟩
              have e : m = 0 := by omega
              subst e
              cases hy
              decide +kernel
          · walk_at "w"
            refine ⟨?_, by omega⟩
            rw [hw, if_neg hne, b1]
  · walk_at "w"
    refine ite_t (by rw [h1]; rfl) ?_
    walk_at "w"
    exact ⟨by rw [h2], Nat.le_refl _⟩
theorem bits_of_all : ∀ {es : List Dt}, (∀ e ∈ es, ∃ b, e = bitD b) → ∃ bs : List Bool, es = bs.map bitD
  | [], _ => ⟨[], rfl⟩
  | e :: es, h => by
    obtain ⟨b, rfl⟩ := h e (by simp)
    obtain ⟨bs, rfl⟩ := bits_of_all (es := es) fun x hx => h x (by simp [hx])
    exact ⟨b :: bs, rfl⟩
theorem bit_of {i : Int} (h0 : 0 ≤ i) (h1 : i < 2) : ∃ b, Dt.int i = bitD b := by
  by_cases h : i = 0
  · subst h; exact ⟨false, rfl⟩
  · have e : i = 1 := by omega
    subst e; exact ⟨true, rfl⟩
theorem w__law_row (c : Fc) (g : Glb P c.K c.mg) : ∀ ds n, S__law_row.pre ds → Ws c (gam N__law_row ds) (n + S__law_row.cost) (t__law_row c.K c.mg c.T) (ndOf S__law_row ds n) := by
  refine b_fn2 fun a b n hp => ?_
  obtain ⟨rfl, rfl⟩ := hp
  unfold t__law_row
  walk_at "w"
  refine c_draw (by omega) (by omega) (by omega) fun i i0 i1 => ?_
  walk_at "w"
  refine c_fn2 (by omega) ⟨rfl, _, rfl, by simp, by simp⟩ fun e he => ?_
  have he : ∃ m : Int, e = .int m ∧ 0 ≤ m ∧ m ≤ 70 := by
    obtain ⟨ds, q, hd⟩ := he
    cases q
    simp only [List.mem_cons, List.mem_nil_iff, or_false] at hd
    rcases hd with rfl | rfl | rfl | rfl | rfl
    all_goals exact ⟨_, rfl, by omega, by omega⟩
  obtain ⟨m, rfl, m0, m1⟩ := he
  walk_at "w"
  refine lc_rel 1 (fun _ e => ∃ b, e = bitD b) (by rw [upTo_length]; omega) (sz_of (m := 70) (by rw [upTo_length]; omega) rfl) (fun d hd q hq => ?_) fun es q he hq => ?_
  · walk_at "w"
    refine c_draw (by omega) (by omega) (by omega) fun j j0 j1 => ?_
    exact ⟨bit_of j0 j1, by omega⟩
  · obtain ⟨bs, rfl⟩ := bits_of_all (he.all fun _ _ h => h)
    have hl := he.len
    rw [List.length_map, upTo_length] at hl
    rw [upTo_length] at hq
    exact ⟨⟨bs, by omega, rfl⟩, by omega⟩
def goodB (d : Dt) : Bool := d.ro 10 && decide (d.rw ≤ 10000)
theorem good_of {d : Dt} (h : goodB d = true) : good d := by
  obtain ⟨h1, h2⟩ := Bool.and_eq_true_iff.mp h
  have h2 := of_decide_eq_true h2
  refine ⟨h1, by omega, fun z e => ?_⟩
  subst e
  simp only [Dt.rw] at h2
  omega
theorem w__law_odd (c : Fc) (g : Glb P c.K c.mg) : ∀ ds n, S__law_odd.pre ds → Ws c (gam N__law_odd ds) (n + S__law_odd.cost) (t__law_odd c.K c.mg c.T) (ndOf S__law_odd ds n) := by
  refine b_fn1 fun a n hp => ?_
  subst hp
  unfold t__law_odd
  walk_at "w"
  refine c_fn2 (by omega) ⟨rfl, _, rfl, by decide, by decide⟩ fun e he => ?_
  obtain ⟨ds, q, hd⟩ := he
  cases q
  have q := List.all_eq_true.mp (show List.all _ (fun e => goodB e && goodB (.lst [e])) = true by decide +kernel) e hd
  rw [Bool.and_eq_true] at q
  exact ⟨⟨good_of q.1, good_of q.2⟩, by omega⟩
/-- what is heard of a thing -/
def heardD (d : Dt) : Dt := match written d with
  | none => .tup [.str "bits", .str d.sh]
  | some bs => .lst [.tup (bs.map bitD)]
mutual
theorem nes_good : ∀ (k : Nat) (d : Dt), d.ro k = true → d.ne = true
  | _, .non, _ => rfl
  | _, .bl _, _ => rfl
  | _, .int _, _ => rfl
  | _, .str _, _ => rfl
  | k + 1, .lst xs, h => by rw [Dt.ne]; exact ness_good k xs (by simpa [Dt.ro] using h)
  | k + 1, .tup xs, h => by rw [Dt.ne]; exact ness_good k xs (by simpa [Dt.ro] using h)
  | k + 1, .dic ks xs, h => by
    rw [Dt.ne]
    rw [Dt.ro, Bool.and_eq_true] at h
    exact ness_good k xs h.2
  | 0, .lst _, h => by simp [Dt.ro] at h
  | 0, .tup _, h => by simp [Dt.ro] at h
  | 0, .dic _ _, h => by simp [Dt.ro] at h
  | _, .err _ _ _, h => by simp [Dt.ro] at h
  | _, .obj _ _ _, h => by simp [Dt.ro] at h
  | _, .pen, _ => rfl
theorem ness_good : ∀ (k : Nat) (ds : List Dt), Dt.ros k ds = true → Dt.nes ds = true
  | _, [], _ => rfl
  | k, x :: xs, h => by
    rw [Dt.ros, Bool.and_eq_true] at h
    rw [Dt.nes, nes_good k x h.1, ness_good k xs h.2]
    rfl
end
theorem w_heard {c : Fc} {g : Glb P c.K c.mg} {d : Dt} (hd : good d) {kk : Kd} {m : Nat} (hw : written d = none) (h : ∀ m', m ≤ m' → kk (.tup [.str "bits", .str d.sh]) m') : xkH c (He.ga c.K "PathError") 1 3 (k__law_heard c.K c.mg) kk "InvalidBits" [("value", d)] m := by
  refine ⟨fun C hC => ?_, fun a C x hC => ?_⟩
  · rw [g.m_InvalidBits] at hC
    cases hC
    exact g.exm_InvalidBits_PathError
  · have hc := hC
    rw [g.m_InvalidBits] at hC
    cases hC
    unfold k__law_heard
    have hm2 : ∀ D, c.mg "InvalidBits" = some (.ref D) → D = He.ga c.K "InvalidBits" := fun D hD => by
      rw [g.m_InvalidBits] at hD
      cases hD
      rfl
    walk_at "w"
    refine ⟨_, _, _, true, rfl, fun D hD => ?_, ?_⟩
    · rw [hm2 D hD]
      exact ⟨g.ec_InvalidBits, g.kit_InvalidBits_InvalidBits⟩
    walk_at "w"
    refine ⟨_, _, _, false, rfl, fun D hD => ?_, ?_⟩
    · rw [hm2 D hD]
      exact ⟨g.ec_InvalidBits, g.kit_InvalidBits_InvalidName⟩
    walk_at "w"
    refine ⟨_, _, _, d, rfl, fun D hD => ?_, rfl, ?_⟩
    · rw [hm2 D hD]
      exact ⟨g.ec_InvalidBits, g.no_InvalidBits_value⟩
    walk_at "w"
    refine c_reprD g.sysM hd.1 (by decide) (by have := hd.2.1; omega) ?_
    walk_at "w"
    exact ⟨rfl, h _ (Nat.le_refl _)⟩
theorem w_hear1 {c : Fc} (g : Glb P c.K c.mg) {d : Dt} (hd : good d) {E : XK} {kk : Kd} {n : Nat} (h : ∀ m, n ≤ m → kk (heardD d) m) : RCD (lamC c E (He.ga c.K "PathError") 1 3 (k__law_heard c.K c.mg) kk) (fun vs H Q => spD c.K c.mg c.T S_read_bits vs H Q E) [d] n fun v m => kk (.lst [v]) m := by
  refine w_call (c := lamC c E (He.ga c.K "PathError") 1 3 (k__law_heard c.K c.mg) kk) (Nat.zero_le n) ⟨d, rfl, hd⟩ (fun e he => ?_) fun cn es he => ?_
  · obtain ⟨d', bs, q, hw, rfl⟩ := he
    cases q
    have := h n (Nat.le_refl n)
    rw [heardD, hw] at this
    exact this
  · obtain ⟨d', q, hw, rfl, rfl⟩ := he
    cases q
    refine w_heard (g := g) hd hw fun m' hm => ?_
    have := h m' hm
    rw [heardD, hw] at this
    exact this
theorem bits_ro (k : Nat) : ∀ bs : List Bool, Dt.ros k (bs.map bitD) = true
  | [] => by simp [Dt.ros]
  | b :: bs => by
    rw [List.map_cons, Dt.ros, bits_ro k bs, Bool.and_true]
    cases b <;> simp [bitD, Dt.ro] <;> decide
theorem bits_rw : ∀ bs : List Bool, Dt.rws (bs.map bitD) = 1923 * bs.length
  | [] => by simp [Dt.rws]
  | b :: bs => by
    rw [List.map_cons, Dt.rws, bits_rw bs, List.length_cons]
    cases b <;> simp [bitD, Dt.rw] <;> omega
theorem mapM_len {f : Nat → Option Bool} : ∀ (L : List Nat) (bs : List Bool), L.mapM f = some bs → bs.length = L.length
  | [], bs, h => by simp at h; subst h; rfl
  | x :: L, bs, h => by
    rw [List.mapM_cons] at h
    cases h1 : f x with
    | none => simp [h1] at h
    | some b =>
      cases h2 : L.mapM f with
      | none => simp [h1, h2] at h
      | some cs =>
        simp [h1, h2] at h
        subst h
        simp [mapM_len L cs h2]
theorem written_len {d : Dt} {bs : List Bool} (hd : good d) (h : written d = some bs) : bs.length ≤ 1000 := by
  cases d with
  | str z =>
    have hz := hd.2.2 z rfl
    simp only [written] at h
    split at h
    · cases h
    · rw [mapM_len _ _ h, Array.length_toList]; exact hz
  | _ => cases h
theorem heard_ro {d : Dt} (hd : good d) : (heardD d).ro 4 = true ∧ (heardD d).rw ≤ 4000000 := by
  rw [heardD]
  split
  · have := sh_ok hd.1
    have h2 := hd.2.1
    refine ⟨?_, ?_⟩
    · simp only [Dt.ro, Dt.ros, okCb_of this.2, Bool.and_true]
      decide +kernel
    · simp only [Dt.rw, Dt.rws]
      have e : ("bits" : Str).length = 4 := by decide +kernel
      rw [e]
      omega
  · rename_i bs hw
    have := written_len hd hw
    refine ⟨?_, ?_⟩
    · simp only [Dt.ro, Dt.ros, bits_ro, Bool.and_true]
    · simp only [Dt.rw, Dt.rws, bits_rw]
      omega
theorem ne__law_thing_right : ∀ ds, S__law_thing_right.pre ds → Dt.nes ds = true := fun ds h => by
  obtain ⟨d, rfl, hd⟩ := h
  rw [Dt.nes, nes_good _ _ hd.1]
  rfl
theorem w__law_thing_right (c : Fc) (g : Glb P c.K c.mg) (her : c.er = none) : ∀ ds n, S__law_thing_right.pre ds → Ws c (gam N__law_thing_right ds) (n + S__law_thing_right.cost) (t__law_thing_right c.K c.mg c.T) (ndOf S__law_thing_right ds n) := by
  refine b_fn1 fun d n hp => ?_
  obtain ⟨t, ht⟩ := ro_tn hp.1
  unfold t__law_thing_right
  refine w_seq ?_
  walk_at "e"
  refine c_reprD g.sysM hp.1 (by decide) (by have := hp.2.1; omega) ?_
  refine w_seq ?_
  walk_at "e"
  refine c_fn1 (by omega) ⟨t, ht⟩ fun e he => ?_
  subst he
  walk_at "e"
  refine c_fn1 (by omega) ⟨t, ht⟩ fun e he => ?_
  subst he
  walk_at "e"
  refine c_fn1 (by omega) hp fun e he => ?_
  subst he
  walk_at "e"
  refine c_fn1 (by omega) hp fun e he => ?_
  subst he
  walk_at "e"
  refine w_seq ?_
  walk_at "e"
  refine c_reprD (j := 5) g.sysM rfl (by decide) (by simp only [Dt.rw, Dt.rws]; omega) ?_
  walk_at "e"
  refine c_fn1 (by omega) ⟨t, ht⟩ fun e he => ?_
  subst he
  walk_at "e"
  refine c_fn1 (by omega) hp fun e he => ?_
  subst he
  walk_at "e"
  refine c_reprD (j := 5) g.sysM rfl (by decide) (by show Dt.rw (.lst [.bl _, .bl _, .bl _, .bl _]) ≤ _; simp only [Dt.rw, Dt.rws]; omega) ?_
  walk_at "e"
  refine r_neC rfl ⟨_, rfl, ?_⟩
  refine ite_f (by show (!decide (_ = _)) = false; simp) ?_
  walk_at "e"
  refine w_seq ?_
  walk_at "e"
  refine c_fn1 (by omega) hp fun e he => ?_
  walk_at "e"
  refine w_seq ?_
  refine w_own (wn_lst ?_)
  refine wa_cons ?_
  refine w_lamL her (by decide) (by decide) fun E => ?_
  walk_at "e"
  refine w_hear1 g hp fun m hm => ?_
  walk_at "e"
  refine w_seq ?_
  refine w_append rfl rfl ?_
  refine w_lamL her (by decide) (by decide) fun E => ?_
  walk_at "e"
  refine w_hear1 g hp fun m hm => ?_
  refine w_rel (i := 4) rfl ?_
  walk_at "e"
  obtain ⟨r1, r2⟩ := heard_ro hp
  refine w_seq ?_
  walk_at "e"
  refine c_reprD (j := 5) g.sysM (by show Dt.ro 5 (.lst [heardD d, heardD d]) = true; simp only [Dt.ro, Dt.ros, r1, Bool.and_true]) (by decide) (by show Dt.rw (.lst [heardD d, heardD d]) ≤ _; simp only [Dt.rw, Dt.rws]; omega) ?_
  have hro : Dt.ro 5 (.lst [heardD d, heardD d]) = true := by simp only [Dt.ro, Dt.ros, r1, Bool.and_true]
  have hrw : Dt.rw (.lst [heardD d, heardD d]) ≤ 16777216 := by simp only [Dt.rw, Dt.rws]; omega
  cases hw : written d with
  | none =>
    have hh : heardD d = .tup [.str "bits", .str d.sh] := by rw [heardD, hw]
    rw [hw] at he
    subst he
    rw [hh] at hro hrw
    walk_at "e"
    refine r_isN rfl ?_
    walk_at "e"
    refine c_reprD g.sysM hp.1 (by decide) (by have := hp.2.1; omega) ?_
    walk_at "e"
    refine c_reprD (j := 5) g.sysM hro (by decide) hrw ?_
    refine r_neC rfl ⟨_, rfl, ?_⟩
    refine ite_f (by rw [hh]; show (!decide (_ = _)) = false; simp) ?_
    walk_at "e"
    refine c_reprD g.sysM hp.1 (by decide) (by have := hp.2.1; omega) ?_
    walk_at "e"
    refine r_eqC rfl ⟨?_, by omega⟩
    show Dt.bl (decide (_ = _)) = .bl true
    simp
  | some bs =>
    have hh : heardD d = .lst [.tup (bs.map bitD)] := by rw [heardD, hw]
    rw [hw] at he
    subst he
    rw [hh] at hro hrw
    walk_at "e"
    refine r_isN rfl ?_
    walk_at "e"
    refine c_reprD (j := 5) g.sysM hro (by decide) hrw ?_
    refine r_neC rfl ⟨_, rfl, ?_⟩
    refine ite_f (by rw [hh]; show (!decide (_ = _)) = false; simp) ?_
    walk_at "e"
    refine c_reprD g.sysM hp.1 (by decide) (by have := hp.2.1; omega) ?_
    walk_at "e"
    refine r_eqC rfl ⟨?_, by omega⟩
    show Dt.bl (decide (_ = _)) = .bl true
    simp
theorem bitD_inj {b b' : Bool} (h : bitD b = bitD b') : b = b' := by cases b <;> cases b' <;> first | rfl | (simp [bitD] at h)
theorem bits_inj : ∀ {bs bs' : List Bool}, bs.map bitD = bs'.map bitD → bs = bs'
  | [], [], _ => rfl
  | b :: bs, b' :: bs', h => by
    rw [List.map_cons, List.map_cons] at h
    injection h with h1 h2
    rw [bitD_inj h1, bits_inj h2]
theorem told_of {bs : List Bool} {d e : Dt} (hd : d = .lst (bs.map bitD) ∨ d = .tup (bs.map bitD)) (h : ∃ bs : List Bool, (d = .lst (bs.map bitD) ∨ d = .tup (bs.map bitD)) ∧ e = .str (dig bs)) : e = .str (dig bs) := by
  obtain ⟨bs', h1, rfl⟩ := h
  have : bs' = bs := by
    rcases hd with rfl | rfl
    · rcases h1 with h1 | h1
      · injection h1 with h1; exact (bits_inj h1).symm
      · cases h1
    · rcases h1 with h1 | h1
      · cases h1
      · injection h1 with h1; exact (bits_inj h1).symm
  rw [this]
theorem dig_len (bs : List Bool) : (dig bs).length = bs.length := by
  show (bs.map sgn).toArray.size = _
  rw [List.size_toArray, List.length_map]
theorem dig_ok (bs : List Bool) : okS bs.length (dig bs) := by
  refine ⟨by rw [dig_len]; exact Nat.le_refl _, fun s hs => ?_⟩
  have hs' : s ∈ bs.map sgn := hs
  obtain ⟨b, _, rfl⟩ := List.mem_map.mp hs'
  cases b <;> decide
theorem signs_dig (bs : List Bool) : signs (dig bs) = bs.map fun b => .str ⟨#[sgn b]⟩ := by
  unfold signs
  show ((bs.map sgn).map fun s => Dt.str ⟨#[s]⟩) = _
  rw [List.map_map]
  rfl
theorem bits_pl (k : Nat) (bs : List Bool) : (Dt.lst (bs.map bitD)).pl (k + 1) = true := pl_lst fun d hd => by
  obtain ⟨b, _, rfl⟩ := List.mem_map.mp hd
  simp [bitD, Dt.pl]
theorem cut_bits (bs : List Bool) (lo hi : Option Int) : cutG (bs.map bitD) lo hi = (cutG bs lo hi).map bitD := by
  unfold cutG
  rw [List.length_map, List.map_take, List.map_drop]
theorem cutG_len {α : Type} (xs : List α) (lo hi : Option Int) : (cutG xs lo hi).length ≤ xs.length := by
  unfold cutG
  rw [List.length_take, List.length_drop]
  omega
theorem ros_app (k : Nat) : ∀ (a b : List Dt), Dt.ros k (a ++ b) = (Dt.ros k a && Dt.ros k b)
  | [], b => by simp [Dt.ros]
  | x :: a, b => by rw [List.cons_append, Dt.ros, Dt.ros, ros_app k a b, Bool.and_assoc]
theorem rws_app : ∀ (a b : List Dt), Dt.rws (a ++ b) = Dt.rws a + Dt.rws b
  | [], b => by simp [Dt.rws]
  | x :: a, b => by rw [List.cons_append, Dt.rws, Dt.rws, rws_app a b]; omega
theorem good_strS {z : Str} (h : okS 1000 z) : good (.str z) := by
  refine ⟨?_, ?_, fun y hy => by cases hy; exact h.1⟩
  · simp only [Dt.ro]; exact okCb_of h.2
  · simp only [Dt.rw]; have := h.1; omega
theorem good_seqs {ds : List Dt} (h1 : Dt.ros 9 ds = true) (h2 : Dt.rws ds ≤ 299000) : good (.lst ds) ∧ good (.tup ds) := by
  refine ⟨⟨by simpa only [Dt.ro] using h1, by simp only [Dt.rw]; omega, fun y hy => by cases hy⟩, ⟨by simpa only [Dt.ro] using h1, by simp only [Dt.rw]; omega, fun y hy => by cases hy⟩⟩
def law_n : Nat := 1000
theorem most_ok : law_n ≤ penLine := by decide
theorem w_law (c : Fc) (g : Glb P c.K c.mg) (her : c.er = none) : Ws c (gam1 (N_law.length - 2)) law_n (r_law c.K c.mg c.T) { nx := fun _ _ => False, rt := fun d _ => d = .bl true } := by
  unfold r_law
  refine w_cut (fun Γ' _ => ∃ s2 s3 s4 s5 s6 s7 s8 s9 s10 s11 s12 : Sl, Γ' = [.un, .da .pen, s2, s3, s4, s5, s6, s7, s8, s9, s10, s11, s12]) ?_ ?_
  · walk_at "e"
    refine for_by 90 (fun _ Γ' => ∃ s2 s3 s4 s5 s6 s7 s8 s9 s10 s11 s12 : Sl, Γ' = [.un, .da .pen, s2, s3, s4, s5, s6, s7, s8, s9, s10, s11, s12]) (by decide) ⟨_, _, _, _, _, _, _, _, _, _, _, rfl⟩ ?_ ?_
    · rintro i Γ' m d hd ⟨s2, s3, s4, s5, s6, s7, s8, s9, s10, s11, s12, rfl⟩ hm _
      walk_at "w"
      refine c_fn2 (by omega) ⟨rfl, rfl⟩ fun e he => ?_
      obtain ⟨bs, hl, rfl⟩ := he
      walk_at "w"
      refine lc_map bs bitD (fun b => .str ⟨#[sgn b]⟩) (sz_of hl rfl) (fun b hb q hq => ?_) fun q hq => ?_
      · walk_at "w"
        refine r_ixS (s := sgn b) rfl (by cases b <;> decide +kernel) ⟨rfl, Nat.le_refl _⟩
      refine ⟨bs.map fun b => ⟨#[sgn b]⟩, by rw [List.map_map]; rfl, ?_, ?_⟩
      · have a := join_len (z := "") (ys := bs.map fun b => (⟨#[sgn b]⟩ : Str)) (b := 1) (fun y hy => by
          obtain ⟨b, _, rfl⟩ := List.mem_map.mp hy
          exact Nat.le_refl _)
        have e : (Str.ofString "").length = 0 := rfl
        rw [List.length_map] at a
        rw [e]
        omega
      have ej : Txt.join (Str.ofString "") (bs.map fun b => (⟨#[sgn b]⟩ : Str)) = dig bs := by
        show Builtin.Str.glued _ _ = _
        rw [StrLaws.glued_eq_join]
        exact join_dig bs
      rw [ej]
      have hz : szOk (dig bs).length = true := sz_of (m := 70) (by rw [dig_len]; exact hl) rfl
      walk_at "w"
      refine c_fn1 (Nat.zero_le _) ⟨bs, by omega, .inl rfl⟩ fun e he => ?_
      have he := told_of (.inl rfl) he
      subst he
      walk_at "w"
      refine c_fn1 (Nat.zero_le _) ⟨bs, by omega, .inr rfl⟩ fun e he => ?_
      have he := told_of (.inr rfl) he
      subst he
      walk_at "w"
      refine c_fn1 (Nat.zero_le _) ⟨bs, by omega, .inl rfl⟩ fun e he => ?_
      have he := told_of (.inl rfl) he
      subst he
      walk_at "w"
      have hpl : ∀ k, (Dt.lst [Dt.str (dig bs), .str (dig bs), .str (dig bs)]).pl (k + 1) = true := fun k => pl_lst fun d hd => by
        have e : d = .str (dig bs) := by simpa using hd
        rw [e]
        simpa [Dt.pl] using (dig_ok bs).strOk
      refine r_neP (hpl 19) (by show (Dt.lst [Dt.str (dig bs), .str (dig bs), .str (dig bs)]).pl _ = true; exact hpl 19) ?_
      refine ex_bl (ite_f ?_ ?_)
      · show (!(Dt.lst [Dt.str (dig bs), .str (dig bs), .str (dig bs)]).eqv (.lst [Dt.str (dig bs), .str (dig bs), .str (dig bs)])) = false
        rw [eqv_self 20 _ (hpl 19)]
        rfl
      walk_at "w"
      rw [signs_dig]
      refine lc_map bs _ bitD (sz_of hl rfl) (fun b hb q2 hq2 => ?_) fun q2 hq2 => ?_
      · walk_at "w"
        exact c_intS (int_sgn b) (show (1 : Nat) ≤ 640 by decide) ⟨rfl, Nat.le_refl _⟩
      refine r_neP (bits_pl 19 bs) (bits_pl 19 bs) ?_
      refine ex_bl (ite_f ?_ ?_)
      · rw [eqv_self 20 _ (bits_pl 19 bs)]
        rfl
      walk_at "w"
      refine c_draw (by omega) (by rw [dig_len]; omega) (by omega) fun spot sp0 sp1 => ?_
      walk_at "w"
      refine c_fn2 (by omega) ⟨rfl, _, rfl, by decide, by decide⟩ fun e he => ?_
      have hs : ∃ z, e = .str z ∧ okS 1 z := by
        obtain ⟨ds, q, hd⟩ := he
        cases q
        simp only [List.mem_cons, List.mem_nil_iff, or_false] at hd
        rcases hd with rfl | rfl | rfl | rfl | rfl | rfl | rfl | rfl <;> exact ⟨_, rfl, okS_of (by decide +kernel)⟩
      obtain ⟨z, rfl, hz1⟩ := hs
      have k1 := (dig_ok bs).cut none (some spot)
      have k2 := (dig_ok bs).cut (some spot) none
      have k3 := k1.app hz1
      have k4 := k3.app k2
      walk_at "w"
      refine r_addS (sz_of (m := 300) (by have := k1.1; have := hz1.1; omega) rfl) ?_
      walk_at "w"
      refine r_addS (sz_of (m := 300) (by have := k3.1; have := k2.1; omega) rfl) ?_
      walk_at "w"
      refine c_draw (by rw [List.length_map]; omega) (by rw [List.length_map]; omega) (by omega) fun part pt0 pt1 => ?_
      walk_at "w"
      refine c_fn2 (by omega) ⟨rfl, _, rfl, by decide, by decide⟩ fun x hx => ?_
      have hs : Dt.ros 8 [x] = true ∧ Dt.rws [x] ≤ 20000 := by
        obtain ⟨ds, q, hd⟩ := hx
        cases q
        simp only [List.mem_cons, List.mem_nil_iff, or_false] at hd
        rcases hd with rfl | rfl | rfl | rfl | rfl | rfl <;> exact ⟨by decide +kernel, by decide +kernel⟩
      have l1 := cutG_len bs none (some part)
      have l2 := cutG_len bs (some part) none
      walk_at "w"
      rw [cut_bits]
      refine r_addL (sz_of (m := 300) (by rw [List.length_map]; simp; omega) rfl) ?_
      walk_at "w"
      rw [cut_bits]
      refine r_addL (sz_of (m := 300) (by rw [List.length_append, List.length_map, List.length_map]; simp; omega) rfl) ?_
      have gm := good_seqs (ds := List.map bitD (cutG bs none (some part)) ++ [x] ++ List.map bitD (cutG bs (some part) none)) (by
        have hs9 : Dt.ros 9 [x] = true := by
          obtain ⟨ds, q, hd⟩ := hx
          cases q
          simp only [List.mem_cons, List.mem_nil_iff, or_false] at hd
          rcases hd with rfl | rfl | rfl | rfl | rfl | rfl <;> decide +kernel
        rw [ros_app, ros_app, bits_ro, bits_ro, hs9]
        rfl) (by rw [rws_app, rws_app, bits_rw, bits_rw]; omega)
      have gb := good_seqs (ds := List.map bitD bs) (bits_ro 9 bs) (by rw [bits_rw]; omega)
      walk_at "w"
      refine c_fn1 (by omega) rfl fun o1 ho1 => ?_
      walk_at "w"
      refine c_fn1 (by omega) rfl fun o2 ho2 => ?_
      walk_at "w"
      have hall : ∀ d ∈ [Dt.lst (List.map bitD bs), .tup (List.map bitD bs), .str (dig bs), .str (cutS (dig bs) none (some spot) ++ z ++ cutS (dig bs) (some spot) none), .lst (List.map bitD (cutG bs none (some part)) ++ [x] ++ List.map bitD (cutG bs (some part) none)), .tup (List.map bitD (cutG bs none (some part)) ++ [x] ++ List.map bitD (cutG bs (some part) none)), o1, .lst [o2]], good d := by
        intro d hd
        simp only [List.mem_cons, List.mem_nil_iff, or_false] at hd
        rcases hd with rfl | rfl | rfl | rfl | rfl | rfl | rfl | rfl
        · exact gb.1
        · exact gb.2
        · exact good_strS ((dig_ok bs).mono (by omega))
        · exact good_strS (k4.mono (by omega))
        · exact gm.1
        · exact gm.2
        · exact ho1.1
        · exact ho2.2
      refine for_by 0 (fun _ Γ' => ∃ s2 s3 s4 s5 s6 s7 s8 s9 s10 s11 s12 : Sl, Γ' = [.un, .da .pen, s2, s3, s4, s5, s6, s7, s8, s9, s10, s11, s12]) (by omega) ⟨_, _, _, _, _, _, _, _, _, _, _, rfl⟩ ?_ ?_
      · rintro i Γ' m th hth ⟨s2, s3, s4, s5, s6, s7, s8, s9, s10, s11, s12, rfl⟩ hm _
        have hok := hall th (List.mem_of_getElem? hth)
        walk_at "w"
        refine c_fn1 (Nat.zero_le _) hok fun e he => ?_
        subst he
        walk_at "w"
        exact ⟨⟨_, _, _, _, _, _, _, _, _, _, _, rfl⟩, by omega⟩
      · rintro Γ' m2 ⟨s2, s3, s4, s5, s6, s7, s8, s9, s10, s11, s12, rfl⟩ hm2
        exact ⟨⟨_, _, _, _, _, _, _, _, _, _, _, rfl⟩, by omega⟩
    · rintro Γ' m ⟨s2, s3, s4, s5, s6, s7, s8, s9, s10, s11, s12, rfl⟩ _
      exact ⟨_, _, _, _, _, _, _, _, _, _, _, rfl⟩
  · rintro Γ' m ⟨s2, s3, s4, s5, s6, s7, s8, s9, s10, s11, s12, rfl⟩
    walk_at "w"
    refine c_fn1 (Nat.zero_le _) ⟨[], by decide, .inr rfl⟩ fun e he => ?_
    have he := told_of (bs := []) (.inr rfl) he
    subst he
    walk_at "w"
    refine r_eqC rfl ?_
    walk_at "w"
    refine c_fn1 (Nat.zero_le _) ⟨[false, true, true], by decide, .inl rfl⟩ fun e he => ?_
    have he := told_of (bs := [false, true, true]) (.inl rfl) he
    subst he
    walk_at "w"
    refine r_eqC rfl ?_
    show Dt.bl _ = .bl true
    exact congrArg Dt.bl (by decide +kernel)
end
theorem len__law_draw : ∀ ds, S_draw.pre ds → ds.length = ["_law_pen_here", "_law_many"].length := l_draw
theorem len__law_pick : ∀ ds, S__law_pick.pre ds → ds.length = ["_law_pen_here", "_law_some"].length := l_fn2
theorem len__law_row : ∀ ds, S__law_row.pre ds → ds.length = ["_law_pen_here", "_law_most"].length := l_fn2
theorem len_bits_text : ∀ ds, S_bits_text.pre ds → ds.length = ["bits"].length := l_fn1
theorem len__law_odd : ∀ ds, S__law_odd.pre ds → ds.length = ["_law_pen_here"].length := l_fn1
theorem len_is_integer : ∀ ds, S_is_integer.pre ds → ds.length = ["value"].length := l_fn1
theorem len_is_between : ∀ ds, S_is_between.pre ds → ds.length = ["value", "least", "most"].length := l_fn3
theorem len_is_bit : ∀ ds, S_is_bit.pre ds → ds.length = ["value"].length := l_fn1
theorem len_is_bits : ∀ ds, S_is_bits.pre ds → ds.length = ["value"].length := l_fn1
theorem len__law_is_one : ∀ ds, S__law_is_one.pre ds → ds.length = ["_law_thing"].length := l_fn1
theorem len__law_is_row : ∀ ds, S__law_is_row.pre ds → ds.length = ["_law_thing"].length := l_fn1
theorem len__law_written : ∀ ds, S__law_written.pre ds → ds.length = ["_law_thing"].length := l_fn1
theorem len_read_bits : ∀ ds, S_read_bits.pre ds → ds.length = ["text"].length := by rintro ds ⟨_, rfl, _⟩; rfl
theorem len__law_thing_right : ∀ ds, S__law_thing_right.pre ds → ds.length = ["_law_thing"].length := l_fn1
def top (i : Nat) : Stmt := PySem.Challenge.pw_pathbits_k02_bits_and_their_digits.main.body.getD i (.Pass ⟨0, 0, 0, 0⟩)
abbrev s__law_pen : Stmt := top 13
theorem sc__law_pen : FnScope N__law_pen ["_law_script"] (defScope s__law_pen) := ⟨rfl, rfl, rfl, by decide +kernel, rfl, by decide +kernel, by decide +kernel⟩
abbrev s__law_draw : Stmt := top 14
theorem sc__law_draw : FnScope N__law_draw ["_law_pen_here", "_law_many"] (defScope s__law_draw) := ⟨rfl, rfl, rfl, by decide +kernel, rfl, by decide +kernel, by decide +kernel⟩
abbrev s__law_pick : Stmt := top 15
theorem sc__law_pick : FnScope N__law_pick ["_law_pen_here", "_law_some"] (defScope s__law_pick) := ⟨rfl, rfl, rfl, by decide +kernel, rfl, by decide +kernel, by decide +kernel⟩
abbrev s__law_row : Stmt := top 16
theorem sc__law_row : FnScope N__law_row ["_law_pen_here", "_law_most"] (defScope s__law_row) := ⟨rfl, rfl, rfl, by decide +kernel, rfl, by decide +kernel, by decide +kernel⟩
abbrev s_bits_text : Stmt := top 10
theorem sc_bits_text : FnScope N_bits_text ["bits"] (defScope s_bits_text) := ⟨rfl, rfl, rfl, by decide +kernel, rfl, by decide +kernel, by decide +kernel⟩
abbrev s__law_odd : Stmt := top 17
theorem sc__law_odd : FnScope N__law_odd ["_law_pen_here"] (defScope s__law_odd) := ⟨rfl, rfl, rfl, by decide +kernel, rfl, by decide +kernel, by decide +kernel⟩
abbrev s_is_integer : Stmt := top 6
theorem sc_is_integer : FnScope N_is_integer ["value"] (defScope s_is_integer) := ⟨rfl, rfl, rfl, by decide +kernel, rfl, by decide +kernel, by decide +kernel⟩
abbrev s_is_between : Stmt := top 7
theorem sc_is_between : FnScope N_is_between ["value", "least", "most"] (defScope s_is_between) := ⟨rfl, rfl, rfl, by decide +kernel, rfl, by decide +kernel, by decide +kernel⟩
abbrev s_is_bit : Stmt := top 8
theorem sc_is_bit : FnScope N_is_bit ["value"] (defScope s_is_bit) := ⟨rfl, rfl, rfl, by decide +kernel, rfl, by decide +kernel, by decide +kernel⟩
abbrev s_is_bits : Stmt := top 9
theorem sc_is_bits : FnScope N_is_bits ["value"] (defScope s_is_bits) := ⟨rfl, rfl, rfl, by decide +kernel, rfl, by decide +kernel, by decide +kernel⟩
abbrev s__law_is_one : Stmt := top 18
theorem sc__law_is_one : FnScope N__law_is_one ["_law_thing"] (defScope s__law_is_one) := ⟨rfl, rfl, rfl, by decide +kernel, rfl, by decide +kernel, by decide +kernel⟩
abbrev s__law_is_row : Stmt := top 19
theorem sc__law_is_row : FnScope N__law_is_row ["_law_thing"] (defScope s__law_is_row) := ⟨rfl, rfl, rfl, by decide +kernel, rfl, by decide +kernel, by decide +kernel⟩
abbrev s__law_written : Stmt := top 20
theorem sc__law_written : FnScope N__law_written ["_law_thing"] (defScope s__law_written) := ⟨rfl, rfl, rfl, by decide +kernel, rfl, by decide +kernel, by decide +kernel⟩
abbrev s__law_heard : Stmt := top 21
theorem sc__law_heard : FnScope N__law_heard ["_law_ask"] (defScope s__law_heard) := ⟨rfl, rfl, rfl, by decide +kernel, rfl, by decide +kernel, by decide +kernel⟩
abbrev s_read_bits : Stmt := top 11
theorem sc_read_bits : FnScope N_read_bits ["text"] (defScope s_read_bits) := ⟨rfl, rfl, rfl, by decide +kernel, rfl, by decide +kernel, by decide +kernel⟩
abbrev s__law_thing_right : Stmt := top 22
theorem sc__law_thing_right : FnScope N__law_thing_right ["_law_thing"] (defScope s__law_thing_right) := ⟨rfl, rfl, rfl, by decide +kernel, rfl, by decide +kernel, by decide +kernel⟩
abbrev s_law : Stmt := top 23
theorem sc_law : FnScope N_law ["_law_script"] (defScope s_law) := ⟨rfl, rfl, rfl, by decide +kernel, rfl, by decide +kernel, by decide +kernel⟩
def tabs (K : PySem.W.Frag) : List (Addr × Str) := [((He.cT K ("_law_thing_right", none)).2, ("_law_thing_right" : Str) ++ ".<locals>." ++ "<lambda>")]
section
variable {P : Program} {w : World} {K : PySem.W.Frag} {mg : Str → Option Value} {base : Heap} {f : Addr} {fd : FuncData}
theorem d__law_pen {cdv : Value} {A : Around} {outer : List Env} {s : Shared} {H : Hp} {E : XK} (g : Glb P K mg) (hr : RoomG false 0 (A.deeper (envOfC "_law_pen" (defScope s__law_pen) s.heap.objs.size f cdv)))  :
    PSs (cxOf CX0 P w K mg base N__law_pen "_law_pen" (defScope s__law_pen) f cdv A outer s H E).nox (defBody s__law_pen) (t_pen K) :=
  (pss_one (ps_ret (pe_lst (pa_cons (pe_callTy b_list rfl g.n_list (by decide +kernel) (pa_cons (pe_slice sl_any (pv 0) po_none (po_some pe_int)) pa_nil)) (pa_cons pe_int (pa_cons pe_int pa_nil))))))
theorem ok__law_pen (g : Glb P K mg) (F : Fd K "_law_pen" "_law_pen" s__law_pen f fd)  : FnG false P w K mg base CX0 1 f fd ["_law_script"] (spPen K (tabs K)) :=
  okG0 F sc__law_pen (fun vs H Q E h => by obtain ⟨_, _, rfl, _⟩ := h; rfl) fun cdv A outer s H vs Q E hr h => ⟨t_pen K, d__law_pen g hr , pen_made h⟩
theorem cal__law_pen (g : Glb P K mg) (hm : mg "_law_pen" = some (.ref f)) (F : Fd K "_law_pen" "_law_pen" s__law_pen f fd)  : Cal false P w K mg base CX0 1 s__law_pen "_law_pen" ["_law_script"] (spPen K (tabs K)) :=
  ⟨f, fd, hm, F, F.bindsN fun _ _ _ _ _ _ us hl => match us, hl with | [_], _ => rfl, ok__law_pen g F  ⟩
theorem d__law_draw {cdv : Value} {A : Around} {outer : List Env} {s : Shared} {H : Hp} {E : XK} (g : Glb P K mg) (hr : RoomG false 0 (A.deeper (envOfC "_law_draw" (defScope s__law_draw) s.heap.objs.size f cdv)))  :
    PSs (cxOf CX0 P w K mg base N__law_draw "_law_draw" (defScope s__law_draw) f cdv A outer s H E).nox (defBody s__law_draw) (t__law_draw K mg (tabs K)) :=
  (pss_cons (ps_if (pt_cmpR o_gt (pe_ix ix_seq (pv 0) pe_int (fun _ _ => rfl)) pe_int (nomark _)) (pss_cons (ps_set (i := 2) sc__law_draw.nd rfl (Or.inl rfl) (pe_op o_mod (pe_callTy b_int rfl g.n_int (by decide +kernel) (pa_cons (pe_ix ix_seq (pv 0) pe_int (fun _ _ => rfl)) pa_nil)) (pv 1)))
    (pss_cons (ps_asg (pe_op o_div (pe_callTy b_int rfl g.n_int (by decide +kernel) (pa_cons (pe_ix ix_seq (pv 0) pe_int (fun _ _ => rfl)) pa_nil)) (pv 1)) (pg_sub (pv 0) pe_int set_list))
    (pss_one (ps_ret (pv 2))))) pss_nil)
    (pss_cons (ps_set (i := 3) sc__law_draw.nd rfl (Or.inl rfl) (pe_ix ix_seq (pv 0) pe_int (fun _ _ => rfl)))
    (pss_cons (ps_asg (pe_op o_add (pv 3) pe_int) (pg_sub (pv 0) pe_int set_list))
    (pss_cons (ps_set (i := 4) sc__law_draw.nd rfl (Or.inl rfl) (pe_op o_add (pe_op o_mul pe_int (pv 3)) pe_int))
    (pss_cons (ps_if (pt_cmpR (o_ne hr.rm.units) (pe_ix ix_seq (pv 0) pe_int (fun _ _ => rfl)) (pe_lst pa_nil) (nomark _)) (pss_one (ps_set (i := 4) sc__law_draw.nd rfl (Or.inl rfl) (pe_ix ix_seq (pe_ix ix_seq (pv 0) pe_int (fun _ _ => rfl)) (pe_op o_mod (pe_callTy b_int rfl g.n_int (by decide +kernel) (pa_cons (pv 3) pa_nil)) (pe_callB b_len rfl g.n_len (by decide +kernel) (pa_cons (pe_ix ix_seq (pv 0) pe_int (fun _ _ => rfl)) pa_nil))) (fun _ _ => rfl)))) pss_nil)
    (pss_cons (ps_if (PW.pt (pw_and (pt_cmpR o_lt (pv 3) (pe_callB b_len rfl g.n_len (by decide +kernel) (pa_cons (pe_ix ix_seq (pv 0) pe_int (fun _ _ => rfl)) pa_nil)) (nomark _)) (pw_and1 (pt_cmpR o_ge (pe_callB b_abs rfl g.n_abs (by decide +kernel) (pa_cons (pv 4) pa_nil)) (pe_op o_pow pe_int pe_int) (nomark _))))) (pss_cons (ps_set (i := 5) sc__law_draw.nd rfl (Or.inl rfl) (pe_op o_add (pe_op o_mul pe_int (pe_callB b_abs rfl g.n_abs (by decide +kernel) (pa_cons (pv 4) pa_nil))) (pe_callTy b_int rfl g.n_int (by decide +kernel) (pa_cons (pe_cmpR o_lt (pv 4) pe_int (nomark _)) pa_nil))))
    (pss_cons (ps_asg (pe_op o_div (pe_callTy b_int rfl g.n_int (by decide +kernel) (pa_cons (pv 5) pa_nil)) (pv 1)) (pg_sub (pv 0) pe_int set_list))
    (pss_one (ps_ret (pe_op o_mod (pe_callTy b_int rfl g.n_int (by decide +kernel) (pa_cons (pv 5) pa_nil)) (pv 1)))))) pss_nil)
    (pss_cons (ps_set (i := 6) sc__law_draw.nd rfl (Or.inl rfl) (pe_op o_mod (pe_callTy b_int rfl g.n_int (by decide +kernel) (pa_cons (pe_op o_pow (pe_op o_add (pe_op o_add (pe_op o_mod (pe_callTy b_int rfl g.n_int (by decide +kernel) (pa_cons (pv 4) pa_nil)) pe_int) (pe_op o_mul pe_int (pv 3))) pe_int) pe_int) pa_nil)) pe_int))
    (pss_cons (ps_set (i := 6) sc__law_draw.nd rfl (Or.inl rfl) (pe_op o_mod (pe_callTy b_int rfl g.n_int (by decide +kernel) (pa_cons (pe_op o_pow (pe_op o_add (pe_op o_add (pe_op o_mul (pv 6) (pe_op o_add (pv 3) pe_int)) (pe_op o_mul (pe_op o_mul pe_int (pv 3)) (pv 3))) pe_int) pe_int) pa_nil)) pe_int))
    (pss_one (ps_ret (pe_op o_mod (pe_callTy b_int rfl g.n_int (by decide +kernel) (pa_cons (pe_op o_div (pv 6) pe_int) pa_nil)) (pv 1))))))))))))
theorem ok__law_draw (g : Glb P K mg) (F : Fd K "_law_draw" "_law_draw" s__law_draw f fd)  : FnG false P w K mg base CX0 1 f fd ["_law_pen_here", "_law_many"] (spD K mg (tabs K) S_draw) :=
  okD0 F sc__law_draw len__law_draw fun cdv A outer s H E hr => ⟨t__law_draw K mg (tabs K), d__law_draw g hr , fun c hK hm hT => by subst hK hm; rw [← hT]; exact w__law_draw c g⟩
theorem cal__law_draw (g : Glb P K mg) (hm : mg "_law_draw" = some (.ref f)) (F : Fd K "_law_draw" "_law_draw" s__law_draw f fd)  : Cal false P w K mg base CX0 1 s__law_draw "_law_draw" ["_law_pen_here", "_law_many"] (spD K mg (tabs K) S_draw) :=
  ⟨f, fd, hm, F, F.bindsN fun _ _ _ _ _ _ us hl => match us, hl with | [_, _], _ => rfl, ok__law_draw g F  ⟩
theorem d__law_pick {cdv : Value} {A : Around} {outer : List Env} {s : Shared} {H : Hp} {E : XK} (g : Glb P K mg) (hr : RoomG false 1 (A.deeper (envOfC "_law_pick" (defScope s__law_pick) s.heap.objs.size f cdv))) (c__law_draw : Cal false P w K mg base CX0 1 s__law_draw "_law_draw" ["_law_pen_here", "_law_many"] (spD K mg (tabs K) S_draw)) :
    PSs (cxOf CX0 P w K mg base N__law_pick "_law_pick" (defScope s__law_pick) f cdv A outer s H E).nox (defBody s__law_pick) (t__law_pick K mg (tabs K)) :=
  (pss_one (ps_ret (pe_ix ix_seq (pv 1) (pe_cal c__law_draw hr pass0 (pa_cons (pv 0) (pa_cons (pe_callB b_len rfl g.n_len (by decide +kernel) (pa_cons (pv 1) pa_nil)) pa_nil))) (fun _ _ => rfl))))
theorem ok__law_pick (g : Glb P K mg) (F : Fd K "_law_pick" "_law_pick" s__law_pick f fd) (c__law_draw : Cal false P w K mg base CX0 1 s__law_draw "_law_draw" ["_law_pen_here", "_law_many"] (spD K mg (tabs K) S_draw)) : FnG false P w K mg base CX0 2 f fd ["_law_pen_here", "_law_some"] (spD K mg (tabs K) S__law_pick) :=
  okD0 F sc__law_pick len__law_pick fun cdv A outer s H E hr => ⟨t__law_pick K mg (tabs K), d__law_pick g hr c__law_draw, fun c hK hm hT => by subst hK hm; rw [← hT]; exact w__law_pick c g⟩
theorem cal__law_pick (g : Glb P K mg) (hm : mg "_law_pick" = some (.ref f)) (F : Fd K "_law_pick" "_law_pick" s__law_pick f fd) (c__law_draw : Cal false P w K mg base CX0 1 s__law_draw "_law_draw" ["_law_pen_here", "_law_many"] (spD K mg (tabs K) S_draw)) : Cal false P w K mg base CX0 2 s__law_pick "_law_pick" ["_law_pen_here", "_law_some"] (spD K mg (tabs K) S__law_pick) :=
  ⟨f, fd, hm, F, F.bindsN fun _ _ _ _ _ _ us hl => match us, hl with | [_, _], _ => rfl, ok__law_pick g F  c__law_draw⟩
theorem d__law_row {cdv : Value} {A : Around} {outer : List Env} {s : Shared} {H : Hp} {E : XK} (g : Glb P K mg) (hr : RoomG false 2 (A.deeper (envOfC "_law_row" (defScope s__law_row) s.heap.objs.size f cdv))) (c__law_pick : Cal false P w K mg base CX0 2 s__law_pick "_law_pick" ["_law_pen_here", "_law_some"] (spD K mg (tabs K) S__law_pick)) (c__law_draw : Cal false P w K mg base CX0 1 s__law_draw "_law_draw" ["_law_pen_here", "_law_many"] (spD K mg (tabs K) S_draw)) :
    PSs (cxOf CX0 P w K mg base N__law_row "_law_row" (defScope s__law_row) f cdv A outer s H E).nox (defBody s__law_row) (t__law_row K mg (tabs K)) :=
  (pss_one (ps_ret (pe_lc (own := [("_law_k", 2)]) (g := (gName 2)) (tt := tYes) (te := (tCB (fun vs H Q => spD K mg (tabs K) S_draw vs H Q E0) (tCons (tVar 0) (tCons (tC (.int 2)) tNil)))) rfl sc__law_row.nd (pi_range1 rfl g.n_range (pa_cons (pe_cal c__law_pick hr pass0 (pa_cons (pv 0) (pa_cons (pe_lst (pa_cons pe_int (pa_cons pe_int (pa_cons pe_int (pa_cons (pe_cal c__law_draw hr pass0 (pa_cons (pv 0) (pa_cons (pe_op o_add (pv 1) pe_int) pa_nil))) (pa_cons (pv 1) pa_nil)))))) pa_nil))) pa_nil)) (blkOk_by (own := [("_law_k", 2)]) (N := N__law_row) (sc := defScope s__law_row) (by decide +kernel)) (fun _ _ _ _ _ => (pg_name (i := 2) sc__law_row.nd rfl (Or.inl rfl))) (fun _ _ _ _ _ => pts_nil) (fun _ _ _ _ _ => (pe_cal c__law_draw hr pass0 (pa_cons (pv 0) (pa_cons pe_int pa_nil)))))))
theorem ok__law_row (g : Glb P K mg) (F : Fd K "_law_row" "_law_row" s__law_row f fd) (c__law_pick : Cal false P w K mg base CX0 2 s__law_pick "_law_pick" ["_law_pen_here", "_law_some"] (spD K mg (tabs K) S__law_pick)) (c__law_draw : Cal false P w K mg base CX0 1 s__law_draw "_law_draw" ["_law_pen_here", "_law_many"] (spD K mg (tabs K) S_draw)) : FnG false P w K mg base CX0 3 f fd ["_law_pen_here", "_law_most"] (spD K mg (tabs K) S__law_row) :=
  okD0 F sc__law_row len__law_row fun cdv A outer s H E hr => ⟨t__law_row K mg (tabs K), d__law_row g hr c__law_pick c__law_draw, fun c hK hm hT => by subst hK hm; rw [← hT]; exact w__law_row c g⟩
theorem cal__law_row (g : Glb P K mg) (hm : mg "_law_row" = some (.ref f)) (F : Fd K "_law_row" "_law_row" s__law_row f fd) (c__law_pick : Cal false P w K mg base CX0 2 s__law_pick "_law_pick" ["_law_pen_here", "_law_some"] (spD K mg (tabs K) S__law_pick)) (c__law_draw : Cal false P w K mg base CX0 1 s__law_draw "_law_draw" ["_law_pen_here", "_law_many"] (spD K mg (tabs K) S_draw)) : Cal false P w K mg base CX0 3 s__law_row "_law_row" ["_law_pen_here", "_law_most"] (spD K mg (tabs K) S__law_row) :=
  ⟨f, fd, hm, F, F.bindsN fun _ _ _ _ _ _ us hl => match us, hl with | [_, _], _ => rfl, ok__law_row g F  c__law_pick c__law_draw⟩
theorem d_bits_text {cdv : Value} {A : Around} {outer : List Env} {s : Shared} {H : Hp} {E : XK} (g : Glb P K mg) (hr : RoomG false 0 (A.deeper (envOfC "bits_text" (defScope s_bits_text) s.heap.objs.size f cdv)))  :
    PSs (cxOf CX0 P w K mg base N_bits_text "bits_text" (defScope s_bits_text) f cdv A outer s H E).nox (defBody s_bits_text) (t_bits_text K mg (tabs K)) :=
  (pss_one (ps_ret (pe_join pe_str (pe_lc (own := [("bit", 1)]) (g := (gName 1)) (tt := tYes) (te := (tCB rStr (tCons (tVar 1) tNil))) rfl sc_bits_text.nd (pi_sq (pv 0)) (blkOk_by (own := [("bit", 1)]) (N := N_bits_text) (sc := defScope s_bits_text) (by decide +kernel)) (fun _ _ _ _ _ => (pg_name (i := 1) sc_bits_text.nd rfl (Or.inl rfl))) (fun _ _ _ _ _ => pts_nil) (fun _ _ _ _ _ => (pe_callTy b_str rfl g.n_str (by decide +kernel) (pa_cons (pv 1) pa_nil)))))))
theorem ok_bits_text (g : Glb P K mg) (F : Fd K "bits_text" "bits_text" s_bits_text f fd)  : FnG false P w K mg base CX0 1 f fd ["bits"] (spD K mg (tabs K) S_bits_text) :=
  okD0 F sc_bits_text len_bits_text fun cdv A outer s H E hr => ⟨t_bits_text K mg (tabs K), d_bits_text g hr , fun c hK hm hT => by subst hK hm; rw [← hT]; exact w_bits_text c g⟩
theorem cal_bits_text (g : Glb P K mg) (hm : mg "bits_text" = some (.ref f)) (F : Fd K "bits_text" "bits_text" s_bits_text f fd)  : Cal false P w K mg base CX0 1 s_bits_text "bits_text" ["bits"] (spD K mg (tabs K) S_bits_text) :=
  ⟨f, fd, hm, F, F.bindsN fun _ _ _ _ _ _ us hl => match us, hl with | [_], _ => rfl, ok_bits_text g F  ⟩
theorem d__law_odd {cdv : Value} {A : Around} {outer : List Env} {s : Shared} {H : Hp} {E : XK} (g : Glb P K mg) (hr : RoomG false 2 (A.deeper (envOfC "_law_odd" (defScope s__law_odd) s.heap.objs.size f cdv))) (c__law_pick : Cal false P w K mg base CX0 2 s__law_pick "_law_pick" ["_law_pen_here", "_law_some"] (spD K mg (tabs K) S__law_pick)) :
    PSs (cxOf CX0 P w K mg base N__law_odd "_law_odd" (defScope s__law_odd) f cdv A outer s H E).nox (defBody s__law_odd) (t__law_odd K mg (tabs K)) :=
  (pss_cons (ps_set (i := 1) sc__law_odd.nd rfl (Or.inl rfl) (pe_lst (pa_cons pe_non (pa_cons pe_bl (pa_cons pe_bl (pa_cons pe_int (pa_cons pe_int (pa_cons pe_int (pa_cons (pe_un un_neg pe_int) (pa_cons (pe_op o_pow pe_int pe_int) (pa_cons pe_str (pa_cons pe_str (pa_cons pe_str (pa_cons pe_str (pa_cons pe_str (pa_cons pe_str (pa_cons pe_str (pa_cons pe_str (pa_cons pe_str (pa_cons pe_str (pa_cons pe_str pa_nil)))))))))))))))))))))
    (pss_cons (ps_set (i := 1) sc__law_odd.nd rfl (Or.inl rfl) (pe_op o_add (pv 1) (pe_lst (pa_cons (pe_tup pa_nil) (pa_cons (pe_lst pa_nil) (pa_cons pe_dnewK (pa_cons (pe_disp (pps_cons pe_int pe_int pps_nil) (by rfl) (by rfl) (fun z => by cases z) (by decide)) (pa_cons (pe_tup (pa_cons pe_bl pa_nil)) (pa_cons (pe_lst (pa_cons pe_int (pa_cons pe_bl pa_nil))) (pa_cons (pe_tup (pa_cons pe_int (pa_cons pe_int pa_nil))) (pa_cons (pe_lst (pa_cons pe_int (pa_cons (pe_un un_neg pe_int) pa_nil))) (pa_cons (pe_tup (pa_cons pe_int (pa_cons pe_non pa_nil))) (pa_cons (pe_tup (pa_cons (pe_tup (pa_cons pe_int pa_nil)) pa_nil)) (pa_cons (pe_lst (pa_cons pe_str pa_nil)) (pa_cons (pe_lst (pa_cons (pe_lst (pa_cons pe_int pa_nil)) pa_nil)) (pa_cons (pe_tup (pa_cons pe_int (pa_cons pe_int pa_nil))) pa_nil))))))))))))))))
    (pss_one (ps_ret (pe_cal c__law_pick hr pass0 (pa_cons (pv 0) (pa_cons (pv 1) pa_nil)))))))
theorem ok__law_odd (g : Glb P K mg) (F : Fd K "_law_odd" "_law_odd" s__law_odd f fd) (c__law_pick : Cal false P w K mg base CX0 2 s__law_pick "_law_pick" ["_law_pen_here", "_law_some"] (spD K mg (tabs K) S__law_pick)) : FnG false P w K mg base CX0 3 f fd ["_law_pen_here"] (spD K mg (tabs K) S__law_odd) :=
  okD0 F sc__law_odd len__law_odd fun cdv A outer s H E hr => ⟨t__law_odd K mg (tabs K), d__law_odd g hr c__law_pick, fun c hK hm hT => by subst hK hm; rw [← hT]; exact w__law_odd c g⟩
theorem cal__law_odd (g : Glb P K mg) (hm : mg "_law_odd" = some (.ref f)) (F : Fd K "_law_odd" "_law_odd" s__law_odd f fd) (c__law_pick : Cal false P w K mg base CX0 2 s__law_pick "_law_pick" ["_law_pen_here", "_law_some"] (spD K mg (tabs K) S__law_pick)) : Cal false P w K mg base CX0 3 s__law_odd "_law_odd" ["_law_pen_here"] (spD K mg (tabs K) S__law_odd) :=
  ⟨f, fd, hm, F, F.bindsN fun _ _ _ _ _ _ us hl => match us, hl with | [_], _ => rfl, ok__law_odd g F  c__law_pick⟩
theorem d_is_integer {cdv : Value} {A : Around} {outer : List Env} {s : Shared} {H : Hp} {E : XK} (g : Glb P K mg) (hr : RoomG false 0 (A.deeper (envOfC "is_integer" (defScope s_is_integer) s.heap.objs.size f cdv)))  :
    PSs (cxOf CX0 P w K mg base N_is_integer "is_integer" (defScope s_is_integer) f cdv A outer s H E).nox (defBody s_is_integer) (t_is_integer K mg (tabs K)) :=
  (pss_one (ps_ret (pe_andT (pe_callB call_isi rfl g.n_isinstance (by decide +kernel) (pa_cons (pv 0) (pa_cons (pe_bltn rfl g.n_int (by decide +kernel) rfl) pa_nil))) (pe_one (pe_notT (pe_callB call_isi rfl g.n_isinstance (by decide +kernel) (pa_cons (pv 0) (pa_cons (pe_bltn rfl g.n_bool (by decide +kernel) rfl) pa_nil))))))))
theorem ok_is_integer (g : Glb P K mg) (F : Fd K "is_integer" "is_integer" s_is_integer f fd)  : FnG false P w K mg base CX0 1 f fd ["value"] (spD K mg (tabs K) S_is_integer) :=
  okD0 F sc_is_integer len_is_integer fun cdv A outer s H E hr => ⟨t_is_integer K mg (tabs K), d_is_integer g hr , fun c hK hm hT => by subst hK hm; rw [← hT]; exact w_is_integer c g⟩
theorem cal_is_integer (g : Glb P K mg) (hm : mg "is_integer" = some (.ref f)) (F : Fd K "is_integer" "is_integer" s_is_integer f fd)  : Cal false P w K mg base CX0 1 s_is_integer "is_integer" ["value"] (spD K mg (tabs K) S_is_integer) :=
  ⟨f, fd, hm, F, F.bindsN fun _ _ _ _ _ _ us hl => match us, hl with | [_], _ => rfl, ok_is_integer g F  ⟩
theorem d_is_between {cdv : Value} {A : Around} {outer : List Env} {s : Shared} {H : Hp} {E : XK} (g : Glb P K mg) (hr : RoomG false 1 (A.deeper (envOfC "is_between" (defScope s_is_between) s.heap.objs.size f cdv))) (c_is_integer : Cal false P w K mg base CX0 1 s_is_integer "is_integer" ["value"] (spD K mg (tabs K) S_is_integer)) :
    PSs (cxOf CX0 P w K mg base N_is_between "is_between" (defScope s_is_between) f cdv A outer s H E).nox (defBody s_is_between) (t_is_between K mg (tabs K)) :=
  (pss_one (ps_ret (pe_andT (pe_cal c_is_integer hr pass0 (pa_cons (pv 0) pa_nil)) (pe_one (pe_chain o_le o_le (pv 1) (pv 0) (pv 2))))))
theorem ok_is_between (g : Glb P K mg) (F : Fd K "is_between" "is_between" s_is_between f fd) (c_is_integer : Cal false P w K mg base CX0 1 s_is_integer "is_integer" ["value"] (spD K mg (tabs K) S_is_integer)) : FnG false P w K mg base CX0 2 f fd ["value", "least", "most"] (spD K mg (tabs K) S_is_between) :=
  okD0 F sc_is_between len_is_between fun cdv A outer s H E hr => ⟨t_is_between K mg (tabs K), d_is_between g hr c_is_integer, fun c hK hm hT => by subst hK hm; rw [← hT]; exact w_is_between c g⟩
theorem cal_is_between (g : Glb P K mg) (hm : mg "is_between" = some (.ref f)) (F : Fd K "is_between" "is_between" s_is_between f fd) (c_is_integer : Cal false P w K mg base CX0 1 s_is_integer "is_integer" ["value"] (spD K mg (tabs K) S_is_integer)) : Cal false P w K mg base CX0 2 s_is_between "is_between" ["value", "least", "most"] (spD K mg (tabs K) S_is_between) :=
  ⟨f, fd, hm, F, F.bindsN fun _ _ _ _ _ _ us hl => match us, hl with | [_, _, _], _ => rfl, ok_is_between g F  c_is_integer⟩
theorem d_is_bit {cdv : Value} {A : Around} {outer : List Env} {s : Shared} {H : Hp} {E : XK} (g : Glb P K mg) (hr : RoomG false 2 (A.deeper (envOfC "is_bit" (defScope s_is_bit) s.heap.objs.size f cdv))) (c_is_between : Cal false P w K mg base CX0 2 s_is_between "is_between" ["value", "least", "most"] (spD K mg (tabs K) S_is_between)) :
    PSs (cxOf CX0 P w K mg base N_is_bit "is_bit" (defScope s_is_bit) f cdv A outer s H E).nox (defBody s_is_bit) (t_is_bit K mg (tabs K)) :=
  (pss_one (ps_ret (pe_cal c_is_between hr pass0 (pa_cons (pv 0) (pa_cons pe_int (pa_cons pe_int pa_nil))))))
theorem ok_is_bit (g : Glb P K mg) (F : Fd K "is_bit" "is_bit" s_is_bit f fd) (c_is_between : Cal false P w K mg base CX0 2 s_is_between "is_between" ["value", "least", "most"] (spD K mg (tabs K) S_is_between)) : FnG false P w K mg base CX0 3 f fd ["value"] (spD K mg (tabs K) S_is_bit) :=
  okD0 F sc_is_bit len_is_bit fun cdv A outer s H E hr => ⟨t_is_bit K mg (tabs K), d_is_bit g hr c_is_between, fun c hK hm hT => by subst hK hm; rw [← hT]; exact w_is_bit c g⟩
theorem cal_is_bit (g : Glb P K mg) (hm : mg "is_bit" = some (.ref f)) (F : Fd K "is_bit" "is_bit" s_is_bit f fd) (c_is_between : Cal false P w K mg base CX0 2 s_is_between "is_between" ["value", "least", "most"] (spD K mg (tabs K) S_is_between)) : Cal false P w K mg base CX0 3 s_is_bit "is_bit" ["value"] (spD K mg (tabs K) S_is_bit) :=
  ⟨f, fd, hm, F, F.bindsN fun _ _ _ _ _ _ us hl => match us, hl with | [_], _ => rfl, ok_is_bit g F  c_is_between⟩
theorem d_is_bits {cdv : Value} {A : Around} {outer : List Env} {s : Shared} {H : Hp} {E : XK} (g : Glb P K mg) (hr : RoomG false 3 (A.deeper (envOfC "is_bits" (defScope s_is_bits) s.heap.objs.size f cdv))) (c_is_bit : Cal false P w K mg base CX0 3 s_is_bit "is_bit" ["value"] (spD K mg (tabs K) S_is_bit)) :
    PSs (cxOf CX0 P w K mg base N_is_bits "is_bits" (defScope s_is_bits) f cdv A outer s H E).nox (defBody s_is_bits) (t_is_bits K mg (tabs K)) :=
  (pss_one (ps_ret (pe_andT (pe_callB call_isiT rfl g.n_isinstance (by decide +kernel) (pa_cons (pv 0) (pa_cons (pe_tup (pa_cons (pe_bltn rfl g.n_tuple (by decide +kernel) rfl) (pa_cons (pe_bltn rfl g.n_list (by decide +kernel) rfl) pa_nil))) pa_nil))) (pe_one (pe_callB (b_all rfl) rfl g.n_all (by decide +kernel) (pa_cons (pe_lc (own := [("bit", 1)]) (g := (gName 1)) (tt := tYes) (te := (tCB (fun vs H Q => spD K mg (tabs K) S_is_bit vs H Q E0) (tCons (tVar 1) tNil))) rfl sc_is_bits.nd (pi_sq (pv 0)) (blkOk_by (own := [("bit", 1)]) (N := N_is_bits) (sc := defScope s_is_bits) (by decide +kernel)) (fun _ _ _ _ _ => (pg_name (i := 1) sc_is_bits.nd rfl (Or.inl rfl))) (fun _ _ _ _ _ => pts_nil) (fun _ _ _ _ _ => (pe_cal c_is_bit hr pass0 (pa_cons (pv 1) pa_nil)))) pa_nil))))))
theorem ok_is_bits (g : Glb P K mg) (F : Fd K "is_bits" "is_bits" s_is_bits f fd) (c_is_bit : Cal false P w K mg base CX0 3 s_is_bit "is_bit" ["value"] (spD K mg (tabs K) S_is_bit)) : FnG false P w K mg base CX0 4 f fd ["value"] (spD K mg (tabs K) S_is_bits) :=
  okD0 F sc_is_bits len_is_bits fun cdv A outer s H E hr => ⟨t_is_bits K mg (tabs K), d_is_bits g hr c_is_bit, fun c hK hm hT => by subst hK hm; rw [← hT]; exact w_is_bits c g⟩
theorem cal_is_bits (g : Glb P K mg) (hm : mg "is_bits" = some (.ref f)) (F : Fd K "is_bits" "is_bits" s_is_bits f fd) (c_is_bit : Cal false P w K mg base CX0 3 s_is_bit "is_bit" ["value"] (spD K mg (tabs K) S_is_bit)) : Cal false P w K mg base CX0 4 s_is_bits "is_bits" ["value"] (spD K mg (tabs K) S_is_bits) :=
  ⟨f, fd, hm, F, F.bindsN fun _ _ _ _ _ _ us hl => match us, hl with | [_], _ => rfl, ok_is_bits g F  c_is_bit⟩
theorem d__law_is_one {cdv : Value} {A : Around} {outer : List Env} {s : Shared} {H : Hp} {E : XK} (g : Glb P K mg) (hr : RoomG false 0 (A.deeper (envOfC "_law_is_one" (defScope s__law_is_one) s.heap.objs.size f cdv)))  :
    PSs (cxOf CX0 P w K mg base N__law_is_one "_law_is_one" (defScope s__law_is_one) f cdv A outer s H E).nox (defBody s__law_is_one) (t__law_is_one K mg (tabs K)) :=
  (pss_one (ps_ret (pe_andT (pe_callB call_isi rfl g.n_isinstance (by decide +kernel) (pa_cons (pv 0) (pa_cons (pe_bltn rfl g.n_int (by decide +kernel) rfl) pa_nil))) (pe_andT (pe_notT (pe_callB call_isi rfl g.n_isinstance (by decide +kernel) (pa_cons (pv 0) (pa_cons (pe_bltn rfl g.n_bool (by decide +kernel) rfl) pa_nil)))) (pe_one (pe_cmpR o_in (pv 0) (pe_tup (pa_cons pe_int (pa_cons pe_int pa_nil))) (by rfl)))))))
theorem ok__law_is_one (g : Glb P K mg) (F : Fd K "_law_is_one" "_law_is_one" s__law_is_one f fd)  : FnG false P w K mg base CX0 1 f fd ["_law_thing"] (spD K mg (tabs K) S__law_is_one) :=
  okD0 F sc__law_is_one len__law_is_one fun cdv A outer s H E hr => ⟨t__law_is_one K mg (tabs K), d__law_is_one g hr , fun c hK hm hT => by subst hK hm; rw [← hT]; exact w__law_is_one c g⟩
theorem cal__law_is_one (g : Glb P K mg) (hm : mg "_law_is_one" = some (.ref f)) (F : Fd K "_law_is_one" "_law_is_one" s__law_is_one f fd)  : Cal false P w K mg base CX0 1 s__law_is_one "_law_is_one" ["_law_thing"] (spD K mg (tabs K) S__law_is_one) :=
  ⟨f, fd, hm, F, F.bindsN fun _ _ _ _ _ _ us hl => match us, hl with | [_], _ => rfl, ok__law_is_one g F  ⟩
theorem d__law_is_row {cdv : Value} {A : Around} {outer : List Env} {s : Shared} {H : Hp} {E : XK} (g : Glb P K mg) (hr : RoomG false 1 (A.deeper (envOfC "_law_is_row" (defScope s__law_is_row) s.heap.objs.size f cdv))) (c__law_is_one : Cal false P w K mg base CX0 1 s__law_is_one "_law_is_one" ["_law_thing"] (spD K mg (tabs K) S__law_is_one)) :
    PSs (cxOf CX0 P w K mg base N__law_is_row "_law_is_row" (defScope s__law_is_row) f cdv A outer s H E).nox (defBody s__law_is_row) (t__law_is_row K mg (tabs K)) :=
  (pss_cons (ps_if (pt_not (pt_tr (pe_callB call_isiT rfl g.n_isinstance (by decide +kernel) (pa_cons (pv 0) (pa_cons (pe_tup (pa_cons (pe_bltn rfl g.n_tuple (by decide +kernel) rfl) (pa_cons (pe_bltn rfl g.n_list (by decide +kernel) rfl) pa_nil))) pa_nil))))) (pss_one (ps_ret pe_bl)) pss_nil)
    (pss_one (ps_ret (pe_cmpR (o_eq hr.rm.units) (pe_lc (own := [("_law_one", 1)]) (g := (gName 1)) (tt := (tNot (tTr K (tCB (fun vs H Q => spD K mg (tabs K) S__law_is_one vs H Q E0) (tCons (tVar 1) tNil))))) (te := (tVar 1)) rfl sc__law_is_row.nd (pi_sq (pv 0)) (blkOk_by (own := [("_law_one", 1)]) (N := N__law_is_row) (sc := defScope s__law_is_row) (by decide +kernel)) (fun _ _ _ _ _ => (pg_name (i := 1) sc__law_is_row.nd rfl (Or.inl rfl))) (fun _ _ _ _ _ => pts_one (pt_not (pt_tr (pe_cal c__law_is_one hr pass0 (pa_cons (pv 1) pa_nil))))) (fun _ _ _ _ _ => (pv 1))) (pe_lst pa_nil) (nomark _)))))
theorem ok__law_is_row (g : Glb P K mg) (F : Fd K "_law_is_row" "_law_is_row" s__law_is_row f fd) (c__law_is_one : Cal false P w K mg base CX0 1 s__law_is_one "_law_is_one" ["_law_thing"] (spD K mg (tabs K) S__law_is_one)) : FnG false P w K mg base CX0 2 f fd ["_law_thing"] (spD K mg (tabs K) S__law_is_row) :=
  okD0 F sc__law_is_row len__law_is_row fun cdv A outer s H E hr => ⟨t__law_is_row K mg (tabs K), d__law_is_row g hr c__law_is_one, fun c hK hm hT => by subst hK hm; rw [← hT]; exact w__law_is_row c g⟩
theorem cal__law_is_row (g : Glb P K mg) (hm : mg "_law_is_row" = some (.ref f)) (F : Fd K "_law_is_row" "_law_is_row" s__law_is_row f fd) (c__law_is_one : Cal false P w K mg base CX0 1 s__law_is_one "_law_is_one" ["_law_thing"] (spD K mg (tabs K) S__law_is_one)) : Cal false P w K mg base CX0 2 s__law_is_row "_law_is_row" ["_law_thing"] (spD K mg (tabs K) S__law_is_row) :=
  ⟨f, fd, hm, F, F.bindsN fun _ _ _ _ _ _ us hl => match us, hl with | [_], _ => rfl, ok__law_is_row g F  c__law_is_one⟩
theorem d__law_written {cdv : Value} {A : Around} {outer : List Env} {s : Shared} {H : Hp} {E : XK} (g : Glb P K mg) (hr : RoomG false 0 (A.deeper (envOfC "_law_written" (defScope s__law_written) s.heap.objs.size f cdv)))  :
    PSs (cxOf CX0 P w K mg base N__law_written "_law_written" (defScope s__law_written) f cdv A outer s H E).nox (defBody s__law_written) (t__law_written K mg (tabs K)) :=
  (pss_cons (ps_if (PW.pt (pw_or (pt_not (pt_tr (pe_callB call_isi rfl g.n_isinstance (by decide +kernel) (pa_cons (pv 0) (pa_cons (pe_bltn rfl g.n_str (by decide +kernel) rfl) pa_nil))))) (pw_or (pt_cmpR (o_eq hr.rm.units) (pv 0) pe_str (nomark _)) (pw_or1 (pt_cmpR (o_ne hr.rm.units) (pe_lc (own := [("_law_sign", 1)]) (g := (gName 1)) (tt := (tTest (tOp (rInX K true) (tVar 1) (tTup (tCons (tC (.str ("0" : Str))) (tCons (tC (.str ("1" : Str))) tNil)))))) (te := (tVar 1)) rfl sc__law_written.nd (pi_sq (pv 0)) (blkOk_by (own := [("_law_sign", 1)]) (N := N__law_written) (sc := defScope s__law_written) (by decide +kernel)) (fun _ _ _ _ _ => (pg_name (i := 1) sc__law_written.nd rfl (Or.inl rfl))) (fun _ _ _ _ _ => pts_one (pt_cmpR o_notIn (pv 1) (pe_tup (pa_cons pe_str (pa_cons pe_str pa_nil))) (by rfl))) (fun _ _ _ _ _ => (pv 1))) (pe_lst pa_nil) (nomark _)))))) (pss_one (ps_ret pe_non)) pss_nil)
    (pss_one (ps_ret (pe_callTy b_tuple rfl g.n_tuple (by decide +kernel) (pa_cons (pe_lc (own := [("_law_sign", 1)]) (g := (gName 1)) (tt := tYes) (te := (tBM K "list" (rIndex K) (tLst (tCons (tC (.str ("0" : Str))) (tCons (tC (.str ("1" : Str))) tNil))) (tCons (tVar 1) tNil))) rfl sc__law_written.nd (pi_sq (pv 0)) (blkOk_by (own := [("_law_sign", 1)]) (N := N__law_written) (sc := defScope s__law_written) (by decide +kernel)) (fun _ _ _ _ _ => (pg_name (i := 1) sc__law_written.nd rfl (Or.inl rfl))) (fun _ _ _ _ _ => pts_nil) (fun _ _ _ _ _ => (pe_bm PySem.F.plainAttrs_list PySem.F.slot_list_index PySem.F.type_list_index mt_index (pe_lst (pa_cons pe_str (pa_cons pe_str pa_nil))) (pa_cons (pv 1) pa_nil)))) pa_nil)))))
theorem ok__law_written (g : Glb P K mg) (F : Fd K "_law_written" "_law_written" s__law_written f fd)  : FnG false P w K mg base CX0 1 f fd ["_law_thing"] (spD K mg (tabs K) S__law_written) :=
  okD0 F sc__law_written len__law_written fun cdv A outer s H E hr => ⟨t__law_written K mg (tabs K), d__law_written g hr , fun c hK hm hT => by subst hK hm; rw [← hT]; exact w__law_written c g⟩
theorem cal__law_written (g : Glb P K mg) (hm : mg "_law_written" = some (.ref f)) (F : Fd K "_law_written" "_law_written" s__law_written f fd)  : Cal false P w K mg base CX0 1 s__law_written "_law_written" ["_law_thing"] (spD K mg (tabs K) S__law_written) :=
  ⟨f, fd, hm, F, F.bindsN fun _ _ _ _ _ _ us hl => match us, hl with | [_], _ => rfl, ok__law_written g F  ⟩
theorem hear__law_heard {X : Cx} {cdg : Value} {q : Str} (g : Glb X.prog X.K X.mg) (hr0 : RoomG true 1 X.A) : LamX.GivesTo X N__law_heard "_law_heard" (defScope s__law_heard) f cdg (defBody s__law_heard) "_law_ask" q (TTh X.K (He.ga X.K "PathError") 2 1 3 (k__law_heard X.K X.mg) wrL) :=
  heard_gives sc__law_heard.nd rfl rfl (by decide) (by decide) rfl rfl rfl g.m_PathError (by decide) (by decide) (by decide) (fun s H => ps_set (i := 1) sc__law_heard.nd rfl (Or.inl rfl) pe_non) (fun _ _ => rfl) (fun s H pn xe te h => pe_lst (pa_cons (h _ _) pa_nil)) (fun te te2 σ H Q h z => h _ z)
    (fun s H a oe cls d hz hf => by
      have hr := hr0.deeper (envOfC "_law_heard" (defScope s__law_heard) s.heap.objs.size f cdg)
      exact (pss_cons (ps_if (PW.pt (pw_and (pt_tr (pe_callB (call_isHV hz hf) rfl g.n_isinstance (by decide +kernel) (pa_cons (pv 1) (pa_cons (pe_glob rfl g.m_InvalidBits rfl) pa_nil)))) (pw_and1 (pt_not (pt_tr (pe_callB (call_isHV hz hf) rfl g.n_isinstance (by decide +kernel) (pa_cons (pv 1) (pa_cons (pe_glob rfl g.m_InvalidName rfl) pa_nil)))))))) (pss_one (ps_ret (pe_tup (pa_cons pe_str (pa_cons (pe_callB (b_repr hr) rfl g.n_repr (by decide +kernel) (pa_cons (pe_hvf hz hf (pv 1)) pa_nil)) pa_nil))))) pss_nil)
    (pss_one (ps_ret pe_str))))
theorem d_read_bits {cdv : Value} {A : Around} {outer : List Env} {s : Shared} {H : Hp} {E : XK} (g : Glb P K mg) (hr : RoomG false 0 (A.deeper (envOfC "read_bits" (defScope s_read_bits) s.heap.objs.size f cdv)))  :
    PSs (cxOf (L2.CX P w) P w K mg base N_read_bits "read_bits" (defScope s_read_bits) f cdv A outer s H E) (defBody s_read_bits) (t_read_bits K mg (tabs K) E) :=
  (pss_cons (ps_if (PW.pt (pw_or (pt_not (pt_tr (pe_callB call_isi rfl g.n_isinstance (by decide +kernel) (pa_cons (pv 0) (pa_cons (pe_bltn rfl g.n_str (by decide +kernel) rfl) pa_nil))))) (pw_or (pt_cmpR (o_eq hr.rm.units) (pv 0) pe_str (nomark _)) (pw_or1 (pt_not (pt_tr (pe_callB (b_all rfl) rfl g.n_all (by decide +kernel) (pa_cons (pe_lc (own := [("sign", 1)]) (g := (gName 1)) (tt := tYes) (te := (tOp (rInX K false) (tVar 1) (tC (.str ("01" : Str))))) rfl sc_read_bits.nd (pi_sq (pv 0)) (blkOk_by (own := [("sign", 1)]) (N := N_read_bits) (sc := defScope s_read_bits) (by decide +kernel)) (fun _ _ _ _ _ => (pg_name (i := 1) sc_read_bits.nd rfl (Or.inl rfl))) (fun _ _ _ _ _ => pts_nil) (fun _ _ _ _ _ => (pe_cmpR o_in (pv 1) (C8.pe_gc rfl g.c_DIGITS) (by rfl)))) pa_nil)))))))) (pss_one (ps_raiseS rfl g.sup_InvalidBits g.m_InvalidBits hr.rm (takes_of rfl rfl rfl rfl) (pa_cons (pv 0) pa_nil))) pss_nil)
    (pss_one (ps_ret (pe_callTy b_tuple rfl g.n_tuple (by decide +kernel) (pa_cons (pe_lc (own := [("sign", 1)]) (g := (gName 1)) (tt := tYes) (te := (tCB rInt (tCons (tVar 1) tNil))) rfl sc_read_bits.nd (pi_sq (pv 0)) (blkOk_by (own := [("sign", 1)]) (N := N_read_bits) (sc := defScope s_read_bits) (by decide +kernel)) (fun _ _ _ _ _ => (pg_name (i := 1) sc_read_bits.nd rfl (Or.inl rfl))) (fun _ _ _ _ _ => pts_nil) (fun _ _ _ _ _ => (pe_callTy b_int rfl g.n_int (by decide +kernel) (pa_cons (pv 1) pa_nil)))) pa_nil)))))
theorem ok_read_bits (g : Glb P K mg) (F : Fd K "read_bits" "read_bits" s_read_bits f fd)  : FnG false P w K mg base (L2.CX P w) 1 f fd ["text"] (spD K mg (tabs K) S_read_bits) :=
  okDX F sc_read_bits len_read_bits fun cdv A outer s H E hr => ⟨t_read_bits K mg (tabs K) E, d_read_bits g hr , fun c ds n hK hm hT hE hx hp => by subst hK hm hE; rw [← hT]; exact w_read_bits c g ds n hx hp⟩
theorem cal_read_bits (g : Glb P K mg) (hm : mg "read_bits" = some (.ref f)) (F : Fd K "read_bits" "read_bits" s_read_bits f fd)  : Cal false P w K mg base (L2.CX P w) 1 s_read_bits "read_bits" ["text"] (spD K mg (tabs K) S_read_bits) :=
  ⟨f, fd, hm, F, F.bindsN fun _ _ _ _ _ _ us hl => match us, hl with | [_], _ => rfl, ok_read_bits g F  ⟩
theorem d__law_thing_right {cdv : Value} {A : Around} {outer : List Env} {s : Shared} {H : Hp} {E : XK} (g : Glb P K mg) (hr : RoomG true 7 (A.deeper (envOfC "_law_thing_right" (defScope s__law_thing_right) s.heap.objs.size f cdv))) {fh : Addr} {fdh : FuncData} (F__law_heard : Fd K "_law_heard" "_law_heard" s__law_heard fh fdh) (m__law_heard : mg "_law_heard" = some (.ref fh)) (b__law_heard : Binds K fdh ["_law_ask"] []) (TB : LamX.TabB base mg (He.cT K ("_law_thing_right", none)).1 (He.cT K ("_law_thing_right", none)).2) (hcode : cdv = .ref (He.cT K ("_law_thing_right", none)).1) (c_is_bits : Cal false P w K mg base CX0 4 s_is_bits "is_bits" ["value"] (spD K mg (tabs K) S_is_bits)) (c_is_bit : Cal false P w K mg base CX0 3 s_is_bit "is_bit" ["value"] (spD K mg (tabs K) S_is_bit)) (c__law_is_one : Cal false P w K mg base CX0 1 s__law_is_one "_law_is_one" ["_law_thing"] (spD K mg (tabs K) S__law_is_one)) (c__law_is_row : Cal false P w K mg base CX0 2 s__law_is_row "_law_is_row" ["_law_thing"] (spD K mg (tabs K) S__law_is_row)) (c__law_written : Cal false P w K mg base CX0 1 s__law_written "_law_written" ["_law_thing"] (spD K mg (tabs K) S__law_written)) (c_read_bits : Cal false P w K mg base (L2.CX P w) 1 s_read_bits "read_bits" ["text"] (spD K mg (tabs K) S_read_bits)) :
    PSs (cxOf CX0 P w K mg base N__law_thing_right "_law_thing_right" (defScope s__law_thing_right) f cdv A outer s H E).nox (defBody s__law_thing_right) (t__law_thing_right K mg (tabs K)) :=
  (pss_cons (ps_set (i := 1) sc__law_thing_right.nd rfl (Or.inl rfl) (pe_callB (b_repr hr) rfl g.n_repr (by decide +kernel) (pa_cons (pv 0) pa_nil)))
    (pss_cons (ps_set (i := 2) sc__law_thing_right.nd rfl (Or.inl rfl) (pe_lst (pa_cons (pe_cal c_is_bit hr pass0 (pa_cons (pv 0) pa_nil)) (pa_cons (pe_calK0 (g := gApp) (ks := ["value"]) c_is_bit hr pass0 (fun _ _ _ _ _ _ us ws h1 h2 => match us, ws, h1, h2 with | [], [_], _, _ => rfl) rel_app (pk_cons (pv 0) pk_nil)) (pa_cons (pe_cal c_is_bits hr pass0 (pa_cons (pv 0) pa_nil)) (pa_cons (pe_calK0 (g := gApp) (ks := ["value"]) c_is_bits hr pass0 (fun _ _ _ _ _ _ us ws h1 h2 => match us, ws, h1, h2 with | [], [_], _, _ => rfl) rel_app (pk_cons (pv 0) pk_nil)) pa_nil))))))
    (pss_cons (ps_if (pt_cmpR (o_ne hr.rm.units) (pe_callB (b_repr hr) rfl g.n_repr (by decide +kernel) (pa_cons (pv 2) pa_nil)) (pe_callB (b_repr hr) rfl g.n_repr (by decide +kernel) (pa_cons (pe_op o_add (pe_op o_mul (pe_lst (pa_cons (pe_cal c__law_is_one hr pass0 (pa_cons (pv 0) pa_nil)) pa_nil)) pe_int) (pe_op o_mul (pe_lst (pa_cons (pe_cal c__law_is_row hr pass0 (pa_cons (pv 0) pa_nil)) pa_nil)) pe_int)) pa_nil)) (nomark _)) (pss_one (ps_ret pe_bl)) pss_nil)
    (pss_cons (ps_set (i := 3) sc__law_thing_right.nd rfl (Or.inl rfl) (pe_cal c__law_written hr pass0 (pa_cons (pv 0) pa_nil)))
    (pss_cons (ps_set (i := 4) sc__law_thing_right.nd rfl (Or.inl rfl) (pe_lst (pa_cons (pe_hear (k := 3) F__law_heard m__law_heard b__law_heard sc__law_heard rfl (Or.inl rfl) (fun cdg => hear__law_heard g (hr.mono (by decide))) TB hcode (List.mem_cons_self ..) one_tab (hr.rm.mono (by decide)) (LamX.lamS_by (sc := defScope s__law_thing_right) (by decide +kernel)) (fun A outer s H E f c' hr => (pe_cal c_read_bits (roomG_of hr) (passE (takes_of rfl rfl rfl rfl)) (pa_cons (pv 0) pa_nil)))) pa_nil)))
    (pss_cons (ps_expr (pe_bm PySem.F.plainAttrs_list PySem.F.slot_list_append PySem.F.type_list_append mt_append (pv 4) (pa_cons (pe_hear (k := 3) F__law_heard m__law_heard b__law_heard sc__law_heard rfl (Or.inl rfl) (fun cdg => hear__law_heard g (hr.mono (by decide))) TB hcode (List.mem_cons_self ..) one_tab (hr.rm.mono (by decide)) (LamX.lamS_by (sc := defScope s__law_thing_right) (by decide +kernel)) (fun A outer s H E f c' hr => (pe_calK0 (g := gApp) (ks := ["text"]) c_read_bits (roomG_of hr) (passE (takes_of rfl rfl rfl rfl)) (fun _ _ _ _ _ _ us ws h1 h2 => match us, ws, h1, h2 with | [], [_], _, _ => rfl) rel_app (pk_cons (pv 0) pk_nil)))) pa_nil)))
    (pss_cons (ps_if (pt_cmpR (o_ne hr.rm.units) (pe_callB (b_repr hr) rfl g.n_repr (by decide +kernel) (pa_cons (pv 4) pa_nil)) (pe_callB (b_repr hr) rfl g.n_repr (by decide +kernel) (pa_cons (pe_op o_mul (pe_lst (pa_cons (pe_ifExp (pt_cmpR o_is (pv 3) pe_non (nomark _)) (pe_tup (pa_cons pe_str (pa_cons (pe_callB (b_repr hr) rfl g.n_repr (by decide +kernel) (pa_cons (pv 0) pa_nil)) pa_nil))) (pe_lst (pa_cons (pv 3) pa_nil))) pa_nil)) pe_int) pa_nil)) (nomark _)) (pss_one (ps_ret pe_bl)) pss_nil)
    (pss_one (ps_ret (pe_cmpR (o_eq hr.rm.units) (pe_callB (b_repr hr) rfl g.n_repr (by decide +kernel) (pa_cons (pv 0) pa_nil)) (pv 1) (nomark _)))))))))))
theorem ok__law_thing_right (g : Glb P K mg) (F : Fd K "_law_thing_right" "_law_thing_right" s__law_thing_right f fd) {fh : Addr} {fdh : FuncData} (F__law_heard : Fd K "_law_heard" "_law_heard" s__law_heard fh fdh) (m__law_heard : mg "_law_heard" = some (.ref fh)) (b__law_heard : Binds K fdh ["_law_ask"] []) (TB : LamX.TabB base mg (He.cT K ("_law_thing_right", none)).1 (He.cT K ("_law_thing_right", none)).2) (hf : He.fAd K ("_law_thing_right", none) = f) (c_is_bits : Cal false P w K mg base CX0 4 s_is_bits "is_bits" ["value"] (spD K mg (tabs K) S_is_bits)) (c_is_bit : Cal false P w K mg base CX0 3 s_is_bit "is_bit" ["value"] (spD K mg (tabs K) S_is_bit)) (c__law_is_one : Cal false P w K mg base CX0 1 s__law_is_one "_law_is_one" ["_law_thing"] (spD K mg (tabs K) S__law_is_one)) (c__law_is_row : Cal false P w K mg base CX0 2 s__law_is_row "_law_is_row" ["_law_thing"] (spD K mg (tabs K) S__law_is_row)) (c__law_written : Cal false P w K mg base CX0 1 s__law_written "_law_written" ["_law_thing"] (spD K mg (tabs K) S__law_written)) (c_read_bits : Cal false P w K mg base (L2.CX P w) 1 s_read_bits "read_bits" ["text"] (spD K mg (tabs K) S_read_bits)) : FnG true P w K mg base CX0 8 f fd ["_law_thing"] (spD K mg (tabs K) S__law_thing_right) :=
  okD0m F sc__law_thing_right len__law_thing_right ne__law_thing_right fun A outer s H E hr => ⟨t__law_thing_right K mg (tabs K), d__law_thing_right g hr F__law_heard m__law_heard b__law_heard TB (maker_code F (p := ("_law_thing_right", none)) hf) c_is_bits c_is_bit c__law_is_one c__law_is_row c__law_written c_read_bits, fun c hK hm hT her => by subst hK hm; rw [← hT]; exact w__law_thing_right c g her⟩
theorem cal__law_thing_right (g : Glb P K mg) (hm : mg "_law_thing_right" = some (.ref f)) (F : Fd K "_law_thing_right" "_law_thing_right" s__law_thing_right f fd) {fh : Addr} {fdh : FuncData} (F__law_heard : Fd K "_law_heard" "_law_heard" s__law_heard fh fdh) (m__law_heard : mg "_law_heard" = some (.ref fh)) (b__law_heard : Binds K fdh ["_law_ask"] []) (TB : LamX.TabB base mg (He.cT K ("_law_thing_right", none)).1 (He.cT K ("_law_thing_right", none)).2) (hf : He.fAd K ("_law_thing_right", none) = f) (c_is_bits : Cal false P w K mg base CX0 4 s_is_bits "is_bits" ["value"] (spD K mg (tabs K) S_is_bits)) (c_is_bit : Cal false P w K mg base CX0 3 s_is_bit "is_bit" ["value"] (spD K mg (tabs K) S_is_bit)) (c__law_is_one : Cal false P w K mg base CX0 1 s__law_is_one "_law_is_one" ["_law_thing"] (spD K mg (tabs K) S__law_is_one)) (c__law_is_row : Cal false P w K mg base CX0 2 s__law_is_row "_law_is_row" ["_law_thing"] (spD K mg (tabs K) S__law_is_row)) (c__law_written : Cal false P w K mg base CX0 1 s__law_written "_law_written" ["_law_thing"] (spD K mg (tabs K) S__law_written)) (c_read_bits : Cal false P w K mg base (L2.CX P w) 1 s_read_bits "read_bits" ["text"] (spD K mg (tabs K) S_read_bits)) : Cal true P w K mg base CX0 8 s__law_thing_right "_law_thing_right" ["_law_thing"] (spD K mg (tabs K) S__law_thing_right) :=
  ⟨f, fd, hm, F, F.bindsN fun _ _ _ _ _ _ us hl => match us, hl with | [_], _ => rfl, ok__law_thing_right g F F__law_heard m__law_heard b__law_heard TB hf c_is_bits c_is_bit c__law_is_one c__law_is_row c__law_written c_read_bits⟩
theorem d_law {cdv : Value} {A : Around} {outer : List Env} {s : Shared} {H : Hp} {E : XK} (g : Glb P K mg) (hr : RoomG true 8 (A.deeper (envOfC "law" (defScope s_law) s.heap.objs.size f cdv))) (c__law_pen : Cal false P w K mg base CX0 1 s__law_pen "_law_pen" ["_law_script"] (spPen K (tabs K))) (c__law_row : Cal false P w K mg base CX0 3 s__law_row "_law_row" ["_law_pen_here", "_law_most"] (spD K mg (tabs K) S__law_row)) (c_bits_text : Cal false P w K mg base CX0 1 s_bits_text "bits_text" ["bits"] (spD K mg (tabs K) S_bits_text)) (c__law_draw : Cal false P w K mg base CX0 1 s__law_draw "_law_draw" ["_law_pen_here", "_law_many"] (spD K mg (tabs K) S_draw)) (c__law_pick : Cal false P w K mg base CX0 2 s__law_pick "_law_pick" ["_law_pen_here", "_law_some"] (spD K mg (tabs K) S__law_pick)) (c__law_odd : Cal false P w K mg base CX0 3 s__law_odd "_law_odd" ["_law_pen_here"] (spD K mg (tabs K) S__law_odd)) (c__law_thing_right : Cal true P w K mg base CX0 8 s__law_thing_right "_law_thing_right" ["_law_thing"] (spD K mg (tabs K) S__law_thing_right)) :
    PSs (cxOf CX0 P w K mg base N_law "law" (defScope s_law) f cdv A outer s H E).nox (defBody s_law) (t_law K mg (tabs K)) :=
  (pss_cons (ps_set (i := 1) sc_law.nd rfl (Or.inl rfl) (pe_cal c__law_pen hr pass0 (pa_cons (pv 0) pa_nil)))
    (pss_cons (ps_for PassesOwn.never rfl (pi_range1 rfl g.n_range (pa_cons pe_int pa_nil)) (pg_name (i := 2) sc_law.nd rfl (Or.inl rfl)) (pss_cons (ps_set (i := 3) sc_law.nd rfl (Or.inl rfl) (pe_cal c__law_row hr pass0 (pa_cons (pv 1) (pa_cons pe_int pa_nil))))
    (pss_cons (ps_set (i := 4) sc_law.nd rfl (Or.inl rfl) (pe_join pe_str (pe_lc (own := [("_law_one", 5)]) (g := (gName 5)) (tt := tYes) (te := (tOp (rIx K) (tC (.str ("01" : Str))) (tVar 5))) rfl sc_law.nd (pi_sq (pv 3)) (blkOk_by (own := [("_law_one", 5)]) (N := N_law) (sc := defScope s_law) (by decide +kernel)) (fun _ _ _ _ _ => (pg_name (i := 5) sc_law.nd rfl (Or.inl rfl))) (fun _ _ _ _ _ => pts_nil) (fun _ _ _ _ _ => (pe_ix ix_seq pe_str (pv 5) (fun _ _ => rfl))))))
    (pss_cons (ps_set (i := 6) sc_law.nd rfl (Or.inl rfl) (pe_lst (pa_cons (pe_cal c_bits_text hr pass0 (pa_cons (pv 3) pa_nil)) (pa_cons (pe_cal c_bits_text hr pass0 (pa_cons (pe_callTy b_tuple rfl g.n_tuple (by decide +kernel) (pa_cons (pv 3) pa_nil)) pa_nil)) (pa_cons (pe_calK0 (g := gApp) (ks := ["bits"]) c_bits_text hr pass0 (fun _ _ _ _ _ _ us ws h1 h2 => match us, ws, h1, h2 with | [], [_], _, _ => rfl) rel_app (pk_cons (pv 3) pk_nil)) pa_nil)))))
    (pss_cons (ps_if (PW.pt (pw_or (pt_cmpR (o_ne hr.rm.units) (pv 6) (pe_op o_mul (pe_lst (pa_cons (pv 4) pa_nil)) pe_int) (nomark _)) (pw_or1 (pt_cmpR (o_ne hr.rm.units) (pv 3) (pe_lc (own := [("_law_sign", 7)]) (g := (gName 7)) (tt := tYes) (te := (tCB rInt (tCons (tVar 7) tNil))) rfl sc_law.nd (pi_sq (pv 4)) (blkOk_by (own := [("_law_sign", 7)]) (N := N_law) (sc := defScope s_law) (by decide +kernel)) (fun _ _ _ _ _ => (pg_name (i := 7) sc_law.nd rfl (Or.inl rfl))) (fun _ _ _ _ _ => pts_nil) (fun _ _ _ _ _ => (pe_callTy b_int rfl g.n_int (by decide +kernel) (pa_cons (pv 7) pa_nil)))) (nomark _))))) (pss_one (ps_ret pe_bl)) pss_nil)
    (pss_cons (ps_set (i := 8) sc_law.nd rfl (Or.inl rfl) (pe_cal c__law_draw hr pass0 (pa_cons (pv 1) (pa_cons (pe_op o_add (pe_callB b_len rfl g.n_len (by decide +kernel) (pa_cons (pv 4) pa_nil)) pe_int) pa_nil))))
    (pss_cons (ps_set (i := 9) sc_law.nd rfl (Or.inl rfl) (pe_op o_add (pe_op o_add (pe_slice sl_any (pv 4) po_none (po_some (pv 8))) (pe_cal c__law_pick hr pass0 (pa_cons (pv 1) (pa_cons (pe_lst (pa_cons pe_str (pa_cons pe_str (pa_cons pe_str (pa_cons pe_str (pa_cons pe_str (pa_cons pe_str (pa_cons pe_str (pa_cons pe_str pa_nil))))))))) pa_nil)))) (pe_slice sl_any (pv 4) (po_some (pv 8)) po_none)))
    (pss_cons (ps_set (i := 10) sc_law.nd rfl (Or.inl rfl) (pe_cal c__law_draw hr pass0 (pa_cons (pv 1) (pa_cons (pe_op o_add (pe_callB b_len rfl g.n_len (by decide +kernel) (pa_cons (pv 3) pa_nil)) pe_int) pa_nil))))
    (pss_cons (ps_set (i := 11) sc_law.nd rfl (Or.inl rfl) (pe_op o_add (pe_op o_add (pe_slice sl_any (pv 3) po_none (po_some (pv 10))) (pe_lst (pa_cons (pe_cal c__law_pick hr pass0 (pa_cons (pv 1) (pa_cons (pe_lst (pa_cons pe_bl (pa_cons pe_int (pa_cons pe_non (pa_cons pe_str (pa_cons (pe_un un_neg pe_int) (pa_cons (pe_tup (pa_cons pe_int pa_nil)) pa_nil))))))) pa_nil))) pa_nil))) (pe_slice sl_any (pv 3) (po_some (pv 10)) po_none)))
    (pss_one (ps_for PassesOwn.never rfl (pi_sq (pe_lst (pa_cons (pv 3) (pa_cons (pe_callTy b_tuple rfl g.n_tuple (by decide +kernel) (pa_cons (pv 3) pa_nil)) (pa_cons (pv 4) (pa_cons (pv 9) (pa_cons (pv 11) (pa_cons (pe_callTy b_tuple rfl g.n_tuple (by decide +kernel) (pa_cons (pv 11) pa_nil)) (pa_cons (pe_cal c__law_odd hr pass0 (pa_cons (pv 1) pa_nil)) (pa_cons (pe_lst (pa_cons (pe_cal c__law_odd hr pass0 (pa_cons (pv 1) pa_nil)) pa_nil)) pa_nil)))))))))) (pg_name (i := 12) sc_law.nd rfl (Or.inl rfl)) (pss_one (ps_if (pt_not (pt_tr (pe_cal c__law_thing_right hr pass0 (pa_cons (pv 12) pa_nil)))) (pss_one (ps_ret pe_bl)) pss_nil)))))))))))))
    (pss_one (ps_ret (pe_andT (pe_cmpR (o_eq hr.rm.units) (pe_cal c_bits_text hr pass0 (pa_cons (pe_tup pa_nil) pa_nil)) pe_str (nomark _)) (pe_one (pe_cmpR (o_eq hr.rm.units) (pe_cal c_bits_text hr pass0 (pa_cons (pe_lst (pa_cons pe_int (pa_cons pe_int (pa_cons pe_int pa_nil)))) pa_nil)) pe_str (nomark _))))))))
theorem ok_law (g : Glb P K mg) (F : Fd K "law" "law" s_law f fd) (c__law_pen : Cal false P w K mg base CX0 1 s__law_pen "_law_pen" ["_law_script"] (spPen K (tabs K))) (c__law_row : Cal false P w K mg base CX0 3 s__law_row "_law_row" ["_law_pen_here", "_law_most"] (spD K mg (tabs K) S__law_row)) (c_bits_text : Cal false P w K mg base CX0 1 s_bits_text "bits_text" ["bits"] (spD K mg (tabs K) S_bits_text)) (c__law_draw : Cal false P w K mg base CX0 1 s__law_draw "_law_draw" ["_law_pen_here", "_law_many"] (spD K mg (tabs K) S_draw)) (c__law_pick : Cal false P w K mg base CX0 2 s__law_pick "_law_pick" ["_law_pen_here", "_law_some"] (spD K mg (tabs K) S__law_pick)) (c__law_odd : Cal false P w K mg base CX0 3 s__law_odd "_law_odd" ["_law_pen_here"] (spD K mg (tabs K) S__law_odd)) (c__law_thing_right : Cal true P w K mg base CX0 8 s__law_thing_right "_law_thing_right" ["_law_thing"] (spD K mg (tabs K) S__law_thing_right)) : FnG true P w K mg base CX0 9 f fd ["_law_script"] (spLaw K (tabs K)) :=
  okG0 F sc_law (fun vs H Q E h => by obtain ⟨_, _, rfl, _⟩ := h; rfl) fun cdv A outer s H vs Q E hr h => ⟨t_law K mg (tabs K), d_law g hr c__law_pen c__law_row c_bits_text c__law_draw c__law_pick c__law_odd c__law_thing_right, law_body (mg := mg) (T := (tabs K)) (m := N_law.length - 2) rfl most_ok (fun c hK hm hT her => by subst hK hm; rw [← hT]; exact w_law c g her) h⟩
end
def dd__law_pen : He.DefD := ⟨("_law_pen", none), "_law_pen", "_law_pen", defArgs s__law_pen, defBody s__law_pen, defScope s__law_pen, [], []⟩
def dd__law_draw : He.DefD := ⟨("_law_draw", none), "_law_draw", "_law_draw", defArgs s__law_draw, defBody s__law_draw, defScope s__law_draw, [], []⟩
def dd__law_pick : He.DefD := ⟨("_law_pick", none), "_law_pick", "_law_pick", defArgs s__law_pick, defBody s__law_pick, defScope s__law_pick, [], []⟩
def dd__law_row : He.DefD := ⟨("_law_row", none), "_law_row", "_law_row", defArgs s__law_row, defBody s__law_row, defScope s__law_row, [], []⟩
def dd_bits_text : He.DefD := ⟨("bits_text", none), "bits_text", "bits_text", defArgs s_bits_text, defBody s_bits_text, defScope s_bits_text, [], []⟩
def dd__law_odd : He.DefD := ⟨("_law_odd", none), "_law_odd", "_law_odd", defArgs s__law_odd, defBody s__law_odd, defScope s__law_odd, [], []⟩
def dd_is_integer : He.DefD := ⟨("is_integer", none), "is_integer", "is_integer", defArgs s_is_integer, defBody s_is_integer, defScope s_is_integer, [], []⟩
def dd_is_between : He.DefD := ⟨("is_between", none), "is_between", "is_between", defArgs s_is_between, defBody s_is_between, defScope s_is_between, [], []⟩
def dd_is_bit : He.DefD := ⟨("is_bit", none), "is_bit", "is_bit", defArgs s_is_bit, defBody s_is_bit, defScope s_is_bit, [], []⟩
def dd_is_bits : He.DefD := ⟨("is_bits", none), "is_bits", "is_bits", defArgs s_is_bits, defBody s_is_bits, defScope s_is_bits, [], []⟩
def dd__law_is_one : He.DefD := ⟨("_law_is_one", none), "_law_is_one", "_law_is_one", defArgs s__law_is_one, defBody s__law_is_one, defScope s__law_is_one, [], []⟩
def dd__law_is_row : He.DefD := ⟨("_law_is_row", none), "_law_is_row", "_law_is_row", defArgs s__law_is_row, defBody s__law_is_row, defScope s__law_is_row, [], []⟩
def dd__law_written : He.DefD := ⟨("_law_written", none), "_law_written", "_law_written", defArgs s__law_written, defBody s__law_written, defScope s__law_written, [], []⟩
def dd__law_heard : He.DefD := ⟨("_law_heard", none), "_law_heard", "_law_heard", defArgs s__law_heard, defBody s__law_heard, defScope s__law_heard, [], []⟩
def dd_read_bits : He.DefD := ⟨("read_bits", none), "read_bits", "read_bits", defArgs s_read_bits, defBody s_read_bits, defScope s_read_bits, [], []⟩
def dd__law_thing_right : He.DefD := ⟨("_law_thing_right", none), "_law_thing_right", "_law_thing_right", defArgs s__law_thing_right, defBody s__law_thing_right, defScope s__law_thing_right, [], []⟩
def dd_law : He.DefD := ⟨("law", none), "law", "law", defArgs s_law, defBody s_law, defScope s_law, [], []⟩
def fnL : List He.DefD := [dd__law_pen, dd__law_draw, dd__law_pick, dd__law_row, dd_bits_text, dd__law_odd, dd_is_integer, dd_is_between, dd_is_bit, dd_is_bits, dd__law_is_one, dd__law_is_row, dd__law_written, dd__law_heard, dd_read_bits, dd__law_thing_right, dd_law]
def faL : List He.Fa := [.glo "_law_pen", .glo "_law_draw", .glo "_law_pick", .glo "_law_row", .glo "bits_text", .glo "_law_odd", .glo "is_integer", .glo "is_between", .glo "is_bit", .glo "is_bits", .glo "_law_is_one", .glo "_law_is_row", .glo "_law_written", .glo "_law_heard", .glo "read_bits", .glo "_law_thing_right", .glo "law", .free "abs", .free "all", .free "bool", .free "int", .free "isinstance", .free "len", .free "list", .free "range", .free "repr", .free "str", .free "tuple", .str "DIGITS" "01", .glo "InvalidBits", .glo "InvalidName", .glo "PathError", .free "super"]
abbrev si_InvalidBits : Stmt := inClass (top 3) 0
theorem tx_InvalidBits : SuTx si_InvalidBits "value" where
  body := ⟨_, _, _, _, _, _, _, _, _, _, rfl, fun env he => ⟨_, rfl⟩, fun env he => rfl⟩
  par := ⟨_, rfl, rfl⟩
  kind := rfl
  co := rfl
  gen := rfl
  nc := by decide +kernel
  n1 := by decide +kernel
  n2 := by decide +kernel
  n3 := by decide +kernel
  n4 := by decide +kernel
  ne := by decide
  db := by decide
  bnd := fun _ _ _ _ _ _ _ _ _ _ _ => .of_eq rfl
def suL : List Str := ["InvalidBits"]
def svL : List SuW := [suV "InvalidBits.__init__" si_InvalidBits]
def tfL : List He.Defn := [("_law_thing_right", none)]
def exL (K : PySem.W.Frag) : Bool := suB PySem.Challenge.pw_pathbits_k02_bits_and_their_digits.main.file K "InvalidBits" "value" && ((K.lookup sysModules).isSome && (ecB K (He.ga K "InvalidBits") && (He.eqO (PySem.W.findIn K (.ref (He.ga K "InvalidBits")) "value") (some none) && (decide (PySem.W.kitOne K (.ref (He.ga K "InvalidBits")) (.ref (He.ga K "InvalidBits")) = some true) && (decide (PySem.W.kitOne K (.ref (He.ga K "InvalidBits")) (.ref (He.ga K "InvalidName")) = some false) && (decide (PySem.W.exmOne K (.ref (He.ga K "InvalidBits")) (.ref (He.ga K "PathError")) = some true)))))))
abbrev RR : PySem.W.OpenRow := PySem.W.OpenLaw.row PySem.Challenge.rw_pathbits_k02_bits_and_their_digits
abbrev hkL : PySem.W.Hook := hookU 4 faL fnL suL svL tfL exL
def obL (s : PySem.W.SharedT) : AlU := obsU 4 faL fnL suL tfL exL (HandSHeadRun.getT s)
theorem obL_eq (s : PySem.W.SharedT) : obL s = hkL.obs s.abs := obsU_eq (HandSHeadRun.getT_eq s)
theorem run (w : World) : HandSHeadRun.RunEq RR (PySem.W.view RR.prog [23]) hkL obL 4000 ["PathError", "InvalidName", "InvalidBits", "DIGITS", "is_integer", "is_between", "is_bit", "is_bits", "bits_text", "read_bits", "_law_pen", "_law_draw", "_law_pick", "_law_row", "_law_odd", "_law_is_one", "_law_is_row", "_law_written", "_law_heard", "_law_thing_right"] w := by
  intro os
  kernel_rfl
theorem facts {w : World} {K : PySem.W.Frag} {h : Heap} {mg : Str → Option Value} {f : Addr} (X : K.In h) (G : h.Ns mainGlobals mg) (hfa : mg ("law" : Str) = some (.ref f)) (c : SaysU faL fnL suL svL tfL exL h K) :
    ∃ fd : FuncData, (∀ (s : Shared) (v : Value), BindsTo s fd ⟨[v], []⟩ [("_law_script", v)]) ∧ ∀ base : Heap, K.In base → base.Ns mainGlobals mg → (∀ p ∈ tfL.map (He.cT K), LamX.TabB base mg p.1 p.2) → FnG true (PySem.Challenge.rw_pathbits_k02_bits_and_their_digits).prog w K mg base CX0 9 f fd ["_law_script"] (spLaw K (tabs K)) := by
  have B0 := c.more
  unfold exL at B0
  obtain ⟨b0, B1⟩ := He.ba B0
  obtain ⟨b1, B2⟩ := He.ba B1
  obtain ⟨b2, B3⟩ := He.ba B2
  obtain ⟨b3, B4⟩ := He.ba B3
  obtain ⟨b4, B5⟩ := He.ba B4
  obtain ⟨b5, B6⟩ := He.ba B5
  have b6 := B6
  have g : Glb (PySem.Challenge.rw_pathbits_k02_bits_and_their_digits).prog K mg := ⟨He.free_ok X G (c.d.fact 17 (f := .free "abs") rfl),
    He.free_ok X G (c.d.fact 18 (f := .free "all") rfl),
    He.free_ok X G (c.d.fact 19 (f := .free "bool") rfl),
    He.free_ok X G (c.d.fact 20 (f := .free "int") rfl),
    He.free_ok X G (c.d.fact 21 (f := .free "isinstance") rfl),
    He.free_ok X G (c.d.fact 22 (f := .free "len") rfl),
    He.free_ok X G (c.d.fact 23 (f := .free "list") rfl),
    He.free_ok X G (c.d.fact 24 (f := .free "range") rfl),
    He.free_ok X G (c.d.fact 25 (f := .free "repr") rfl),
    He.free_ok X G (c.d.fact 26 (f := .free "str") rfl),
    He.free_ok X G (c.d.fact 27 (f := .free "tuple") rfl),
    (let ⟨t, e⟩ := He.str_ok X G (c.d.fact 28 (f := .str "DIGITS" "01") rfl); ⟨.str "01" t, e, ⟨t, rfl⟩⟩),
    He.glo_ok X G (c.d.fact 29 (f := .glo "InvalidBits") rfl),
    He.glo_ok X G (c.d.fact 30 (f := .glo "InvalidName") rfl),
    He.glo_ok X G (c.d.fact 31 (f := .glo "PathError") rfl),
    supT_of b0 (c.sup 0 rfl rfl) (tx_InvalidBits) (He.free_ok X G (c.d.fact 32 (f := .free "super") rfl)) rfl,
    Option.isSome_iff_exists.mp b1,
    b2,
    He.eqO_ok b3,
    of_decide_eq_true b4,
    of_decide_eq_true b5,
    of_decide_eq_true b6⟩
  obtain ⟨fd__law_pen, F__law_pen⟩ := c.d.def_ 0 (d := dd__law_pen) rfl
  have m__law_pen := He.glo_ok X G (c.d.fact 0 (f := .glo "_law_pen") rfl)
  obtain ⟨fd__law_draw, F__law_draw⟩ := c.d.def_ 1 (d := dd__law_draw) rfl
  have m__law_draw := He.glo_ok X G (c.d.fact 1 (f := .glo "_law_draw") rfl)
  obtain ⟨fd__law_pick, F__law_pick⟩ := c.d.def_ 2 (d := dd__law_pick) rfl
  have m__law_pick := He.glo_ok X G (c.d.fact 2 (f := .glo "_law_pick") rfl)
  obtain ⟨fd__law_row, F__law_row⟩ := c.d.def_ 3 (d := dd__law_row) rfl
  have m__law_row := He.glo_ok X G (c.d.fact 3 (f := .glo "_law_row") rfl)
  obtain ⟨fd_bits_text, F_bits_text⟩ := c.d.def_ 4 (d := dd_bits_text) rfl
  have m_bits_text := He.glo_ok X G (c.d.fact 4 (f := .glo "bits_text") rfl)
  obtain ⟨fd__law_odd, F__law_odd⟩ := c.d.def_ 5 (d := dd__law_odd) rfl
  have m__law_odd := He.glo_ok X G (c.d.fact 5 (f := .glo "_law_odd") rfl)
  obtain ⟨fd_is_integer, F_is_integer⟩ := c.d.def_ 6 (d := dd_is_integer) rfl
  have m_is_integer := He.glo_ok X G (c.d.fact 6 (f := .glo "is_integer") rfl)
  obtain ⟨fd_is_between, F_is_between⟩ := c.d.def_ 7 (d := dd_is_between) rfl
  have m_is_between := He.glo_ok X G (c.d.fact 7 (f := .glo "is_between") rfl)
  obtain ⟨fd_is_bit, F_is_bit⟩ := c.d.def_ 8 (d := dd_is_bit) rfl
  have m_is_bit := He.glo_ok X G (c.d.fact 8 (f := .glo "is_bit") rfl)
  obtain ⟨fd_is_bits, F_is_bits⟩ := c.d.def_ 9 (d := dd_is_bits) rfl
  have m_is_bits := He.glo_ok X G (c.d.fact 9 (f := .glo "is_bits") rfl)
  obtain ⟨fd__law_is_one, F__law_is_one⟩ := c.d.def_ 10 (d := dd__law_is_one) rfl
  have m__law_is_one := He.glo_ok X G (c.d.fact 10 (f := .glo "_law_is_one") rfl)
  obtain ⟨fd__law_is_row, F__law_is_row⟩ := c.d.def_ 11 (d := dd__law_is_row) rfl
  have m__law_is_row := He.glo_ok X G (c.d.fact 11 (f := .glo "_law_is_row") rfl)
  obtain ⟨fd__law_written, F__law_written⟩ := c.d.def_ 12 (d := dd__law_written) rfl
  have m__law_written := He.glo_ok X G (c.d.fact 12 (f := .glo "_law_written") rfl)
  obtain ⟨fd__law_heard, F__law_heard⟩ := c.d.def_ 13 (d := dd__law_heard) rfl
  have m__law_heard := He.glo_ok X G (c.d.fact 13 (f := .glo "_law_heard") rfl)
  obtain ⟨fd_read_bits, F_read_bits⟩ := c.d.def_ 14 (d := dd_read_bits) rfl
  have m_read_bits := He.glo_ok X G (c.d.fact 14 (f := .glo "read_bits") rfl)
  obtain ⟨fd__law_thing_right, F__law_thing_right⟩ := c.d.def_ 15 (d := dd__law_thing_right) rfl
  have m__law_thing_right := He.glo_ok X G (c.d.fact 15 (f := .glo "_law_thing_right") rfl)
  obtain ⟨fd_law, F_law⟩ := c.d.def_ 16 (d := dd_law) rfl
  have m_law := He.glo_ok X G (c.d.fact 16 (f := .glo "law") rfl)
  have e := hfa.symm.trans m_law
  cases e
  have b := FunD.bindsA (ps := ["_law_script"]) F_law fun _ _ _ _ _ _ us hl => match us, hl with | [_], _ => rfl
  have hb__law_heard : Binds K fd__law_heard ["_law_ask"] [] := FunD.bindsN F__law_heard fun _ _ _ _ _ _ us hl => match us, hl with | [_], _ => rfl
  refine ⟨fd_law, fun s v => b s [v] rfl, fun base _ _ hTB => ?_⟩
  have k__law_pen := cal__law_pen (P := (PySem.Challenge.rw_pathbits_k02_bits_and_their_digits).prog) (w := w) (base := base) g m__law_pen F__law_pen  
  have k__law_draw := cal__law_draw (P := (PySem.Challenge.rw_pathbits_k02_bits_and_their_digits).prog) (w := w) (base := base) g m__law_draw F__law_draw  
  have k__law_pick := cal__law_pick (P := (PySem.Challenge.rw_pathbits_k02_bits_and_their_digits).prog) (w := w) (base := base) g m__law_pick F__law_pick  k__law_draw
  have k__law_row := cal__law_row (P := (PySem.Challenge.rw_pathbits_k02_bits_and_their_digits).prog) (w := w) (base := base) g m__law_row F__law_row  k__law_pick k__law_draw
  have k_bits_text := cal_bits_text (P := (PySem.Challenge.rw_pathbits_k02_bits_and_their_digits).prog) (w := w) (base := base) g m_bits_text F_bits_text  
  have k__law_odd := cal__law_odd (P := (PySem.Challenge.rw_pathbits_k02_bits_and_their_digits).prog) (w := w) (base := base) g m__law_odd F__law_odd  k__law_pick
  have k_is_integer := cal_is_integer (P := (PySem.Challenge.rw_pathbits_k02_bits_and_their_digits).prog) (w := w) (base := base) g m_is_integer F_is_integer  
  have k_is_between := cal_is_between (P := (PySem.Challenge.rw_pathbits_k02_bits_and_their_digits).prog) (w := w) (base := base) g m_is_between F_is_between  k_is_integer
  have k_is_bit := cal_is_bit (P := (PySem.Challenge.rw_pathbits_k02_bits_and_their_digits).prog) (w := w) (base := base) g m_is_bit F_is_bit  k_is_between
  have k_is_bits := cal_is_bits (P := (PySem.Challenge.rw_pathbits_k02_bits_and_their_digits).prog) (w := w) (base := base) g m_is_bits F_is_bits  k_is_bit
  have k__law_is_one := cal__law_is_one (P := (PySem.Challenge.rw_pathbits_k02_bits_and_their_digits).prog) (w := w) (base := base) g m__law_is_one F__law_is_one  
  have k__law_is_row := cal__law_is_row (P := (PySem.Challenge.rw_pathbits_k02_bits_and_their_digits).prog) (w := w) (base := base) g m__law_is_row F__law_is_row  k__law_is_one
  have k__law_written := cal__law_written (P := (PySem.Challenge.rw_pathbits_k02_bits_and_their_digits).prog) (w := w) (base := base) g m__law_written F__law_written  
  have k_read_bits := cal_read_bits (P := (PySem.Challenge.rw_pathbits_k02_bits_and_their_digits).prog) (w := w) (base := base) g m_read_bits F_read_bits  
  have k__law_thing_right := cal__law_thing_right (P := (PySem.Challenge.rw_pathbits_k02_bits_and_their_digits).prog) (w := w) (base := base) g m__law_thing_right F__law_thing_right F__law_heard m__law_heard hb__law_heard (hTB _ (List.mem_map_of_mem (by decide))) rfl k_is_bits k_is_bit k__law_is_one k__law_is_row k__law_written k_read_bits
  exact ok_law g F_law  k__law_pen k__law_row k_bits_text k__law_draw k__law_pick k__law_odd k__law_thing_right
end Pb.K02
open PySem PySem.W PySem.Calls PyProof.Rows
theorem PySem.Challenge.cw_pathbits_k02_bits_and_their_digits_holds : PySem.Challenge.rw_pathbits_k02_bits_and_their_digits.Holds := by
  w_on; o_law
  refine HandSHeadRun.head_any (r := OpenLaw.row PySem.Challenge.rw_pathbits_k02_bits_and_their_digits) (q := view (OpenLaw.row PySem.Challenge.rw_pathbits_k02_bits_and_their_digits).prog [23]) (H := Pb.K02.hkL) (ob := Pb.K02.obL) (M := 4000) (loose := ["PathError", "InvalidName", "InvalidBits", "DIGITS", "is_integer", "is_between", "is_bit", "is_bits", "bits_text", "read_bits", "_law_pen", "_law_draw", "_law_pick", "_law_row", "_law_odd", "_law_is_one", "_law_is_row", "_law_written", "_law_heard", "_law_thing_right"]) (d := HandSHeadRun.topDef (OpenLaw.row PySem.Challenge.rw_pathbits_k02_bits_and_their_digits).prog 23) (kwd := []) Pb.K02.obL_eq
    (by kernel_rfl) (fun s => by kernel_rfl) Pb.K02.run (by kernel_rfl) (by kernel_rfl) (by kernel_rfl) (by rfl) (by first | assumption | decide +kernel) (by decide +kernel) ⟨rfl, rfl, rfl, rfl, rfl, by decide +kernel⟩ ?hw ?hc
  case hw => w_witness2
  case hc =>
    refine Pb.walkGT (l := PySem.Challenge.rw_pathbits_k02_bits_and_their_digits) (n := 63) (k := 9) (x := "_law_script") (CX := fun _ => L2.CX0) rfl (by decide) (by kernel_rfl) ⟨⟨rfl, by decide, by decide⟩, fun _ => rfl⟩ ?F (fun _ _ _ _ _ z => z)
    intro w mg fa h Y G hmg0
    obtain ⟨K, KX, c⟩ := Y
    have hmg : mg ("law" : PySem.Str) = some (.ref fa) := by
      have e : (HandSHeadRun.topDef (OpenLaw.row PySem.Challenge.rw_pathbits_k02_bits_and_their_digits).prog 23).name = ("law" : PySem.Str) := by kernel_rfl
      rw [← e]
      exact hmg0
    obtain ⟨fd, hb, hF⟩ := Pb.K02.facts (w := w) KX G hmg c
    have per : ∀ q ∈ Pb.K02.tfL.map (He.cT K), ∃ p ∈ Pb.K02.tfL, He.cT K p = q := fun q hq => List.mem_map.mp hq
    refine ⟨K, fd, Pb.spLaw K (Pb.K02.tabs K), Pb.K02.tfL.map (He.cT K), KX, fun q hq => ?_, fun q hq => ?_, fun q hq => ?_, hb, fun H a ns hl hT hS => ⟨a, ns, rfl, hS, hl, ?_, fun _ => rfl⟩, hF⟩
    · obtain ⟨p, hp, rfl⟩ := per q hq
      exact c.empty p hp
    · obtain ⟨p, hp, rfl⟩ := per q hq
      exact c.out p hp
    · obtain ⟨p, hp, rfl⟩ := per q hq
      exact PySem.W.codeHd_of_K KX (c.hd p hp)
    · intro q hq
      have hq' : ∃ p ∈ Pb.K02.tfL, (He.cT K p).2 = q.1 := by
        simp only [Pb.K02.tabs, List.mem_cons, List.mem_nil_iff, or_false] at hq
        rcases hq with rfl
        · exact ⟨("_law_thing_right", none), by decide, rfl⟩
      obtain ⟨p, hp, e⟩ := hq'
      exact LamX.TabS.nil (by rw [← e]; exact hT _ (List.mem_map_of_mem hp))
